import PyProof.Rows.All
import Wide.All
import OpenK.AllK
import Wide.FinOn
import PySem.Challenge.RW_nearland_k36_whole_turned_to_the_net
import HandS.ForMost
import HandS.Wide
import HandS.Deep
import KE.SortData
import KE.DataMinMax
import HandS.NoneIn
import HandS.RevTup
import HandS.Rev
import KE.KDictList
import KE.KDictKeyed
import HandS.DictTup
import PyProof.StrBlock2
import HandS.IsInst
import HandS.TupSets
import HandS.EndBits
set_option Elab.async false
set_option linter.all false
set_option maxRecDepth 100000
set_option maxHeartbeats 8000000
set_option exponentiation.threshold 4096
/-! Plain mathematics: places, twice the area, covers. No program. -/
namespace NK
abbrev Pl := Int × Int
/-- twice the area -/
def tw (a b c : Pl) : Int := (b.1 - a.1) * (c.2 - a.2) - (b.2 - a.2) * (c.1 - a.1)
/-- the same of a homogeneous point x = (X, Y, W) -/
def tx (a b : Pl) (x : Int × Int × Int) : Int := (b.1 - a.1) * (x.2.1 - a.2 * x.2.2) - (b.2 - a.2) * (x.1 - a.1 * x.2.2)
theorem tw_rot (a b c : Pl) : tw b c a = tw a b c := by unfold tw; grind
theorem tw_rot2 (a b c : Pl) : tw c a b = tw a b c := by unfold tw; grind
theorem tw_swap (a b c : Pl) : tw b a c = - tw a b c := by unfold tw; grind
theorem tw_swap2 (a b c : Pl) : tw a c b = - tw a b c := by unfold tw; grind
theorem tw_aab (a b : Pl) : tw a a b = 0 := by unfold tw; grind
theorem tw_aba (a b : Pl) : tw a b a = 0 := by unfold tw; grind
theorem tw_abb (a b : Pl) : tw a b b = 0 := by unfold tw; grind
theorem tw_sum (a b c d : Pl) : tw a b c = tw d b c + tw a d c + tw a b d := by unfold tw; grind
theorem tx_swap (a b : Pl) (x) : tx b a x = - tx a b x := by unfold tx; grind
theorem tx_sum (a b c : Pl) (x) : tx a b x + tx b c x + tx c a x = x.2.2 * tw a b c := by unfold tx tw; grind
/-- a homogeneous place -/
def hp (p : Pl) : Int × Int × Int := (p.1, p.2, 1)
theorem tx_hp (a b p : Pl) : tx a b (hp p) = tw a b p := by unfold tx tw hp; grind
/-- x in the place's coordinates by the corners of a triangle -/
theorem tx_bary (a b c e f : Pl) (x) : tw a b c * tx e f x = tx b c x * tw e f a + tx c a x * tw e f b + tx a b x * tw e f c := by unfold tx tw; grind
theorem tw_bary (a b c e f p : Pl) : tw a b c * tw e f p = tw b c p * tw e f a + tw c a p * tw e f b + tw a b p * tw e f c := by unfold tw; grind

/-- (x, y, z) is (a, b, c), turned round -/
def rot3 (a b c x y z : Pl) : Prop := (x = a ∧ y = b ∧ z = c) ∨ (x = b ∧ y = c ∧ z = a) ∨ (x = c ∧ y = a ∧ z = b)
theorem rot3.refl (a b c : Pl) : rot3 a b c a b c := .inl ⟨rfl, rfl, rfl⟩
theorem rot3.symm {a b c x y z : Pl} (h : rot3 a b c x y z) : rot3 x y z a b c := by unfold rot3 at *; grind
theorem rot3.trans {a b c x y z u v w : Pl} (h : rot3 a b c x y z) (k : rot3 x y z u v w) : rot3 a b c u v w := by unfold rot3 at *; grind
theorem rot3.rot {a b c x y z : Pl} (h : rot3 a b c x y z) : rot3 a b c y z x := by unfold rot3 at *; grind
theorem rot3.tw {a b c x y z : Pl} (h : rot3 a b c x y z) : tw x y z = tw a b c := by
  rcases h with ⟨rfl, rfl, rfl⟩ | ⟨rfl, rfl, rfl⟩ | ⟨rfl, rfl, rfl⟩
  · rfl
  · exact tw_rot _ _ _
  · exact tw_rot2 _ _ _

/-- a homogeneous point strictly within a triangle to the left -/
def Inn (a b c : Pl) (x : Int × Int × Int) : Prop := 0 < tx a b x ∧ 0 < tx b c x ∧ 0 < tx c a x
theorem Inn.rot {a b c : Pl} {x} (h : Inn a b c x) : Inn b c a x := ⟨h.2.1, h.2.2, h.1⟩
theorem Inn.rot3 {a b c u v w : Pl} {x} (h : Inn a b c x) (r : rot3 a b c u v w) : Inn u v w x := by
  rcases r with ⟨rfl, rfl, rfl⟩ | ⟨rfl, rfl, rfl⟩ | ⟨rfl, rfl, rfl⟩
  · exact h
  · exact h.rot
  · exact h.rot.rot

abbrev Trs := Pl → Pl → Pl → Prop
/-- triangles over places: all of a cover but that each place is a corner -/
structure Cov0 (P : Pl → Prop) (T : Trs) : Prop where
  rot : ∀ {a b c}, T a b c → T b c a
  inP : ∀ {a b c}, T a b c → P a
  pos : ∀ {a b c}, T a b c → 0 < tw a b c
  emp : ∀ {a b c p}, T a b c → P p → 0 ≤ tw a b p → 0 ≤ tw b c p → 0 ≤ tw c a p → p = a ∨ p = b ∨ p = c
  dis : ∀ {a b c e f g x}, T a b c → T e f g → Inn a b c x → Inn e f g x → rot3 a b c e f g
  bd : ∀ {a b c p}, T a b c → (∀ d, ¬ T b a d) → P p → 0 ≤ tw a b p
structure Cov (P : Pl → Prop) (T : Trs) : Prop extends Cov0 P T where
  cor : ∀ {p}, P p → ∃ b c, T p b c

section
variable {P : Pl → Prop} {T : Trs} (C : Cov0 P T)
include C
theorem Cov0.inP2 {a b c : Pl} (h : T a b c) : P b := C.inP (C.rot h)
theorem Cov0.inP3 {a b c : Pl} (h : T a b c) : P c := C.inP (C.rot (C.rot h))
theorem Cov0.of_rot3 {a b c x y z : Pl} (h : T a b c) (r : rot3 a b c x y z) : T x y z := by
  rcases r with ⟨rfl, rfl, rfl⟩ | ⟨rfl, rfl, rfl⟩ | ⟨rfl, rfl, rfl⟩
  · exact h
  · exact C.rot h
  · exact C.rot (C.rot h)
theorem Cov0.ne {a b c : Pl} (h : T a b c) : a ≠ b ∧ b ≠ c ∧ c ≠ a := by
  have hp := C.pos h
  refine ⟨?_, ?_, ?_⟩ <;> rintro rfl
  · rw [tw_aab] at hp; omega
  · rw [tw_abb] at hp; omega
  · rw [tw_aba] at hp; omega
end

theorem pos_of {a b : Int} (h : 0 < a * b) (ha : 0 < a) : 0 < b := by
  rcases Int.lt_trichotomy b 0 with k | k | k
  · have := Int.mul_nonneg (Int.le_of_lt ha) (show 0 ≤ - b by omega)
    grind
  · rw [k] at h; simp at h
  · exact k
theorem nn_of {a b : Int} (h : 0 ≤ a * b) (ha : 0 < a) : 0 ≤ b := by
  rcases Int.lt_or_le b 0 with k | k
  · have := Int.mul_pos ha (show 0 < - b by omega)
    grind
  · exact k
/-- big enough: k * p + q is above 0 -/
theorem big {p q k : Int} (hp : 0 < p) (hk : q.natAbs < k) : 0 < k * p + q := by
  have h1 : k ≤ k * p := by
    have := Int.mul_le_mul_of_nonneg_left (show (1 : Int) ≤ p by omega) (show 0 ≤ k by omega)
    omega
  omega

theorem Cov0.uni {P : Pl → Prop} {T : Trs} (C : Cov0 P T) {a b c d : Pl} (h : T a b c) (h' : T a b d) : c = d := by
  have p1 := C.pos h
  have p2 := C.pos h'
  let k : Int := (tw b c d).natAbs + (tw c a d).natAbs + (tw b d c).natAbs + (tw d a c).natAbs + 1
  let x : Int × Int × Int := (k * (a.1 + b.1) + c.1 + d.1, k * (a.2 + b.2) + c.2 + d.2, 2 * k + 2)
  have e1 : tx a b x = tw a b c + tw a b d := by simp only [x]; unfold tx tw; grind
  have e2 : tx b c x = k * tw a b c + tw b c d := by simp only [x]; unfold tx tw; grind
  have e3 : tx c a x = k * tw a b c + tw c a d := by simp only [x]; unfold tx tw; grind
  have e4 : tx b d x = k * tw a b d + tw b d c := by simp only [x]; unfold tx tw; grind
  have e5 : tx d a x = k * tw a b d + tw d a c := by simp only [x]; unfold tx tw; grind
  have i1 : Inn a b c x := ⟨by omega, by rw [e2]; exact big p1 (by omega), by rw [e3]; exact big p1 (by omega)⟩
  have i2 : Inn a b d x := ⟨by omega, by rw [e4]; exact big p2 (by omega), by rw [e5]; exact big p2 (by omega)⟩
  have n1 := C.ne h
  have r := C.dis h h' i1 i2
  unfold rot3 at r
  grind

/-! ### turning a side over -/
theorem cross_signs {a b c d : Pl} (h1 : 0 < tw a b c) (h2 : 0 < tw b a d) (hx : tw c d a * tw c d b < 0) : 0 < tw a d c ∧ 0 < tw d b c := by
  have s := tw_sum a b c d
  have e1 : tw c d a = - tw a d c := by unfold tw; grind
  have e2 : tw c d b = tw d b c := by unfold tw; grind
  have e3 : tw a b d = - tw b a d := by unfold tw; grind
  rw [e1, e2] at hx
  have hs : 0 < tw d b c + tw a d c := by omega
  by_cases g : 0 < tw a d c
  · refine ⟨g, ?_⟩
    rcases Int.lt_trichotomy (tw d b c) 0 with k | k | k
    · have := Int.mul_nonneg (Int.le_of_lt g) (show 0 ≤ - tw d b c by omega)
      grind
    · rw [k] at hx; simp at hx
    · exact k
  · exfalso
    have k : 0 < tw d b c := by omega
    have := Int.mul_nonneg (Int.le_of_lt k) (show 0 ≤ - tw a d c by omega)
    grind

/-- the triangles with the side a b turned over -/
def flipT (T : Trs) (a b c d : Pl) : Trs := fun x y z =>
  (T x y z ∧ ¬ rot3 a b c x y z ∧ ¬ rot3 b a d x y z) ∨ rot3 a d c x y z ∨ rot3 d b c x y z

theorem fresh {P : Pl → Prop} {T : Trs} (C : Cov0 P T) {a b c d : Pl} (h1 : T a b c) (h2 : T b a d) (g1 : 0 < tw a d c) (g2 : 0 < tw d b c) (e : Pl) : ¬ T c d e := by
  intro h3
  have p1 := C.pos h1
  have p3 := C.pos h3
  let m : Int := (tw a b d).natAbs + 1
  let k : Int := (tw a b e).natAbs + (tw b c e).natAbs + (tw c a e).natAbs + 1
  let x : Int × Int × Int := (k * (m * c.1 + d.1) + e.1, k * (m * c.2 + d.2) + e.2, k * (m + 1) + 1)
  have f1 : tx c d x = tw c d e := by simp only [x]; unfold tx tw; grind
  have f2 : tx d e x = k * (m * tw c d e) + 0 := by simp only [x]; unfold tx tw; grind
  have f3 : tx e c x = k * tw c d e + 0 := by simp only [x]; unfold tx tw; grind
  have f4 : tx a b x = k * (m * tw a b c + tw a b d) + tw a b e := by simp only [x]; unfold tx tw; grind
  have f5 : tx b c x = k * tw d b c + tw b c e := by simp only [x]; unfold tx tw; grind
  have f6 : tx c a x = k * tw a d c + tw c a e := by simp only [x]; unfold tx tw; grind
  have hm : 0 < m * tw a b c + tw a b d := big p1 (by omega)
  have hm2 : 0 < m * tw c d e := Int.mul_pos (by omega) p3
  have i1 : Inn a b c x := ⟨by rw [f4]; exact big hm (by omega), by rw [f5]; exact big g2 (by omega), by rw [f6]; exact big g1 (by omega)⟩
  have i3 : Inn c d e x := ⟨by rw [f1]; exact p3, by rw [f2]; exact big hm2 (by omega), by rw [f3]; exact big p3 (by omega)⟩
  have r := C.dis h1 h3 i1 i3
  have n1 := C.ne h1
  have n2 := C.ne h2
  unfold rot3 at r
  grind

/-- a point within a new triangle can be moved off the side that went, into one of the old ones -/
theorem flip_move {a b c d e f g : Pl} {x : Int × Int × Int} (p1 : 0 < tw a b c) (p2 : 0 < tw b a d) (g1 : 0 < tw a d c) (g2 : 0 < tw d b c) (i : Inn a d c x) (j : Inn e f g x) :
    ∃ y, Inn e f g y ∧ (Inn a b c y ∨ Inn b a d y) := by
  obtain ⟨i1, i2, i3⟩ := i
  have q1 : 0 < tx b c x := by
    have e1 : tw a d c * tx b c x = tx d c x * tw a b c + tx a d x * 0 + tx c a x * tw d b c := by unfold tx tw; grind
    have := Int.mul_pos i2 p1
    have := Int.mul_pos i3 g2
    exact pos_of (a := tw a d c) (by omega) g1
  have q2 : 0 < tx d b x := by
    have e1 : tw a d c * tx d b x = tx d c x * tw b a d + tx c a x * 0 + tx a d x * tw d b c := by unfold tx tw; grind
    have := Int.mul_pos i2 p2
    have := Int.mul_pos i1 g2
    exact pos_of (a := tw a d c) (by omega) g1
  rcases Int.lt_trichotomy (tx a b x) 0 with h | h | h
  · exact ⟨x, j, .inr ⟨by rw [tx_swap]; omega, i1, q2⟩⟩
  · -- on the side: a little towards c
    let k : Int := (tw e f c).natAbs + (tw f g c).natAbs + (tw g e c).natAbs + 1
    let y : Int × Int × Int := (k * x.1 + c.1, k * x.2.1 + c.2, k * x.2.2 + 1)
    have ty : ∀ u v, tx u v y = k * tx u v x + tw u v c := by intro u v; simp only [y]; unfold tx tw; grind
    obtain ⟨j1, j2, j3⟩ := j
    refine ⟨y, ⟨?_, ?_, ?_⟩, .inl ⟨?_, ?_, ?_⟩⟩
    · rw [ty]; exact big j1 (by omega)
    · rw [ty]; exact big j2 (by omega)
    · rw [ty]; exact big j3 (by omega)
    · rw [ty, h]; omega
    · rw [ty, tw_abb]; exact big q1 (by simp; omega)
    · rw [ty, tw_aba]; exact big i3 (by simp; omega)
  · exact ⟨x, j, .inl ⟨h, q1, i3⟩⟩

theorem flip_cov {P : Pl → Prop} {T : Trs} (C : Cov0 P T) {a b c d : Pl} (h1 : T a b c) (h2 : T b a d) (g1 : 0 < tw a d c) (g2 : 0 < tw d b c) : Cov0 P (flipT T a b c d) := by
  have p1 := C.pos h1
  have p2 := C.pos h2
  have f1 := fresh C h1 h2 g1 g2
  have f2 := fresh C h2 h1 (a := b) (b := a) (c := d) (d := c) (by rw [tw_rot]; exact g2) (by rw [tw_rot2]; exact g1)
  have n1 := C.ne h1
  have n2 := C.ne h2
  -- a new one against an old one
  have nw : ∀ {e f g : Pl} {x : Int × Int × Int}, Inn e f g x → Inn a d c x ∨ Inn d b c x → ∃ y, Inn e f g y ∧ (Inn a b c y ∨ Inn b a d y) := by
    intro e f g x i j
    rcases j with j | j
    · exact flip_move p1 p2 g1 g2 j i
    · obtain ⟨y, k, l⟩ := flip_move (a := b) (b := a) (c := d) (d := c) p2 p1 (by rw [tw_rot]; exact g2) (by rw [tw_rot2]; exact g1) j.rot.rot.rot.rot i
      exact ⟨y, k, l.symm⟩
  have old : ∀ {u v w e f g : Pl} {x : Int × Int × Int}, T e f g → ¬ rot3 a b c e f g → ¬ rot3 b a d e f g → (rot3 a d c u v w ∨ rot3 d b c u v w) → Inn u v w x → Inn e f g x → False := by
    intro u v w e f g x t n1 n2 r i j
    have i' : Inn a d c x ∨ Inn d b c x := by
      rcases r with r | r
      · exact .inl (i.rot3 r.symm)
      · exact .inr (i.rot3 r.symm)
    obtain ⟨y, k, l⟩ := nw j i'
    rcases l with l | l
    · exact n1 (C.dis h1 t l k)
    · exact n2 (C.dis h2 t l k)
  have sep : ∀ {x : Int × Int × Int}, Inn a d c x → Inn d b c x → False := by
    intro x i j
    have := i.2.1
    have := j.2.2
    rw [tx_swap] at this
    omega
  have inA := C.inP h1
  have inB := C.inP2 h1
  have inC := C.inP3 h1
  have inD := C.inP3 h2
  constructor
  · -- rot
    rintro x y z (⟨h, k, l⟩ | h | h)
    · refine .inl ⟨C.rot h, fun q => k ?_, fun q => l ?_⟩
      · exact q.rot.rot
      · exact q.rot.rot
    · exact .inr (.inl h.rot)
    · exact .inr (.inr h.rot)
  · -- inP
    rintro x y z (⟨h, k, l⟩ | h | h)
    · exact C.inP h
    · rcases h with ⟨rfl, _⟩ | ⟨rfl, _⟩ | ⟨rfl, _⟩ <;> assumption
    · rcases h with ⟨rfl, _⟩ | ⟨rfl, _⟩ | ⟨rfl, _⟩ <;> assumption
  · -- pos
    rintro x y z (⟨h, k, l⟩ | h | h)
    · exact C.pos h
    · rw [h.tw]; exact g1
    · rw [h.tw]; exact g2
  · -- emp
    have base : ∀ {a b c d p : Pl}, T a b c → T b a d → 0 < tw a d c → 0 < tw d b c → P p → 0 ≤ tw a d p → 0 ≤ tw d c p → 0 ≤ tw c a p → p = a ∨ p = d ∨ p = c := by
      intro a b c d p h1 h2 g1 g2 hp q1 q2 q3
      have p1 := C.pos h1
      have p2 := C.pos h2
      have nb : p ≠ b := by
        rintro rfl
        have : tw d c p = - tw d p c := tw_swap2 _ _ _
        omega
      have r1 : 0 ≤ tw b c p := by
        have e1 : tw a d c * tw b c p = tw d c p * tw a b c + tw c a p * tw d b c := by unfold tw; grind
        have := Int.mul_nonneg q2 (Int.le_of_lt p1)
        have := Int.mul_nonneg q3 (Int.le_of_lt g2)
        exact nn_of (a := tw a d c) (by omega) g1
      have r2 : 0 ≤ tw d b p := by
        have e1 : tw a d c * tw d b p = tw d c p * tw b a d + tw a d p * tw d b c := by unfold tw; grind
        have := Int.mul_nonneg q2 (Int.le_of_lt p2)
        have := Int.mul_nonneg q1 (Int.le_of_lt g2)
        exact nn_of (a := tw a d c) (by omega) g1
      rcases Int.le_total 0 (tw a b p) with k | k
      · rcases C.emp h1 hp k r1 q3 with z | z | z
        · exact .inl z
        · exact absurd z nb
        · exact .inr (.inr z)
      · rcases C.emp h2 hp (by rw [tw_swap]; omega) q1 r2 with z | z | z
        · exact absurd z nb
        · exact .inl z
        · exact .inr (.inl z)
    have b1 := fun {p} => base (p := p) h1 h2 g1 g2
    have b2 := fun {p} => base (p := p) h2 h1 (by rw [tw_rot]; exact g2) (by rw [tw_rot2]; exact g1)
    rintro x y z p (⟨h, k, l⟩ | h | h) hp q1 q2 q3
    · exact C.emp h hp q1 q2 q3
    · rcases h with ⟨rfl, rfl, rfl⟩ | ⟨rfl, rfl, rfl⟩ | ⟨rfl, rfl, rfl⟩
      · exact b1 hp q1 q2 q3
      · have := b1 hp q3 q1 q2; grind
      · have := b1 hp q2 q3 q1; grind
    · rcases h with ⟨rfl, rfl, rfl⟩ | ⟨rfl, rfl, rfl⟩ | ⟨rfl, rfl, rfl⟩
      · have := b2 hp q2 q3 q1; grind
      · have := b2 hp q1 q2 q3; grind
      · have := b2 hp q3 q1 q2; grind
  · -- dis
    rintro u v w e f g x t1 t2 i j
    rcases t1 with ⟨h, k, l⟩ | t1
    · rcases t2 with ⟨h', k', l'⟩ | t2
      · exact C.dis h h' i j
      · exact (old h k l t2 j i).elim
    · rcases t2 with ⟨h', k', l'⟩ | t2
      · exact (old h' k' l' t1 i j).elim
      · rcases t1 with r1 | r1 <;> rcases t2 with r2 | r2
        · exact r1.symm.trans r2
        · exact (sep (i.rot3 r1.symm) (j.rot3 r2.symm)).elim
        · exact (sep (j.rot3 r2.symm) (i.rot3 r1.symm)).elim
        · exact r1.symm.trans r2
  · -- bd
    rintro x y z p t nt hp
    -- (x, y) is an old side, and its back is none
    clear nw old sep
    have A1 : ¬ (y = a ∧ x = d) := by rintro ⟨rfl, rfl⟩; exact nt _ (.inr (.inl (.inl ⟨rfl, rfl, rfl⟩)))
    have A2 : ¬ (y = d ∧ x = c) := by rintro ⟨rfl, rfl⟩; exact nt _ (.inr (.inl (.inr (.inl ⟨rfl, rfl, rfl⟩))))
    have A3 : ¬ (y = c ∧ x = a) := by rintro ⟨rfl, rfl⟩; exact nt _ (.inr (.inl (.inr (.inr ⟨rfl, rfl, rfl⟩))))
    have A4 : ¬ (y = d ∧ x = b) := by rintro ⟨rfl, rfl⟩; exact nt _ (.inr (.inr (.inl ⟨rfl, rfl, rfl⟩)))
    have A5 : ¬ (y = b ∧ x = c) := by rintro ⟨rfl, rfl⟩; exact nt _ (.inr (.inr (.inr (.inl ⟨rfl, rfl, rfl⟩))))
    have A6 : ¬ (y = c ∧ x = d) := by rintro ⟨rfl, rfl⟩; exact nt _ (.inr (.inr (.inr (.inr ⟨rfl, rfl, rfl⟩))))
    have keep : ∀ d', T y x d' → (y = a ∧ x = b) ∨ (y = b ∧ x = a) := by
      intro d' h
      by_cases k : rot3 a b c y x d'
      · rcases k with ⟨h1, h2, _⟩ | ⟨h1, h2, _⟩ | ⟨h1, h2, _⟩
        · exact .inl ⟨h1, h2⟩
        · exact (A5 ⟨h1, h2⟩).elim
        · exact (A3 ⟨h1, h2⟩).elim
      · by_cases l : rot3 b a d y x d'
        · rcases l with ⟨h1, h2, _⟩ | ⟨h1, h2, _⟩ | ⟨h1, h2, _⟩
          · exact .inr ⟨h1, h2⟩
          · exact (A1 ⟨h1, h2⟩).elim
          · exact (A4 ⟨h1, h2⟩).elim
        · exact (nt d' (.inl ⟨h, k, l⟩)).elim
    have key : ∀ z', T x y z' → ¬ (y = a ∧ x = b) → ¬ (y = b ∧ x = a) → 0 ≤ tw x y p := fun z' h k l => C.bd h (fun d' q => by
      rcases keep d' q with r | r
      · exact k r
      · exact l r) hp
    rcases t with ⟨h, k, l⟩ | r | r
    · refine key z h ?_ ?_
      · rintro ⟨rfl, rfl⟩
        have := C.uni h h2
        subst this
        exact l (rot3.refl _ _ _)
      · rintro ⟨rfl, rfl⟩
        have := C.uni h h1
        subst this
        exact k (rot3.refl _ _ _)
    · rcases r with ⟨rfl, rfl, rfl⟩ | ⟨rfl, rfl, rfl⟩ | ⟨rfl, rfl, rfl⟩
      · exact key b (C.rot h2) (fun q => n2.2.1 q.1.symm) (fun q => n2.2.2 q.1)
      · exact (A6 ⟨rfl, rfl⟩).elim
      · exact key b (C.rot (C.rot h1)) (fun q => n1.2.1 q.2.symm) (fun q => n1.1 q.1)
    · rcases r with ⟨rfl, rfl, rfl⟩ | ⟨rfl, rfl, rfl⟩ | ⟨rfl, rfl, rfl⟩
      · exact key a (C.rot (C.rot h2)) (fun q => n2.2.2 q.2) (fun q => n2.2.1 q.2.symm)
      · exact key a (C.rot h1) (fun q => n1.2.2 q.1) (fun q => n1.2.1 q.1.symm)
      · exact (A2 ⟨rfl, rfl⟩).elim
end NK

namespace NK
theorem flip_cor {P : Pl → Prop} {T : Trs} (C : Cov P T) {a b c d : Pl} (h1 : T a b c) (h2 : T b a d) (g1 : 0 < tw a d c) (g2 : 0 < tw d b c) : Cov P (flipT T a b c d) := by
  refine { toCov0 := flip_cov C.toCov0 h1 h2 g1 g2, cor := ?_ }
  intro p hp
  obtain ⟨x, y, h⟩ := C.cor hp
  by_cases k : rot3 a b c p x y
  · rcases k with ⟨rfl, _⟩ | ⟨rfl, _⟩ | ⟨rfl, _⟩
    · exact ⟨_, _, .inr (.inl (.inl ⟨rfl, rfl, rfl⟩))⟩
    · exact ⟨_, _, .inr (.inr (.inr (.inl ⟨rfl, rfl, rfl⟩)))⟩
    · exact ⟨_, _, .inr (.inr (.inr (.inr ⟨rfl, rfl, rfl⟩)))⟩
  · by_cases l : rot3 b a d p x y
    · rcases l with ⟨rfl, _⟩ | ⟨rfl, _⟩ | ⟨rfl, _⟩
      · exact ⟨_, _, .inr (.inr (.inr (.inl ⟨rfl, rfl, rfl⟩)))⟩
      · exact ⟨_, _, .inr (.inl (.inl ⟨rfl, rfl, rfl⟩))⟩
      · exact ⟨_, _, .inr (.inr (.inl ⟨rfl, rfl, rfl⟩))⟩
    · exact ⟨x, y, .inl ⟨h, k, l⟩⟩

/-! ### heights -/
def bw (H : Pl → Int) (a b c d : Pl) : Int := H a * tw d b c + H b * tw d c a + H c * tw d a b - H d * tw a b c
def NH (H : Pl → Int) (a b c : Pl) (x : Int × Int × Int) : Int := H a * tx b c x + H b * tx c a x + H c * tx a b x
theorem NH_hp (H : Pl → Int) (a b c p : Pl) : NH H a b c (hp p) = bw H a b c p + H p * tw a b c := by
  unfold NH bw; rw [tx_hp, tx_hp, tx_hp, tw_rot2 p b c |>.symm, tw_rot2 p c a |>.symm, tw_rot2 p a b |>.symm]
  have e1 := tw_rot b c p
  have e2 := tw_rot c a p
  have e3 := tw_rot a b p
  grind
theorem bw_rot (H : Pl → Int) (a b c d : Pl) : bw H b c a d = bw H a b c d := by unfold bw tw; grind
theorem bw_back (H : Pl → Int) (a b c d : Pl) : bw H b a d c = bw H a b c d := by unfold bw tw; grind
theorem bw_a (H : Pl → Int) (a b c : Pl) : bw H a b c a = 0 := by unfold bw tw; grind
theorem bw_b (H : Pl → Int) (a b c : Pl) : bw H a b c b = 0 := by unfold bw tw; grind
theorem bw_c (H : Pl → Int) (a b c : Pl) : bw H a b c c = 0 := by unfold bw tw; grind
/-- from a triangle over the side a b to the next one -/
theorem NH_step (H : Pl → Int) (a b c d : Pl) (x) : NH H b a d x * tw a b c - NH H a b c x * tw b a d = bw H a b c d * tx a b x := by
  unfold NH bw tx tw; grind

def Loc (H : Pl → Int) (T : Trs) : Prop := ∀ {a b c d}, T a b c → T b a d → bw H a b c d < 0
def Glob (H : Pl → Int) (P : Pl → Prop) (T : Trs) : Prop := ∀ {a b c p}, T a b c → P p → p ≠ a → p ≠ b → p ≠ c → bw H a b c p < 0
def FinT (T : Trs) : Prop := ∃ L : List (Pl × Pl × Pl), ∀ a b c, T a b c → (a, b, c) ∈ L

theorem exists_max {α : Type} (Q : α → Prop) (R : α → α → Prop) (irr : ∀ x, ¬ R x x) (tr : ∀ x y z, Q x → Q y → Q z → R x y → R y z → R x z) :
    ∀ l : List α, (∃ x ∈ l, Q x) → ∃ m ∈ l, Q m ∧ ∀ x ∈ l, Q x → ¬ R m x := by
  intro l
  induction l with
  | nil => rintro ⟨x, h, _⟩; cases h
  | cons y l ih =>
    intro h
    by_cases hl : ∃ x ∈ l, Q x
    · obtain ⟨m, hm, qm, k⟩ := ih hl
      by_cases hy : Q y ∧ R m y
      · refine ⟨y, List.mem_cons_self, hy.1, ?_⟩
        intro x hx qx r
        rcases List.mem_cons.mp hx with rfl | hx
        · exact irr _ r
        · exact k x hx qx (tr m y x qm hy.1 qx hy.2 r)
      · refine ⟨m, List.mem_cons_of_mem _ hm, qm, ?_⟩
        intro x hx qx r
        rcases List.mem_cons.mp hx with rfl | hx
        · exact hy ⟨qx, r⟩
        · exact k x hx qx r
    · obtain ⟨x, hx, qx⟩ := h
      rcases List.mem_cons.mp hx with rfl | hx
      · refine ⟨x, List.mem_cons_self, qx, ?_⟩
        intro z hz qz r
        rcases List.mem_cons.mp hz with rfl | hz
        · exact irr _ r
        · exact hl ⟨z, hz, qz⟩
      · exact (hl ⟨x, hx, qx⟩).elim

theorem frac_trans {n1 n2 n3 d1 d2 d3 : Int} (h1 : 0 < d1) (h2 : 0 < d2) (h3 : 0 < d3) (a : n1 * d2 < n2 * d1) (b : n2 * d3 < n3 * d2) : n1 * d3 < n3 * d1 := by
  have e1 := Int.mul_lt_mul_of_pos_right a h3
  have e2 := Int.mul_lt_mul_of_pos_right b h1
  have e3 : 0 < d2 * (n3 * d1 - n1 * d3) := by grind
  have := pos_of e3 h2
  omega

/-- a triangle over which the point lies highest -/
theorem highest (H : Pl → Int) {P : Pl → Prop} {T : Trs} (C : Cov0 P T) (F : FinT T) (x : Int × Int × Int) (Q : Pl × Pl × Pl → Prop) (ne : ∃ a b c, T a b c ∧ Q (a, b, c)) :
    ∃ a b c, T a b c ∧ Q (a, b, c) ∧ ∀ e f g, T e f g → Q (e, f, g) → ¬ NH H a b c x * tw e f g < NH H e f g x * tw a b c := by
  obtain ⟨L, hL⟩ := F
  obtain ⟨a0, b0, c0, h0, q0⟩ := ne
  obtain ⟨⟨a, b, c⟩, hm, ⟨q1, q2⟩, k⟩ := exists_max (fun t : Pl × Pl × Pl => T t.1 t.2.1 t.2.2 ∧ Q t) (fun s t => NH H s.1 s.2.1 s.2.2 x * tw t.1 t.2.1 t.2.2 < NH H t.1 t.2.1 t.2.2 x * tw s.1 s.2.1 s.2.2)
    (fun t => by omega) (fun s t u hs ht hu h1 h2 => frac_trans (C.pos hs.1) (C.pos ht.1) (C.pos hu.1) h1 h2) L ⟨(a0, b0, c0), hL _ _ _ h0, h0, q0⟩
  exact ⟨a, b, c, q1, q2, fun e f g h q => k (e, f, g) (hL _ _ _ h) ⟨h, q⟩⟩

/-- the step of a walk -/
theorem walk_step {H : Pl → Int} {P : Pl → Prop} {T : Trs} (C : Cov0 P T) (L : Loc H T) {a b c d : Pl} {x : Int × Int × Int} (h1 : T a b c) (h2 : T b a d) (k : tx a b x < 0) : NH H a b c x * tw b a d < NH H b a d x * tw a b c := by
  have e := NH_step H a b c d x
  have l := L h1 h2
  have := Int.mul_pos_of_neg_of_neg l k
  omega

/-- no side of the place's best triangle has it at its right -/
theorem local_global {H : Pl → Int} {P : Pl → Prop} {T : Trs} (C : Cov0 P T) (F : FinT T) (L : Loc H T) : Glob H P T := by
  intro a0 b0 c0 p h0 hp na nb nc
  by_cases bad : bw H a0 b0 c0 p < 0
  · exact bad
  exfalso
  obtain ⟨a, b, c, h, ⟨q1, q2, q3, q4⟩, mx⟩ := highest H C F (NK.hp p) (fun t => p ≠ t.1 ∧ p ≠ t.2.1 ∧ p ≠ t.2.2 ∧ 0 ≤ bw H t.1 t.2.1 t.2.2 p) ⟨a0, b0, c0, h0, na, nb, nc, by show 0 ≤ bw H a0 b0 c0 p; omega⟩
  simp only at q1 q2 q3 q4
  -- one side, in general
  have side : ∀ {a b c}, T a b c → 0 ≤ bw H a b c p → p ≠ a → p ≠ b → p ≠ c → (∀ e f g, T e f g → (p ≠ e ∧ p ≠ f ∧ p ≠ g ∧ 0 ≤ bw H e f g p) → ¬ NH H a b c (NK.hp p) * tw e f g < NH H e f g (NK.hp p) * tw a b c) → 0 ≤ tw a b p := by
    intro a b c h q n1 n2 n3 mx
    by_cases k : tw a b p < 0
    · exfalso
      by_cases nb : ∀ d, ¬ T b a d
      · have := C.bd h nb hp
        omega
      · obtain ⟨d, h2⟩ := Classical.not_forall.mp nb
        have h2 := Classical.not_not.mp h2
        have st := walk_step C L (x := NK.hp p) h h2 (by rw [tx_hp]; exact k)
        have st' := st
        rw [NH_hp, NH_hp] at st'
        have pa := C.pos h
        have pd := C.pos h2
        have s2 : bw H a b c p * tw b a d < bw H b a d p * tw a b c := by grind
        have s3 := Int.mul_nonneg q (Int.le_of_lt pd)
        have s4 : 0 < tw a b c * bw H b a d p := by grind
        have s5 := pos_of s4 pa
        refine mx b a d h2 ⟨n2, n1, ?_, by omega⟩ st
        rintro rfl
        rw [bw_c] at s5
        omega
    · omega
  have s1 := side h q4 q1 q2 q3 mx
  have s2 := side (C.rot h) (by rw [bw_rot]; exact q4) q2 q3 q1 (fun e f g t q => by
    have := mx e f g t q
    have e1 : NH H b c a (NK.hp p) = NH H a b c (NK.hp p) := by unfold NH; omega
    rw [e1, tw_rot a b c]
    exact this)
  have s3 := side (C.rot (C.rot h)) (by rw [bw_rot, bw_rot]; exact q4) q3 q1 q2 (fun e f g t q => by
    have := mx e f g t q
    have e1 : NH H c a b (NK.hp p) = NH H a b c (NK.hp p) := by unfold NH; omega
    rw [e1, tw_rot2 a b c]
    exact this)
  rcases C.emp h hp s1 s2 s3 with r | r | r
  · exact q1 r
  · exact q2 r
  · exact q3 r

theorem NH_rot (H : Pl → Int) (a b c : Pl) (x) : NH H b c a x = NH H a b c x := by unfold NH; omega
/-- the highest triangle over a middle of places has it within or on it -/
theorem contains {H : Pl → Int} {P : Pl → Prop} {T : Trs} (C : Cov0 P T) (F : FinT T) (L : Loc H T) (ne : ∃ a b c, T a b c) {x : Int × Int × Int}
    (hx : ∀ u v, (∀ p, P p → 0 ≤ tw u v p) → 0 ≤ tx u v x) : ∃ a b c, T a b c ∧ 0 ≤ tx a b x ∧ 0 ≤ tx b c x ∧ 0 ≤ tx c a x := by
  obtain ⟨a0, b0, c0, h0⟩ := ne
  obtain ⟨a, b, c, h, _, mx⟩ := highest H C F x (fun _ => True) ⟨a0, b0, c0, h0, trivial⟩
  have side : ∀ {a b c}, T a b c → (∀ e f g, T e f g → ¬ NH H a b c x * tw e f g < NH H e f g x * tw a b c) → 0 ≤ tx a b x := by
    intro a b c h mx
    by_cases k : tx a b x < 0
    · exfalso
      by_cases nb : ∀ d, ¬ T b a d
      · have := hx a b fun p hp => C.bd h nb hp
        omega
      · obtain ⟨d, h2⟩ := Classical.not_forall.mp nb
        have h2 := Classical.not_not.mp h2
        exact mx b a d h2 (walk_step C L h h2 k)
    · omega
  refine ⟨a, b, c, h, side h fun e f g t => mx e f g t trivial, side (C.rot h) fun e f g t => ?_, side (C.rot (C.rot h)) fun e f g t => ?_⟩
  · rw [NH_rot, tw_rot a b c]
    exact mx e f g t trivial
  · rw [NH_rot, NH_rot, tw_rot2 a b c]
    exact mx e f g t trivial

/-- two covers without a wrong side: each triangle of the one is one of the other -/
theorem unique_sub {H : Pl → Int} {P : Pl → Prop} {T U : Trs} (C : Cov0 P T) (F : FinT T) (L : Loc H T) (D : Cov0 P U) (FU : FinT U) (LU : Loc H U) (ne : ∃ a b c, U a b c) {a b c : Pl} (h : T a b c) : U a b c := by
  have G : Glob H P T := local_global C F L
  have GU : Glob H P U := local_global D FU LU
  let x : Int × Int × Int := (a.1 + b.1 + c.1, a.2 + b.2 + c.2, 3)
  have tx3 : ∀ u v, tx u v x = tw u v a + tw u v b + tw u v c := by intro u v; simp only [x]; unfold tx tw; grind
  have Pa := C.inP h
  have Pb := C.inP2 h
  have Pc := C.inP3 h
  obtain ⟨e, f, g, t, k1, k2, k3⟩ := contains (x := x) D FU LU ne fun u v q => by
    have := q a Pa
    have := q b Pb
    have := q c Pc
    rw [tx3]
    omega
  have A1 := C.pos h
  have A2 := D.pos t
  -- the one over the other's corners
  have low : ∀ p, P p → bw H e f g p ≤ 0 ∧ (bw H e f g p = 0 → p = e ∨ p = f ∨ p = g) := by
    intro p hp
    by_cases n1 : p = e
    · subst n1; exact ⟨by rw [bw_a]; omega, fun _ => .inl rfl⟩
    by_cases n2 : p = f
    · subst n2; exact ⟨by rw [bw_b]; omega, fun _ => .inr (.inl rfl)⟩
    by_cases n3 : p = g
    · subst n3; exact ⟨by rw [bw_c]; omega, fun _ => .inr (.inr rfl)⟩
    have := GU t hp n1 n2 n3
    exact ⟨by omega, fun z => by omega⟩
  have low2 : ∀ p, P p → bw H a b c p ≤ 0 := by
    intro p hp
    by_cases n1 : p = a
    · subst n1; rw [bw_a]; omega
    by_cases n2 : p = b
    · subst n2; rw [bw_b]; omega
    by_cases n3 : p = c
    · subst n3; rw [bw_c]; omega
    exact Int.le_of_lt (G h hp n1 n2 n3)
  have B1 := low a Pa
  have B2 := low b Pb
  have B3 := low c Pc
  have q1 := Int.mul_nonneg k2 (show 0 ≤ - bw H a b c e by have := low2 e (D.inP t); omega)
  have q2 := Int.mul_nonneg k3 (show 0 ≤ - bw H a b c f by have := low2 f (D.inP2 t); omega)
  have q3 := Int.mul_nonneg k1 (show 0 ≤ - bw H a b c g by have := low2 g (D.inP3 t); omega)
  -- both ways round
  have e1 : tw a b c * (bw H e f g a + bw H e f g b + bw H e f g c) + (tx f g x * bw H a b c e + tx g e x * bw H a b c f + tx e f x * bw H a b c g) = 0 := by
    simp only [x]; unfold bw tx tw; grind
  have s0 : 0 ≤ tw a b c * (bw H e f g a + bw H e f g b + bw H e f g c) := by grind
  have s1 := nn_of s0 A1
  have z1 : a = e ∨ a = f ∨ a = g := B1.2 (by omega)
  have z2 : b = e ∨ b = f ∨ b = g := B2.2 (by omega)
  have z3 : c = e ∨ c = f ∨ c = g := B3.2 (by omega)
  have n1 := C.ne h
  have e2 : tw e g f = - tw e f g := tw_swap2 _ _ _
  have r : rot3 e f g a b c := by
    rcases z1 with rfl | rfl | rfl <;> rcases z2 with rfl | rfl | rfl <;> rcases z3 with rfl | rfl | rfl
    all_goals first
      | exact (n1.1 rfl).elim
      | exact (n1.2.1 rfl).elim
      | exact (n1.2.2 rfl).elim
      | exact .inl ⟨rfl, rfl, rfl⟩
      | exact .inr (.inl ⟨rfl, rfl, rfl⟩)
      | exact .inr (.inr ⟨rfl, rfl, rfl⟩)
      | (exfalso; unfold tw at A1 A2; grind)
  exact D.of_rot3 t r
end NK

namespace NK
/-! ### the order of places, and which place spoils a triangle -/
abbrev lt (p q : Pl) : Prop := p.1 < q.1 ∨ (p.1 = q.1 ∧ p.2 < q.2)
theorem lt_irrefl (p : Pl) : ¬ lt p p := by unfold lt; omega
theorem lt_trans {p q r : Pl} (h : lt p q) (k : lt q r) : lt p r := by unfold lt at *; omega
theorem lt_asymm {p q : Pl} (h : lt p q) : ¬ lt q p := by unfold lt at *; omega
theorem lt_total (p q : Pl) : lt p q ∨ p = q ∨ lt q p := by
  obtain ⟨a, b⟩ := p
  obtain ⟨c, d⟩ := q
  unfold lt
  simp only [Prod.mk.injEq]
  omega
theorem lt_of_not {p q : Pl} (h : ¬ lt p q) (n : p ≠ q) : lt q p := by
  rcases lt_total p q with k | k | k
  · exact (h k).elim
  · exact (n k).elim
  · exact k
theorem lt_ne {p q : Pl} (h : lt p q) : p ≠ q := by rintro rfl; exact lt_irrefl _ h

def sgn (n : Int) : Int := if 0 < n then 1 else if n < 0 then -1 else 0
def turn (a b c : Pl) : Int := sgn (tw a b c)
def height (a d : Pl) : Int := (a.1 - d.1) * (a.1 - d.1) + (a.2 - d.2) * (a.2 - d.2)
def bowl (a b c d : Pl) : Int := height a d * tw d b c + height b d * tw d c a + height c d * tw d a b
def ring (a b c d : Pl) : Int := turn a b c * sgn (bowl a b c d)
def mn (a b : Pl) : Pl := if lt b a then b else a
def mx (a b : Pl) : Pl := if lt a b then b else a
def spoilsRest (a b c d : Pl) : Bool :=
  if lt d (mn (mn a b) c) then true else
    match [a, b, c].filter (fun p => decide (p ≠ mn (mn a b) c)) with
    | [one, other] => decide (turn one other (mn (mn a b) c) * turn one other d < 0)
    | _ => false
def spoils (a b c d : Pl) : Bool :=
  if ring a b c d ≠ 0 ∨ d = a ∨ d = b ∨ d = c then decide (ring a b c d = 1) else spoilsRest a b c d

def sq (p : Pl) : Int := p.1 * p.1 + p.2 * p.2
def dot (a b c : Pl) : Int := (b.1 - a.1) * (c.1 - a.1) + (b.2 - a.2) * (c.2 - a.2)
theorem bowl_sq (a b c d : Pl) : bowl a b c d = bw sq a b c d := by unfold bowl height bw sq tw; grind
theorem bw_sq (a b c d : Pl) : bw sq a b c d = tw d b c * dot a b c - tw a b c * dot d b c := by unfold bw sq tw dot; grind
theorem dot_tw (d b c : Pl) : dot d b c * dot d b c + tw d b c * tw d b c = dot d b b * dot d c c := by unfold dot tw; grind
theorem sq_zero {x y : Int} (h : x * x + y * y = 0) : x = 0 ∧ y = 0 := by
  have h1 : 0 ≤ x * x := by rcases Int.le_total 0 x with k | k; exact Int.mul_nonneg k k; exact Int.mul_nonneg_of_nonpos_of_nonpos k k
  have h2 : 0 ≤ y * y := by rcases Int.le_total 0 y with k | k; exact Int.mul_nonneg k k; exact Int.mul_nonneg_of_nonpos_of_nonpos k k
  have e1 : x * x = 0 := by omega
  have e2 : y * y = 0 := by omega
  exact ⟨by rcases Int.mul_eq_zero.mp e1 with k | k <;> exact k, by rcases Int.mul_eq_zero.mp e2 with k | k <;> exact k⟩
theorem dot_self {d b : Pl} (h : dot d b b = 0) : d = b := by
  unfold dot at h
  obtain ⟨h1, h2⟩ := sq_zero h
  exact Prod.ext (by omega) (by omega)
/-- on the ring, and not the other two: then on no line with them -/
theorem ring_off {a b c d : Pl} (p : 0 < tw a b c) (z : bw sq a b c d = 0) (nb : d ≠ b) (nc : d ≠ c) : tw d b c ≠ 0 := by
  intro e
  rw [bw_sq, e] at z
  have z1 : tw a b c * dot d b c = 0 := by omega
  have z2 : dot d b c = 0 := by
    rcases Int.mul_eq_zero.mp z1 with h | h
    · omega
    · exact h
  have := dot_tw d b c
  rw [z2, e] at this
  rcases Int.mul_eq_zero.mp (show dot d b b * dot d c c = 0 by omega) with h | h
  · exact nb (dot_self h)
  · exact nc (dot_self h)

theorem bw_lin (f g : Pl → Int) (k c0 : Int) (a b c d : Pl) : bw (fun p => k * f p - g p + c0) a b c d = k * bw f a b c d - bw g a b c d := by unfold bw tw; grind

/-- e falls so steeply from place to place that the first one told outweighs the others -/
def Steep (P : List Pl) (M : Int) (e : Pl → Int) : Prop := (∀ p, 0 < e p) ∧ (∀ p q, p ∈ P → q ∈ P → lt p q → 3 * (M * e q) < e p) ∧ ∀ p q r, p ∈ P → q ∈ P → r ∈ P → (tw p q r).natAbs ≤ M

/-- what the perturbation alone gives where d lies on the ring -/
def rest (e : Pl → Int) (a b c d : Pl) : Int := - bw e a b c d
theorem mul_bd {x y M : Int} (hx : (x.natAbs : Int) ≤ M) (hy : 0 < y) : - (M * y) ≤ y * x ∧ y * x ≤ M * y := by
  have h1 := Int.mul_le_mul_of_nonneg_left (show x ≤ M by omega) (Int.le_of_lt hy)
  have h2 := Int.mul_le_mul_of_nonneg_left (show -M ≤ x by omega) (Int.le_of_lt hy)
  constructor
  · have : y * -M = -(M * y) := by grind
    omega
  · have : y * M = M * y := by grind
    omega
theorem mul_ge {x y : Int} (hx : 0 < x) (hy : 0 < y) : y ≤ y * x := by
  have h1 := Int.mul_le_mul_of_nonneg_left (show (1 : Int) ≤ x by omega) (Int.le_of_lt hy)
  omega

theorem rest_d {P : List Pl} {M : Int} {e : Pl → Int} (S : Steep P M e) {a b c d : Pl} (ha : a ∈ P) (hb : b ∈ P) (hc : c ∈ P) (hd : d ∈ P) (p : 0 < tw a b c) (l1 : lt d a) (l2 : lt d b) (l3 : lt d c) : 0 < rest e a b c d := by
  obtain ⟨s1, s2, s3⟩ := S
  have t1 := mul_bd (s3 d b c hd hb hc) (s1 a)
  have t2 := mul_bd (s3 d c a hd hc ha) (s1 b)
  have t3 := mul_bd (s3 d a b hd ha hb) (s1 c)
  have t4 := mul_ge p (s1 d)
  have u1 := s2 d a hd ha l1
  have u2 := s2 d b hd hb l2
  have u3 := s2 d c hd hc l3
  unfold rest bw
  omega
theorem rest_a {P : List Pl} {M : Int} {e : Pl → Int} (S : Steep P M e) {a b c d : Pl} (ha : a ∈ P) (hb : b ∈ P) (hc : c ∈ P) (hd : d ∈ P) (l1 : lt a b) (l2 : lt a c) (l3 : lt a d) (nz : tw d b c ≠ 0) :
    (tw b c d < 0 → 0 < rest e a b c d) ∧ (¬ tw b c d < 0 → rest e a b c d < 0) := by
  obtain ⟨s1, s2, s3⟩ := S
  have e0 : tw b c d = tw d b c := tw_rot d b c
  have t2 := mul_bd (s3 d c a hd hc ha) (s1 b)
  have t3 := mul_bd (s3 d a b hd ha hb) (s1 c)
  have t4 := mul_bd (s3 a b c ha hb hc) (s1 d)
  have u1 := s2 a b ha hb l1
  have u2 := s2 a c ha hc l2
  have u3 := s2 a d ha hd l3
  rw [e0]
  unfold rest bw
  constructor
  · intro h
    have := mul_ge (show 0 < - tw d b c by omega) (s1 a)
    have e1 : e a * - tw d b c = - (e a * tw d b c) := by grind
    omega
  · intro h
    have := mul_ge (show 0 < tw d b c by omega) (s1 a)
    omega

theorem sgn_pos {n : Int} (h : 0 < n) : sgn n = 1 := by unfold sgn; rw [if_pos h]
theorem sgn_neg {n : Int} (h : n < 0) : sgn n = -1 := by unfold sgn; rw [if_neg (by omega), if_pos h]
theorem sgn_zero {n : Int} (h : n = 0) : sgn n = 0 := by subst h; rfl
theorem sgn_mul_neg (x y : Int) : sgn x * sgn y < 0 ↔ (0 < x ∧ y < 0) ∨ (x < 0 ∧ 0 < y) := by
  unfold sgn; split <;> split <;> (try split) <;> (try split) <;> simp <;> omega

theorem least_cases {a b c : Pl} (h1 : a ≠ b) (h2 : b ≠ c) (h3 : c ≠ a) : (lt a b ∧ lt a c) ∨ (lt b a ∧ lt b c) ∨ (lt c a ∧ lt c b) := by
  rcases lt_total a b with k | k | k
  · rcases lt_total a c with l | l | l
    · exact .inl ⟨k, l⟩
    · exact (h3 l.symm).elim
    · exact .inr (.inr ⟨l, lt_trans l k⟩)
  · exact (h1 k).elim
  · rcases lt_total b c with l | l | l
    · exact .inr (.inl ⟨k, l⟩)
    · exact (h2 l).elim
    · exact .inr (.inr ⟨lt_trans l k, l⟩)
/-- spoils, where the perturbed height decides -/
theorem spoils_rest {P : List Pl} {M : Int} {e : Pl → Int} (S : Steep P M e) {a b c d : Pl} (ha : a ∈ P) (hb : b ∈ P) (hc : c ∈ P) (hd : d ∈ P) (p : 0 < tw a b c) (z : bw sq a b c d = 0) (na : d ≠ a) (nb : d ≠ b) (nc : d ≠ c) :
    (spoilsRest a b c d = true → 0 < rest e a b c d) ∧ (spoilsRest a b c d = false → rest e a b c d < 0) := by
  have nab : a ≠ b := by rintro rfl; rw [tw_aab] at p; omega
  have nbc : b ≠ c := by rintro rfl; rw [tw_abb] at p; omega
  have nca : c ≠ a := by rintro rfl; rw [tw_aba] at p; omega
  have pb : 0 < tw b c a := by rw [tw_rot a b c]; exact p
  have pc : 0 < tw c a b := by rw [tw_rot2 a b c]; exact p
  have zb : bw sq b c a d = 0 := by rw [bw_rot]; exact z
  have zc : bw sq c a b d = 0 := by rw [bw_rot, bw_rot]; exact z
  have rb : rest e b c a d = rest e a b c d := by unfold rest; rw [bw_rot]
  have rc : rest e c a b d = rest e a b c d := by unfold rest; rw [bw_rot, bw_rot]
  have oa := ring_off p z nb nc
  have ob := ring_off pb zb nc na
  have oc := ring_off pc zc na nb
  rcases least_cases nab nbc nca with ⟨l1, l2⟩ | ⟨l1, l2⟩ | ⟨l1, l2⟩
  · have m : mn (mn a b) c = a := by unfold mn; rw [if_neg (lt_asymm l1), if_neg (lt_asymm l2)]
    unfold spoilsRest
    rw [m]
    by_cases ld : lt d a
    · rw [if_pos ld]
      exact ⟨fun _ => rest_d S ha hb hc hd p ld (lt_trans ld l1) (lt_trans ld l2), fun q => by cases q⟩
    · rw [if_neg ld]
      have f : [a, b, c].filter (fun p => decide (p ≠ a)) = [b, c] := by simp [nab.symm, nca]
      rw [f]
      have r := rest_a S ha hb hc hd l1 l2 (lt_of_not ld na) oa
      simp only [decide_eq_true_eq, decide_eq_false_iff_not]
      unfold turn
      rw [sgn_mul_neg]
      exact ⟨fun h => r.1 (by omega), fun h => r.2 (by omega)⟩
  · have m : mn (mn a b) c = b := by unfold mn; rw [if_pos l1, if_neg (lt_asymm l2)]
    unfold spoilsRest
    rw [m]
    by_cases ld : lt d b
    · rw [if_pos ld]
      exact ⟨fun _ => rest_d S ha hb hc hd p (lt_trans ld l1) ld (lt_trans ld l2), fun q => by cases q⟩
    · rw [if_neg ld]
      have f : [a, b, c].filter (fun p => decide (p ≠ b)) = [a, c] := by simp [nab, nbc.symm]
      rw [f]
      have r := rest_a S hb hc ha hd l2 l1 (lt_of_not ld nb) ob
      simp only [decide_eq_true_eq, decide_eq_false_iff_not]
      unfold turn
      rw [sgn_mul_neg]
      rw [rb] at r
      have s1 : tw a c b = - tw b c a := by unfold tw; grind
      have s2 : tw a c d = - tw c a d := by unfold tw; grind
      exact ⟨fun h => r.1 (by omega), fun h => r.2 (by omega)⟩
  · have m : mn (mn a b) c = c := by
      have : mn a b = a ∨ mn a b = b := by unfold mn; split <;> simp
      rcases this with k | k <;> rw [k] <;> unfold mn
      · rw [if_pos l1]
      · rw [if_pos l2]
    unfold spoilsRest
    rw [m]
    by_cases ld : lt d c
    · rw [if_pos ld]
      exact ⟨fun _ => rest_d S ha hb hc hd p (lt_trans ld l1) (lt_trans ld l2) ld, fun q => by cases q⟩
    · rw [if_neg ld]
      have f : [a, b, c].filter (fun p => decide (p ≠ c)) = [a, b] := by simp [nca.symm, nbc]
      rw [f]
      have r := rest_a S hc ha hb hd l1 l2 (lt_of_not ld nc) oc
      simp only [decide_eq_true_eq, decide_eq_false_iff_not]
      unfold turn
      rw [sgn_mul_neg]
      rw [rc] at r
      exact ⟨fun h => r.1 (by omega), fun h => r.2 (by omega)⟩

theorem bdd {α : Type} (l : List α) (f : α → Nat) : ∃ M, ∀ x ∈ l, f x ≤ M := by
  induction l with
  | nil => exact ⟨0, fun x h => by cases h⟩
  | cons a l ih =>
    obtain ⟨M, h⟩ := ih
    refine ⟨M + f a, fun x hx => ?_⟩
    rcases List.mem_cons.mp hx with rfl | hx
    · omega
    · have := h x hx
      omega
theorem bdd3 {α : Type} (l : List α) (f : α → α → α → Nat) : ∃ M, ∀ x y z, x ∈ l → y ∈ l → z ∈ l → f x y z ≤ M := by
  have h1 : ∀ x y, ∃ M, ∀ z ∈ l, f x y z ≤ M := fun x y => bdd l (f x y)
  have h2 : ∀ x, ∃ M, ∀ y z, y ∈ l → z ∈ l → f x y z ≤ M := fun x => by
    obtain ⟨M, h⟩ := bdd l (fun y => Classical.choose (h1 x y))
    exact ⟨M, fun y z hy hz => Nat.le_trans (Classical.choose_spec (h1 x y) z hz) (h y hy)⟩
  obtain ⟨M, h⟩ := bdd l (fun x => Classical.choose (h2 x))
  exact ⟨M, fun x y z hx hy hz => Nat.le_trans (Classical.choose_spec (h2 x) y z hy hz) (h x hx)⟩

theorem cnt_lt (P : List Pl) {p q : Pl} (hq : q ∈ P) (h : lt p q) : P.countP (fun r => decide (lt q r)) < P.countP (fun r => decide (lt p r)) := by
  induction P with
  | nil => cases hq
  | cons r P ih =>
    have mono : ∀ Q : List Pl, Q.countP (fun r => decide (lt q r)) ≤ Q.countP (fun r => decide (lt p r)) := fun Q => List.countP_mono_left fun x _ hx => by
      simp only [decide_eq_true_eq] at hx ⊢
      exact lt_trans h hx
    rw [List.countP_cons, List.countP_cons]
    rcases List.mem_cons.mp hq with rfl | hq
    · have := mono P
      rw [if_neg (by simp only [decide_eq_true_eq]; exact lt_irrefl q), if_pos (by simpa using h)]
      omega
    · have := ih hq
      by_cases k : lt q r
      · rw [if_pos (by simpa using k), if_pos (by simpa using lt_trans h k)]
        omega
      · rw [if_neg (by simpa using k)]
        split <;> omega

theorem steep (P : List Pl) : ∃ M e, 0 < M ∧ Steep P M e := by
  obtain ⟨N, hN⟩ := bdd3 P (fun x y z => (tw x y z).natAbs)
  let M : Int := N + 1
  refine ⟨M, fun p => (3 * M + 1) ^ (P.countP fun r => decide (lt p r)), by omega, fun p => ?_, fun p q hp hq h => ?_, fun p q r hp hq hr => ?_⟩
  · exact Int.pow_pos (by omega)
  · have c := cnt_lt P hq h
    obtain ⟨k, hk⟩ := Nat.exists_eq_add_of_lt c
    simp only
    rw [hk, show (P.countP fun r => decide (lt q r)) + k + 1 = ((P.countP fun r => decide (lt q r)) + 1) + k by omega, Int.pow_add, Int.pow_succ]
    have h1 : 0 < (3 * M + 1) ^ (P.countP fun r => decide (lt q r)) := Int.pow_pos (by omega)
    have h2 : 0 < (3 * M + 1) ^ k := Int.pow_pos (by omega)
    have h3 := mul_ge h2 (Int.mul_pos h1 (show 0 < 3 * M + 1 by omega))
    have h4 : (3 * M + 1) ^ (P.countP fun r => decide (lt q r)) * (3 * M + 1) = 3 * (M * (3 * M + 1) ^ (P.countP fun r => decide (lt q r))) + (3 * M + 1) ^ (P.countP fun r => decide (lt q r)) := by grind
    omega
  · have := hN p q r hp hq hr
    omega

/-- a height by which wrong sides are told -/
structure High (P : List Pl) (H : Pl → Int) : Prop where
  nn : ∀ p ∈ P, 0 ≤ H p
  yes : ∀ {a b c d}, a ∈ P → b ∈ P → c ∈ P → d ∈ P → 0 < tw a b c → d ≠ a → d ≠ b → d ≠ c → spoils a b c d = true → 0 < bw H a b c d
  no : ∀ {a b c d}, a ∈ P → b ∈ P → c ∈ P → d ∈ P → 0 < tw a b c → d ≠ a → d ≠ b → d ≠ c → spoils a b c d = false → bw H a b c d < 0

theorem exists_high (P : List Pl) : ∃ H, High P H := by
  obtain ⟨M, e, hM, S⟩ := steep P
  obtain ⟨E, hE⟩ := bdd P (fun p => (e p).natAbs)
  let K : Int := 4 * (M * E) + 1
  let H : Pl → Int := fun p => K * sq p - e p + E
  have key : ∀ {a b c d}, a ∈ P → b ∈ P → c ∈ P → d ∈ P → bw H a b c d = K * bw sq a b c d + rest e a b c d ∧ -K < rest e a b c d ∧ rest e a b c d < K := by
    intro a b c d ha hb hc hd
    obtain ⟨s1, s2, s3⟩ := S
    have t1 := mul_bd (s3 d b c hd hb hc) (s1 a)
    have t2 := mul_bd (s3 d c a hd hc ha) (s1 b)
    have t3 := mul_bd (s3 d a b hd ha hb) (s1 c)
    have t4 := mul_bd (s3 a b c ha hb hc) (s1 d)
    have le : ∀ p ∈ P, M * e p ≤ M * E := fun p hp => Int.mul_le_mul_of_nonneg_left (by have := hE p hp; omega) (Int.le_of_lt hM)
    have u1 := le a ha
    have u2 := le b hb
    have u3 := le c hc
    have u4 := le d hd
    refine ⟨?_, ?_⟩
    · simp only [H]
      rw [bw_lin]
      unfold rest
      omega
    · unfold rest bw
      omega
  refine ⟨H, ?_, ?_, ?_⟩
  · intro p hp
    have := hE p hp
    have sp : 0 ≤ sq p := by
      unfold sq
      have h1 : 0 ≤ p.1 * p.1 := by rcases Int.le_total 0 p.1 with k | k; exact Int.mul_nonneg k k; exact Int.mul_nonneg_of_nonpos_of_nonpos k k
      have h2 : 0 ≤ p.2 * p.2 := by rcases Int.le_total 0 p.2 with k | k; exact Int.mul_nonneg k k; exact Int.mul_nonneg_of_nonpos_of_nonpos k k
      omega
    have k0 : 0 ≤ K := by have := Int.mul_nonneg (Int.le_of_lt hM) (show (0 : Int) ≤ E by omega); omega
    have := Int.mul_nonneg k0 sp
    simp only [H]
    omega
  all_goals
    intro a b c d ha hb hc hd p na nb nc hs
    obtain ⟨k1, k2, k3⟩ := key ha hb hc hd
    have R := spoils_rest S ha hb hc hd p (na := na) (nb := nb) (nc := nc)
    rw [k1]
    unfold spoils at hs
    have rg : ring a b c d = sgn (bw sq a b c d) := by unfold ring turn; rw [sgn_pos p, bowl_sq]; omega
    rw [rg] at hs
    rcases Int.lt_trichotomy (bw sq a b c d) 0 with z | z | z
    · rw [sgn_neg z] at hs
      have := mul_ge (show 0 < - bw sq a b c d by omega) (show 0 < K by omega)
      have e1 : K * - bw sq a b c d = - (K * bw sq a b c d) := by grind
      simp at hs <;> omega
    · have R := R z
      rw [sgn_zero z, if_neg (by simp [na, nb, nc])] at hs
      rw [z]
      first
        | (have := R.1 hs; omega)
        | (have := R.2 hs; omega)
    · rw [sgn_pos z] at hs
      have := mul_ge z (show 0 < K by omega)
      simp at hs <;> omega
end NK

namespace NK
/-! ### vectors that point onward in the order -/
def lp (u : Int × Int) : Prop := 0 < u.1 ∨ (u.1 = 0 ∧ 0 < u.2)
def cr (u v : Int × Int) : Int := u.1 * v.2 - u.2 * v.1
def sub (p q : Pl) : Int × Int := (p.1 - q.1, p.2 - q.2)
theorem lp_sub {p q : Pl} : lp (sub q p) ↔ lt p q := by unfold lp sub lt; simp only; omega
theorem tw_cr (a b c : Pl) : tw a b c = cr (sub b a) (sub c a) := by unfold tw cr sub; grind
theorem cr_trans {u v w : Int × Int} (hu : lp u) (hv : lp v) (hw : lp w) (h1 : 0 ≤ cr u v) (h2 : 0 ≤ cr v w) : 0 ≤ cr u w := by
  have u0 : 0 ≤ u.1 := by unfold lp at hu; omega
  have w0 : 0 ≤ w.1 := by unfold lp at hw; omega
  rcases hv with v0 | ⟨v0, v2⟩
  · have e : v.1 * cr u w = u.1 * cr v w + w.1 * cr u v := by unfold cr; grind
    have := Int.mul_nonneg u0 h2
    have := Int.mul_nonneg w0 h1
    exact nn_of (by omega) v0
  · have e : cr v w = v.2 * - w.1 := by unfold cr; rw [v0]; grind
    rw [e] at h2
    have := nn_of h2 v2
    have w1 : w.1 = 0 := by omega
    have w2 : 0 < w.2 := by unfold lp at hw; omega
    have e2 : cr u w = u.1 * w.2 := by unfold cr; rw [w1]; grind
    rw [e2]
    exact Int.mul_nonneg u0 (by omega)
theorem cr_trans1 {u v w : Int × Int} (hu : lp u) (hv : lp v) (hw : lp w) (h1 : 0 < cr u v) (h2 : 0 ≤ cr v w) : 0 < cr u w := by
  have u0 : 0 ≤ u.1 := by unfold lp at hu; omega
  have w0 : 0 ≤ w.1 := by unfold lp at hw; omega
  rcases hv with v0 | ⟨v0, v2⟩
  · have e : v.1 * cr u w = u.1 * cr v w + w.1 * cr u v := by unfold cr; grind
    have := Int.mul_nonneg u0 h2
    rcases hw with w1 | ⟨w1, w2⟩
    · have := Int.mul_pos w1 h1
      exact pos_of (by omega) v0
    · have u1 : 0 < u.1 := by
        rcases hu with u1 | ⟨u1, u2⟩
        · exact u1
        · exfalso
          have := Int.mul_pos u2 v0
          have e3 : cr u v = - (u.2 * v.1) := by unfold cr; rw [u1]; grind
          omega
      have e2 : cr u w = u.1 * w.2 := by unfold cr; rw [w1]; grind
      rw [e2]
      exact Int.mul_pos u1 w2
  · have e : cr v w = v.2 * - w.1 := by unfold cr; rw [v0]; grind
    rw [e] at h2
    have := nn_of h2 v2
    have w1 : w.1 = 0 := by omega
    have w2 : 0 < w.2 := by unfold lp at hw; omega
    have e2 : cr u w = u.1 * w.2 := by unfold cr; rw [w1]; grind
    have e3 : cr u v = v.2 * u.1 := by unfold cr; rw [v0]; grind
    rw [e3] at h1
    rw [e2]
    exact Int.mul_pos (pos_of h1 v2) w2
theorem cr_swap (u v : Int × Int) : cr v u = - cr u v := by unfold cr; grind

/-! ### the thread -/
def popS : List Pl → Pl → List Pl
  | y :: x :: r, p => if tw x y p < 0 then popS (x :: r) p else y :: x :: r
  | s, _ => s
def threadS (st row : List Pl) : List Pl := row.foldl (fun s p => p :: popS s p) st
def thread (row : List Pl) : List Pl := (threadS [] row).reverse

structure Edge (R : Pl → Prop) (x y : Pl) : Prop where
  l : lt x y
  rx : R x
  ry : R y
  left : ∀ q, R q → 0 ≤ tw x y q
  no : ∀ q, R q → lt x q → lt q y → tw x y q ≠ 0
def ChOk (R : Pl → Prop) : List Pl → Prop
  | y :: x :: r => Edge R x y ∧ ChOk R (x :: r)
  | [y] => R y ∧ ∀ q, R q → q = y ∨ lt y q
  | [] => False
theorem ChOk.head {R : Pl → Prop} {y : Pl} {r : List Pl} (h : ChOk R (y :: r)) : R y := by
  cases r with
  | nil => exact h.1
  | cons x r => exact h.1.ry
def topOk (p : Pl) : List Pl → Prop
  | y :: x :: _ => 0 ≤ tw x y p
  | _ => True
theorem chOk_up {R : Pl → Prop} {p : Pl} (hp : ∀ q, R q → lt q p) : ∀ st, ChOk R st → topOk p st → ChOk (fun q => R q ∨ q = p) st
  | [], h, _ => h
  | [y], h, _ => ⟨.inl h.1, by
      rintro q (hq | rfl)
      · exact h.2 q hq
      · exact .inr (hp y h.1)⟩
  | y :: x :: r, h, t => by
    refine ⟨⟨h.1.l, .inl h.1.rx, .inl h.1.ry, ?_, ?_⟩, chOk_up hp (x :: r) h.2 ?_⟩
    · rintro q (hq | rfl)
      · exact h.1.left q hq
      · exact t
    · rintro q (hq | rfl) h1 h2
      · exact h.1.no q hq h1 h2
      · exact (lt_asymm h2 (hp y h.1.ry)).elim
    · cases r with
      | nil => trivial
      | cons w r =>
        obtain ⟨e1, e2, _⟩ := h
        show 0 ≤ tw w x p
        have a1 := e2.left y e1.ry
        have k1 : cr (sub x w) (sub y x) = tw w x y := by unfold cr sub tw; grind
        have k2 : cr (sub y x) (sub p y) = tw x y p := by unfold cr sub tw; grind
        have k3 : tw w x p = cr (sub x w) (sub y x) + cr (sub x w) (sub p y) := by unfold cr sub tw; grind
        have := cr_trans (lp_sub.mpr e2.l) (lp_sub.mpr e1.l) (lp_sub.mpr (hp y e1.ry)) (by rw [k1]; exact a1) (by rw [k2]; exact t)
        omega
/-- behind the pops -/
theorem pop_ok {R : Pl → Prop} {p : Pl} (hp : ∀ q, R q → lt q p) : ∀ st y, ChOk R st → st.head? = some y → (∀ q, R q → lt y q → 0 < tw y p q) →
    ∃ z, (popS st p).head? = some z ∧ ChOk R (popS st p) ∧ topOk p (popS st p) ∧ ∀ q, R q → lt z q → 0 < tw z p q
  | [], y, h, _, _ => h.elim
  | [y'], y, h, e, k => by
    cases e
    exact ⟨y', rfl, h, trivial, k⟩
  | y' :: x :: r, y, h, e, k => by
    cases e
    by_cases t : tw x y' p < 0
    · have e1 : popS (y' :: x :: r) p = popS (x :: r) p := by rw [popS, if_pos t]
      rw [e1]
      refine pop_ok hp (x :: r) x h.2 rfl fun q hq l => ?_
      have a1 := h.1.left q hq
      have px := hp x h.1.rx
      rw [tw_cr] at t a1 ⊢
      refine cr_trans1 (lp_sub.mpr px) (lp_sub.mpr h.1.l) (lp_sub.mpr l) ?_ a1
      rw [cr_swap]
      omega
    · have e1 : popS (y' :: x :: r) p = y' :: x :: r := by rw [popS, if_neg t]
      rw [e1]
      exact ⟨y', rfl, h, by show 0 ≤ tw x y' p; omega, k⟩
theorem push_ok {R : Pl → Prop} {p : Pl} (hp : ∀ q, R q → lt q p) {st : List Pl} {z : Pl} (e : st.head? = some z) (h : ChOk R st) (t : topOk p st) (k : ∀ q, R q → lt z q → 0 < tw z p q) : ChOk (fun q => R q ∨ q = p) (p :: st) := by
  have h' := chOk_up hp st h t
  cases st with
  | nil => cases e
  | cons z' r =>
    have e' : z' = z := Option.some.inj e
    subst e'
    have hz : R z' := h.head
    refine ⟨⟨hp z' hz, .inl hz, .inr rfl, ?_, ?_⟩, h'⟩
    · rintro q (hq | rfl)
      · rcases lt_total z' q with l | l | l
        · exact Int.le_of_lt (k q hq l)
        · subst l; rw [tw_aba]; omega
        · cases r with
          | nil =>
            rcases h.2 q hq with rfl | h3
            · exact (lt_irrefl _ l).elim
            · exact (lt_asymm l h3).elim
          | cons x r =>
            have a1 := h.1.left q hq
            have k1 : cr (sub z' q) (sub z' x) = tw x z' q := by unfold cr sub tw; grind
            have k2 : cr (sub z' x) (sub p z') = tw x z' p := by unfold cr sub tw; grind
            have k3 : cr (sub z' q) (sub p z') = tw z' p q := by unfold cr sub tw; grind
            have := cr_trans (lp_sub.mpr l) (lp_sub.mpr h.1.l) (lp_sub.mpr (hp z' hz)) (by rw [k1]; exact a1) (by rw [k2]; exact t)
            omega
      · rw [tw_abb]; omega
    · rintro q (hq | rfl) l1 l2
      · have := k q hq l1
        omega
      · exact (lt_irrefl _ l2).elim
theorem ChOk.congr {R S : Pl → Prop} (h : ∀ q, R q ↔ S q) {st : List Pl} (c : ChOk R st) : ChOk S st := by
  have : R = S := funext fun q => propext (h q)
  rw [← this]; exact c

theorem threadS_ok : ∀ (rst pre st : List Pl) (y : Pl), ChOk (· ∈ pre) st → st.head? = some y → (∀ q ∈ pre, q = y ∨ lt q y) → (∀ p ∈ rst, ∀ q ∈ pre, lt q p) → rst.Pairwise lt →
    ∃ z, (threadS st rst).head? = some z ∧ ChOk (· ∈ pre ++ rst) (threadS st rst) ∧ ∀ q ∈ pre ++ rst, q = z ∨ lt q z
  | [], pre, st, y, h, e, m, _, _ => ⟨y, e, by simpa [threadS] using h, by simpa using m⟩
  | p :: rst, pre, st, y, h, e, m, g, s => by
    have hp : ∀ q, q ∈ pre → lt q p := g p List.mem_cons_self
    obtain ⟨z, e1, c1, t1, k1⟩ := pop_ok (R := (· ∈ pre)) hp st y h e fun q hq l => by
      rcases m q hq with rfl | l2
      · exact (lt_irrefl _ l).elim
      · exact (lt_asymm l l2).elim
    have c2 := push_ok (R := (· ∈ pre)) hp e1 c1 t1 k1
    have ih := threadS_ok rst (pre ++ [p]) (p :: popS st p) p (c2.congr fun q => by simp) rfl (fun q hq => by
      rcases List.mem_append.mp hq with hq | hq
      · exact .inr (hp q hq)
      · exact .inl (by simpa using hq)) (fun r hr q hq => by
      rcases List.mem_append.mp hq with hq | hq
      · exact g r (List.mem_cons_of_mem _ hr) q hq
      · have : q = p := by simpa using hq
        rw [this]
        exact (List.pairwise_cons.mp s).1 r hr) (List.pairwise_cons.mp s).2
    rw [List.append_assoc] at ih
    exact ih
theorem thread_ok {row : List Pl} (s : row.Pairwise lt) (ne : row ≠ []) : ∃ z, (threadS [] row).head? = some z ∧ ChOk (· ∈ row) (threadS [] row) ∧ ∀ q ∈ row, q = z ∨ lt q z := by
  cases row with
  | nil => exact (ne rfl).elim
  | cons p rst =>
    have := threadS_ok rst [p] [p] p ⟨by simp, fun q hq => .inl (by simpa using hq)⟩ rfl (fun q hq => .inl (by simpa using hq)) (fun r hr q hq => by
      have : q = p := by simpa using hq
      rw [this]
      exact (List.pairwise_cons.mp s).1 r hr) (List.pairwise_cons.mp s).2
    exact this

/-! ### corners of the chain -/
theorem vertex {R : Pl → Prop} {e : Pl} {w : Int × Int} (he : R e) (hw : lp w) (sup : ∀ q, R q → 0 ≤ cr w (sub q e)) : ∀ st y, ChOk R st → st.head? = some y → (e = y ∨ lt e y) → e ∈ st
  | [], y, h, _, _ => h.elim
  | [y'], y, h, k, l => by
    cases k
    rcases h.2 e he with r | r
    · rw [r]; exact List.mem_cons_self
    · rcases l with rfl | l
      · exact List.mem_cons_self
      · exact (lt_asymm l r).elim
  | y' :: x :: r, y, h, k, l => by
    cases k
    rcases l with rfl | l
    · exact List.mem_cons_self
    · rcases lt_total x e with m | m | m
      · exfalso
        have a1 := h.1.left e he
        have a2 := h.1.no e he m l
        have s1 := sup x h.1.rx
        have s2 := sup y' h.1.ry
        have k1 : cr (sub e x) w = cr w (sub x e) := by unfold cr sub; grind
        have k2 : tw x y' e = - cr (sub e x) (sub y' e) := by unfold cr sub tw; grind
        have := cr_trans (lp_sub.mpr m) hw (lp_sub.mpr l) (by rw [k1]; exact s1) s2
        omega
      · rw [← m]; exact List.mem_cons_of_mem _ List.mem_cons_self
      · exact List.mem_cons_of_mem _ (vertex he hw sup (x :: r) x h.2 rfl (.inr m))

/-- neighbours in a list -/
def edges : List Pl → List (Pl × Pl)
  | x :: y :: r => (x, y) :: edges (y :: r)
  | _ => []
theorem chOk_edge {R : Pl → Prop} : ∀ st, ChOk R st → ∀ x y, (y, x) ∈ edges st → Edge R x y
  | [], h, _, _, _ => h.elim
  | [y'], h, _, _, k => by simp [edges] at k
  | y' :: x' :: r, h, x, y, k => by
    rcases List.mem_cons.mp (show (y, x) ∈ (y', x') :: edges (x' :: r) from k) with k | k
    · cases k; exact h.1
    · exact chOk_edge (x' :: r) h.2 x y k
theorem edge_up : ∀ (st : List Pl) (e y : Pl), e ∈ st → st.head? = some y → e ≠ y → ∃ z, (z, e) ∈ edges st
  | [], _, _, h, _, _ => by cases h
  | [y'], e, y, h, k, n => by
    cases k
    exact (n (by simpa using h)).elim
  | y' :: x :: r, e, y, h, k, n => by
    cases k
    rcases List.mem_cons.mp h with h | h
    · exact (n h).elim
    · by_cases m : e = x
      · subst m; exact ⟨y', List.mem_cons_self⟩
      · obtain ⟨z, hz⟩ := edge_up (x :: r) e x h rfl m
        exact ⟨z, List.mem_cons_of_mem _ hz⟩
theorem edge_down {R : Pl → Prop} : ∀ (st : List Pl) (e : Pl), ChOk R st → e ∈ st → (∃ z, (e, z) ∈ edges st) ∨ ∀ q, R q → q = e ∨ lt e q
  | [], _, h, _ => h.elim
  | [y'], e, h, k => by
    have : e = y' := by simpa using k
    subst this
    exact .inr h.2
  | y' :: x :: r, e, h, k => by
    rcases List.mem_cons.mp k with k | k
    · subst k; exact .inl ⟨x, List.mem_cons_self⟩
    · rcases edge_down (x :: r) e h.2 k with ⟨z, hz⟩ | hz
      · exact .inl ⟨z, List.mem_cons_of_mem _ hz⟩
      · exact .inr hz
theorem edges_append (x : Pl) : ∀ l r : List Pl, edges (l ++ x :: r) = edges (l ++ [x]) ++ edges (x :: r)
  | [], r => by simp [edges]
  | [y], r => by simp [edges]
  | y :: z :: l, r => by
    have := edges_append x (z :: l) r
    simp only [List.cons_append] at this ⊢
    rw [edges, edges, this]
    rfl
theorem edges_reverse : ∀ l : List Pl, edges l.reverse = ((edges l).map fun p => (p.2, p.1)).reverse
  | [] => rfl
  | [x] => rfl
  | x :: y :: r => by
    have ih := edges_reverse (y :: r)
    rw [List.reverse_cons, List.reverse_cons, List.append_assoc, List.singleton_append, edges_append y]
    rw [List.reverse_cons] at ih
    rw [ih]
    simp [edges]
theorem mem_edges_reverse {l : List Pl} {x y : Pl} : (x, y) ∈ edges l.reverse ↔ (y, x) ∈ edges l := by
  rw [edges_reverse]
  rw [List.mem_reverse, List.mem_map]
  constructor
  · rintro ⟨⟨a, b⟩, h, k⟩; cases k; exact h
  · intro h; exact ⟨(y, x), h, rfl⟩

/-- a directed side of the outline -/
structure HE (R : Pl → Prop) (a b : Pl) : Prop where
  ra : R a
  rb : R b
  ne : a ≠ b
  left : ∀ q, R q → 0 ≤ tw a b q
  no : ∀ q, R q → tw a b q = 0 → ¬ (lt a q ∧ lt q b) ∧ ¬ (lt b q ∧ lt q a)
theorem Edge.he {R : Pl → Prop} {x y : Pl} (h : Edge R x y) : HE R x y :=
  ⟨h.rx, h.ry, lt_ne h.l, h.left, fun q hq z => ⟨fun k => h.no q hq k.1 k.2 z, fun k => lt_asymm h.l (lt_trans k.1 k.2)⟩⟩
/-- a forward side of the outline is one of the chain's -/
theorem fwd {R : Pl → Prop} {a b z : Pl} {st : List Pl} (c : ChOk R st) (e : st.head? = some z) (m : ∀ q, R q → q = z ∨ lt q z) (h : HE R a b) (l : lt a b) : (b, a) ∈ edges st := by
  have ha := vertex h.ra (lp_sub.mpr l) (fun q hq => by rw [← tw_cr]; exact h.left q hq) st z c e (m a h.ra)
  have na : a ≠ z := by
    rintro rfl
    rcases m b h.rb with k | k
    · exact lt_ne l k.symm
    · exact lt_asymm l k
  obtain ⟨y, hy⟩ := edge_up st a z ha e na
  have E := chOk_edge st c a y hy
  have t1 := E.left b h.rb
  have t2 := h.left y E.ry
  have t3 : tw a y b = - tw a b y := tw_swap2 a b y
  have z1 : tw a y b = 0 := by omega
  have z2 : tw a b y = 0 := by omega
  rcases lt_total y b with k | k | k
  · exact ((h.no y E.ry z2).1 ⟨E.l, k⟩).elim
  · rw [← k]; exact hy
  · exact (E.no b h.rb l k z1).elim
end NK

namespace NK
/-! ### turned by half a round -/
def neg (p : Pl) : Pl := (-p.1, -p.2)
theorem neg_neg (p : Pl) : neg (neg p) = p := by unfold neg; simp
theorem neg_inj {p q : Pl} (h : neg p = neg q) : p = q := by rw [← neg_neg p, h, neg_neg]
theorem tw_neg (a b c : Pl) : tw (neg a) (neg b) (neg c) = tw a b c := by unfold tw neg; grind
theorem lt_neg {p q : Pl} : lt (neg p) (neg q) ↔ lt q p := by unfold lt neg; simp only; omega
def negx (x : Int × Int × Int) : Int × Int × Int := (-x.1, -x.2.1, x.2.2)
theorem tx_neg (a b : Pl) (x) : tx (neg a) (neg b) (negx x) = tx a b x := by unfold tx neg negx; grind
theorem popS_neg : ∀ (st : List Pl) (p : Pl), popS (st.map neg) (neg p) = (popS st p).map neg
  | [], p => rfl
  | [y], p => rfl
  | y :: x :: r, p => by
    have ih := popS_neg (x :: r) p
    simp only [List.map_cons] at ih ⊢
    rw [popS, popS, tw_neg, ih]
    split <;> rfl
theorem threadS_neg : ∀ (row st : List Pl), threadS (st.map neg) (row.map neg) = (threadS st row).map neg
  | [], st => rfl
  | p :: row, st => by
    have ih := threadS_neg row (p :: popS st p)
    show threadS (neg p :: popS (st.map neg) (neg p)) (row.map neg) = _
    rw [popS_neg]
    exact ih
theorem edges_neg : ∀ l : List Pl, edges (l.map neg) = (edges l).map fun p => (neg p.1, neg p.2)
  | [] => rfl
  | [x] => rfl
  | x :: y :: r => by
    have ih := edges_neg (y :: r)
    simp only [List.map_cons, edges] at ih ⊢
    rw [ih]
theorem mem_edges_neg {l : List Pl} {x y : Pl} : (neg x, neg y) ∈ edges (l.map neg) ↔ (x, y) ∈ edges l := by
  rw [edges_neg, List.mem_map]
  constructor
  · rintro ⟨⟨a, b⟩, h, k⟩
    have k1 : neg a = neg x := congrArg Prod.fst k
    have k2 : neg b = neg y := congrArg Prod.snd k
    rw [← neg_inj k1, ← neg_inj k2]
    exact h
  · intro h; exact ⟨(x, y), h, rfl⟩
/-- the places turned by half a round -/
def negR (R : Pl → Prop) : Pl → Prop := fun q => R (neg q)
theorem HE.neg {R : Pl → Prop} {a b : Pl} (h : HE R a b) : HE (negR R) (neg a) (neg b) := by
  refine ⟨by unfold negR; rw [neg_neg]; exact h.ra, by unfold negR; rw [neg_neg]; exact h.rb, fun k => h.ne (neg_inj k), fun q hq => ?_, fun q hq z => ?_⟩
  · have := h.left (NK.neg q) hq
    rw [← tw_neg, neg_neg] at this
    exact this
  · have z' : tw a b (NK.neg q) = 0 := by rw [← tw_neg, neg_neg]; exact z
    have := h.no (NK.neg q) hq z'
    have e1 : ∀ {u v : Pl}, lt u v ↔ lt (NK.neg v) (NK.neg u) := fun {u v} => lt_neg.symm
    refine ⟨fun k => this.2 ⟨?_, ?_⟩, fun k => this.1 ⟨?_, ?_⟩⟩
    · have := lt_neg.mpr k.2; rwa [neg_neg] at this
    · have := lt_neg.mpr k.1; rwa [neg_neg] at this
    · have := lt_neg.mpr k.2; rwa [neg_neg] at this
    · have := lt_neg.mpr k.1; rwa [neg_neg] at this
theorem negR_negR (R : Pl → Prop) : negR (negR R) = R := funext fun q => by unfold negR; rw [neg_neg]
theorem HE.of_neg {R : Pl → Prop} {a b : Pl} (h : HE (negR R) a b) : HE R (NK.neg a) (NK.neg b) := by
  have := h.neg
  rwa [negR_negR] at this

/-- places in order, at least one -/
structure Row (R : Pl → Prop) where
  row : List Pl
  asc : row.Pairwise lt
  mem : ∀ q, R q ↔ q ∈ row
  ne : row ≠ []
def Row.neg {R : Pl → Prop} (w : Row R) : Row (negR R) where
  row := w.row.reverse.map NK.neg
  asc := by
    rw [List.pairwise_map, List.pairwise_reverse]
    exact w.asc.imp fun h => lt_neg.mpr h
  mem := fun q => by
    unfold negR
    rw [w.mem, List.mem_map]
    constructor
    · intro h; exact ⟨NK.neg q, List.mem_reverse.mpr h, neg_neg q⟩
    · rintro ⟨p, h, rfl⟩; rw [neg_neg]; exact List.mem_reverse.mp h
  ne := by simp [w.ne]
/-- the chain of a row -/
theorem Row.chain {R : Pl → Prop} (w : Row R) : ∃ z, (threadS [] w.row).head? = some z ∧ ChOk R (threadS [] w.row) ∧ ∀ q, R q → q = z ∨ lt q z := by
  obtain ⟨z, h1, h2, h3⟩ := thread_ok w.asc w.ne
  exact ⟨z, h1, h2.congr fun q => (w.mem q).symm, fun q hq => h3 q ((w.mem q).mp hq)⟩
theorem Row.st_neg {R : Pl → Prop} (w : Row R) : threadS [] w.neg.row = (threadS [] w.row.reverse).map NK.neg := threadS_neg w.row.reverse []

section
variable {R : Pl → Prop} (w : Row R)
theorem min_mem {R : Pl → Prop} {e : Pl} (he : R e) (m : ∀ q, R q → q = e ∨ lt e q) : ∀ st, ChOk R st → e ∈ st
  | [], h => h.elim
  | [y], h => by
    rcases h.2 e he with k | k
    · rw [k]; exact List.mem_cons_self
    · rcases m y h.1 with l | l
      · rw [l]; exact List.mem_cons_self
      · exact (lt_asymm k l).elim
  | y :: x :: r, h => List.mem_cons_of_mem _ (min_mem he m (x :: r) h.2)
include w
/-- the greatest place -/
theorem Row.exMax : ∃ z, R z ∧ ∀ q, R q → q = z ∨ lt q z := by
  obtain ⟨z, h1, h2, h3⟩ := w.chain
  refine ⟨z, ?_, h3⟩
  cases e : threadS [] w.row with
  | nil => rw [e] at h1; cases h1
  | cons y r =>
    rw [e] at h1 h2
    cases h1
    exact h2.head
/-- a forward side into a place of the chain, or it is the least -/
theorem Row.fwdIn {e : Pl} {v : Int × Int} (he : R e) (hv : lp v) (sup : ∀ q, R q → 0 ≤ cr v (sub q e)) : (∃ x, HE R x e ∧ lt x e) ∨ ∀ q, R q → q = e ∨ lt e q := by
  obtain ⟨z, h1, h2, h3⟩ := w.chain
  rcases edge_down _ e h2 (vertex he hv sup _ z h2 h1 (h3 e he)) with ⟨x, hx⟩ | k
  · have := chOk_edge _ h2 _ _ hx
    exact .inl ⟨x, this.he, this.l⟩
  · exact .inr k
theorem Row.fwdOut {e : Pl} {v : Int × Int} (he : R e) (hv : lp v) (sup : ∀ q, R q → 0 ≤ cr v (sub q e)) : (∃ y, HE R e y ∧ lt e y) ∨ ∀ q, R q → q = e ∨ lt q e := by
  obtain ⟨z, h1, h2, h3⟩ := w.chain
  have m := vertex he hv sup _ z h2 h1 (h3 e he)
  by_cases k : e = z
  · subst k; exact .inr h3
  · obtain ⟨y, hy⟩ := edge_up _ e z m h1 k
    have := chOk_edge _ h2 _ _ hy
    exact .inl ⟨y, this.he, this.l⟩
/-- at the least place: a forward side out of it; at the greatest: one into it -/
theorem Row.minOut {e b : Pl} (he : R e) (hb : R b) (n : b ≠ e) (m : ∀ q, R q → q = e ∨ lt e q) : ∃ y, HE R e y ∧ lt e y := by
  obtain ⟨z, h1, h2, h3⟩ := w.chain
  have k : e ≠ z := by
    rintro rfl
    rcases h3 b hb with k | k
    · exact n k
    · rcases m b hb with l | l
      · exact n l
      · exact lt_asymm k l
  obtain ⟨y, hy⟩ := edge_up _ e z (min_mem he m _ h2) h1 k
  have := chOk_edge _ h2 _ _ hy
  exact ⟨y, this.he, this.l⟩
theorem Row.maxIn {e b : Pl} (he : R e) (hb : R b) (n : b ≠ e) (m : ∀ q, R q → q = e ∨ lt q e) : ∃ x, HE R x e ∧ lt x e := by
  obtain ⟨z, h1, h2, h3⟩ := w.chain
  have ez : z = e := by
    have hz : R z := by
      cases e' : threadS [] w.row with
      | nil => rw [e'] at h1; cases h1
      | cons y r =>
        rw [e'] at h1 h2
        cases h1
        exact h2.head
    rcases m z hz with k | k
    · exact k
    · rcases h3 e he with l | l
      · exact l.symm
      · exact (lt_asymm k l).elim
  subst ez
  have : z ∈ threadS [] w.row := List.mem_of_mem_head? (by rw [h1]; rfl)
  rcases edge_down _ z h2 this with ⟨x, hx⟩ | k
  · have := chOk_edge _ h2 _ _ hx
    exact ⟨x, this.he, this.l⟩
  · exfalso
    rcases k b hb with l | l
    · exact n l
    · rcases m b hb with l2 | l2
      · exact n l2
      · exact lt_asymm l l2
/-- the same, backward -/
theorem Row.minIn {e b : Pl} (he : R e) (hb : R b) (n : b ≠ e) (m : ∀ q, R q → q = e ∨ lt e q) : ∃ x, HE R x e ∧ lt e x := by
  obtain ⟨x, h1, h2⟩ := w.neg.maxIn (e := NK.neg e) (b := NK.neg b) (by unfold negR; rwa [neg_neg]) (by unfold negR; rwa [neg_neg]) (fun k => n (neg_inj k)) (fun q hq => by
    rcases m _ hq with k | k
    · exact .inl (by rw [← k, neg_neg])
    · have := lt_neg.mpr k
      rw [neg_neg] at this
      exact .inr this)
  have := h1.of_neg
  rw [neg_neg] at this
  have l := lt_neg.mpr h2
  rw [neg_neg] at l
  exact ⟨_, this, l⟩
theorem Row.maxOut {e b : Pl} (he : R e) (hb : R b) (n : b ≠ e) (m : ∀ q, R q → q = e ∨ lt q e) : ∃ y, HE R e y ∧ lt y e := by
  obtain ⟨x, h1, h2⟩ := w.neg.minOut (e := NK.neg e) (b := NK.neg b) (by unfold negR; rwa [neg_neg]) (by unfold negR; rwa [neg_neg]) (fun k => n (neg_inj k)) (fun q hq => by
    rcases m _ hq with k | k
    · exact .inl (by rw [← k, neg_neg])
    · have := lt_neg.mpr k
      rw [neg_neg] at this
      exact .inr this)
  have := h1.of_neg
  rw [neg_neg] at this
  have l := lt_neg.mpr h2
  rw [neg_neg] at l
  exact ⟨_, this, l⟩
end

/-! ### tangents -/
theorem cr_same {u v z : Int × Int} (hu : lp u) (hv : lp v) (e : cr u v = 0) (h : cr v z < 0) : cr u z < 0 := by
  have e1 : v.1 * cr u z = u.1 * cr v z + z.1 * cr u v := by unfold cr; grind
  have e2 : v.2 * cr u z = u.2 * cr v z + z.2 * cr u v := by unfold cr; grind
  rw [e] at e1 e2
  rcases hv with v0 | ⟨v0, v2⟩
  · have u0 : 0 < u.1 := by
      rcases hu with k | ⟨k, l⟩
      · exact k
      · exfalso
        have := Int.mul_pos l v0
        have : cr u v = - (u.2 * v.1) := by unfold cr; rw [k]; grind
        omega
    have := Int.mul_pos u0 (show 0 < - cr v z by omega)
    have : 0 < v.1 * - cr u z := by grind
    have := pos_of this v0
    omega
  · have u0 : u.1 = 0 := by
      have : cr u v = v.2 * u.1 := by unfold cr; rw [v0]; grind
      rw [this] at e
      rcases Int.mul_eq_zero.mp e with k | k
      · omega
      · exact k
    have u2 : 0 < u.2 := by unfold lp at hu; omega
    have := Int.mul_pos u2 (show 0 < - cr v z by omega)
    have : 0 < v.2 * - cr u z := by grind
    have := pos_of this v2
    omega
theorem cr_same' {u v z : Int × Int} (hu : lp u) (hv : lp v) (e : cr u v = 0) (h : 0 < cr v z) : 0 < cr u z := by
  have := cr_same (z := (-z.1, -z.2)) hu hv e (by unfold cr at *; grind)
  unfold cr at *
  grind
theorem cr_neg1 (u v : Int × Int) : cr (-u.1, -u.2) v = - cr u v := by unfold cr; grind
theorem sub_swap (p q : Pl) : sub p q = (-(sub q p).1, -(sub q p).2) := by unfold sub; simp only [Prod.mk.injEq]; omega

theorem tangent_in1 {R : Pl → Prop} (w : Row R) {a b p : Pl} (h : HE R a b) (l : lt a b) (see : tw a b p < 0) (nos : ∀ x, HE R x a → ¬ tw x a p < 0) : ∀ q, R q → 0 ≤ tw a p q := by
  intro q hq
  have k1 : ∀ z, tw a b z = cr (sub b a) (sub z a) := fun z => tw_cr a b z
  have k3 : tw a p q = cr (sub p a) (sub q a) := tw_cr a p q
  have kx : ∀ x z, tw x a z = cr (sub a x) (sub z a) := fun x z => by unfold cr sub tw; grind
  have hvr := h.left q hq
  rw [k1] at hvr see
  rw [k3]
  rcases w.fwdIn h.ra (lp_sub.mpr l) (fun q hq => by rw [← tw_cr]; exact h.left q hq) with ⟨x, hx, lx⟩ | k
  · have huw := nos x hx
    have hur := hx.left q hq
    have huv := hx.left b h.rb
    rw [kx] at huw hur huv
    rcases Int.lt_or_eq_of_le huv with z | z
    · have e : cr (sub a x) (sub b a) * cr (sub p a) (sub q a) = (- cr (sub b a) (sub p a)) * cr (sub a x) (sub q a) + cr (sub a x) (sub p a) * cr (sub b a) (sub q a) := by unfold cr; grind
      have := Int.mul_nonneg (show 0 ≤ - cr (sub b a) (sub p a) by omega) hur
      have := Int.mul_nonneg (show 0 ≤ cr (sub a x) (sub p a) by omega) hvr
      exact nn_of (by omega) z
    · exact (huw (cr_same (lp_sub.mpr lx) (lp_sub.mpr l) z.symm see)).elim
  · -- a is the least
    obtain ⟨x, hx, lx⟩ := w.minIn h.ra h.rb h.ne.symm k
    have huw := nos x hx
    have hur := hx.left q hq
    have huv := hx.left b h.rb
    rw [kx] at huw hur huv
    rcases Int.lt_or_eq_of_le huv with z | z
    · have e : cr (sub a x) (sub b a) * cr (sub p a) (sub q a) = (- cr (sub b a) (sub p a)) * cr (sub a x) (sub q a) + cr (sub a x) (sub p a) * cr (sub b a) (sub q a) := by unfold cr; grind
      have := Int.mul_nonneg (show 0 ≤ - cr (sub b a) (sub p a) by omega) hur
      have := Int.mul_nonneg (show 0 ≤ cr (sub a x) (sub p a) by omega) hvr
      exact nn_of (by omega) z
    · rw [sub_swap a x] at z hur
      rw [cr_neg1] at z hur
      rcases k q hq with rfl | lq
      · have : cr (sub p q) (sub q q) = 0 := by unfold cr sub; grind
        omega
      · have z2 : cr (sub b a) (sub q a) = 0 := by
          rcases Int.lt_or_eq_of_le hvr with y | y
          · have := cr_same' (lp_sub.mpr lx) (lp_sub.mpr l) (by omega) y
            omega
          · exact y.symm
        have := cr_same (lp_sub.mpr lq) (lp_sub.mpr l) (by rw [cr_swap]; omega) see
        rw [cr_swap]
        omega
theorem tangent_in {R : Pl → Prop} (w : Row R) {a b p : Pl} (h : HE R a b) (see : tw a b p < 0) (nos : ∀ x, HE R x a → ¬ tw x a p < 0) : ∀ q, R q → 0 ≤ tw a p q := by
  rcases lt_total a b with l | l | l
  · exact tangent_in1 w h l see nos
  · exact (h.ne l).elim
  · intro q hq
    have := tangent_in1 w.neg h.neg (p := neg p) (lt_neg.mpr l) (by rw [tw_neg]; exact see) (fun x hx => by
      have := nos _ (by have := hx.of_neg; rwa [neg_neg] at this)
      rw [← tw_neg, neg_neg] at this
      exact this) (neg q) (by unfold negR; rwa [neg_neg])
    rwa [tw_neg] at this
theorem tangent_out1 {R : Pl → Prop} (w : Row R) {a b p : Pl} (h : HE R a b) (l : lt a b) (see : tw a b p < 0) (nos : ∀ x, HE R b x → ¬ tw b x p < 0) : ∀ q, R q → 0 ≤ tw p b q := by
  intro q hq
  have k1 : ∀ z, tw a b z = cr (sub b a) (sub z b) := fun z => by unfold cr sub tw; grind
  have k3 : tw p b q = - cr (sub p b) (sub q b) := by unfold cr sub tw; grind
  have kx : ∀ x z, tw b x z = cr (sub x b) (sub z b) := fun x z => tw_cr b x z
  have hvr := h.left q hq
  rw [k1] at hvr see
  rw [k3]
  have main : ∀ x, HE R b x → 0 < cr (sub b a) (sub x b) → 0 ≤ - cr (sub p b) (sub q b) := by
    intro x hx z
    have huw := nos x hx
    have hur := hx.left q hq
    rw [kx] at huw hur
    have e : cr (sub b a) (sub x b) * - cr (sub p b) (sub q b) = cr (sub x b) (sub p b) * cr (sub b a) (sub q b) + (- cr (sub b a) (sub p b)) * cr (sub x b) (sub q b) := by unfold cr; grind
    have := Int.mul_nonneg (show 0 ≤ cr (sub x b) (sub p b) by omega) hvr
    have := Int.mul_nonneg (show 0 ≤ - cr (sub b a) (sub p b) by omega) hur
    exact nn_of (by omega) z
  rcases w.fwdOut h.rb (lp_sub.mpr l) (fun q hq => by rw [← k1]; exact h.left q hq) with ⟨x, hx, lx⟩ | k
  · have hvu := h.left x hx.rb
    rw [k1] at hvu
    rcases Int.lt_or_eq_of_le hvu with z | z
    · exact main x hx z
    · have huw := nos x hx
      rw [kx] at huw
      exact (huw (cr_same (lp_sub.mpr lx) (lp_sub.mpr l) (by rw [cr_swap]; omega) see)).elim
  · obtain ⟨x, hx, lx⟩ := w.maxOut h.rb h.ra h.ne k
    have hvu := h.left x hx.rb
    rw [k1] at hvu
    rcases Int.lt_or_eq_of_le hvu with z | z
    · exact main x hx z
    · have hur := hx.left q hq
      rw [kx] at hur
      rw [sub_swap x b] at z hur
      rw [cr_neg1] at hur
      rw [cr_swap, cr_neg1] at z
      rcases k q hq with rfl | lq
      · have : cr (sub p q) (sub q q) = 0 := by unfold cr sub; grind
        omega
      · have z2 : cr (sub b a) (sub q b) = 0 := by
          rcases Int.lt_or_eq_of_le hvr with y | y
          · have := cr_same' (lp_sub.mpr lx) (lp_sub.mpr l) (by omega) y
            omega
          · exact y.symm
        have s2 := sub_swap q b
        rw [s2] at z2 ⊢
        have z3 : cr (sub b q) (sub b a) = 0 := by unfold cr at z2 ⊢; simp only at z2; grind
        have := cr_same (lp_sub.mpr lq) (lp_sub.mpr l) z3 see
        have e3 : cr (sub p b) (-(sub b q).1, -(sub b q).2) = cr (sub b q) (sub p b) := by unfold cr; grind
        omega
theorem tangent_out {R : Pl → Prop} (w : Row R) {a b p : Pl} (h : HE R a b) (see : tw a b p < 0) (nos : ∀ x, HE R b x → ¬ tw b x p < 0) : ∀ q, R q → 0 ≤ tw p b q := by
  rcases lt_total a b with l | l | l
  · exact tangent_out1 w h l see nos
  · exact (h.ne l).elim
  · intro q hq
    have := tangent_out1 w.neg h.neg (p := neg p) (lt_neg.mpr l) (by rw [tw_neg]; exact see) (fun x hx => by
      have := nos _ (by have := hx.of_neg; rwa [neg_neg] at this)
      rw [← tw_neg, neg_neg] at this
      exact this) (neg q) (by unfold negR; rwa [neg_neg])
    rwa [tw_neg] at this
end NK

namespace NK
/-! ### all on a line -/
def Lin (R : Pl → Prop) : Prop := ∀ a b c, R a → R b → R c → tw a b c = 0
theorem lin_of {R : Pl → Prop} {m : Pl} {u : Int × Int} (hu : lp u) (h : ∀ q, R q → cr u (sub q m) = 0) : Lin R := by
  intro a b c ha hb hc
  have k1 := h a ha
  have k2 := h b hb
  have k3 := h c hc
  have e1 : u.1 * tw a b c = 0 := by
    have : u.1 * tw a b c = (b.1 - a.1) * (cr u (sub c m) - cr u (sub a m)) - (c.1 - a.1) * (cr u (sub b m) - cr u (sub a m)) := by unfold cr sub tw; grind
    rw [k1, k2, k3] at this
    simpa using this
  have e2 : u.2 * tw a b c = 0 := by
    have : u.2 * tw a b c = (b.2 - a.2) * (cr u (sub c m) - cr u (sub a m)) - (c.2 - a.2) * (cr u (sub b m) - cr u (sub a m)) := by unfold cr sub tw; grind
    rw [k1, k2, k3] at this
    simpa using this
  rcases hu with k | ⟨_, k⟩
  · rcases Int.mul_eq_zero.mp e1 with z | z
    · omega
    · exact z
  · rcases Int.mul_eq_zero.mp e2 with z | z
    · omega
    · exact z
theorem Lin.neg {R : Pl → Prop} (h : Lin R) : Lin (negR R) := fun a b c ha hb hc => by
  have := h _ _ _ ha hb hc
  rwa [tw_neg] at this
/-- cr of opposite or equal headings: both nought -/
theorem cr_both {u v z : Int × Int} (hu : lp u) (hv : lp v) (e : cr u v = 0) (h1 : 0 ≤ cr u z) (h2 : cr v z ≤ 0) : cr u z = 0 := by
  rcases Int.lt_or_eq_of_le h2 with k | k
  · have := cr_same hu hv e k
    omega
  · rcases Int.lt_or_eq_of_le h1 with l | l
    · have := cr_same' hv hu (by rw [cr_swap]; omega) l
      omega
    · exact l.symm

section
variable {R : Pl → Prop} (w : Row R) {p : Pl} (hp : ∀ q, R q → lt q p)
/-- the places and a next one -/
abbrev plus (R : Pl → Prop) (p : Pl) : Pl → Prop := fun q => R q ∨ q = p
include w hp
theorem single_lin {e : Pl} (h : ∀ q, R q → q = e) : Lin (plus R p) := by
  intro a b c ha hb hc
  have f : ∀ q, plus R p q → q = e ∨ q = p := fun q hq => hq.imp (h q) id
  rcases f a ha with rfl | rfl <;> rcases f b hb with rfl | rfl <;> rcases f c hc with rfl | rfl <;> simp only [tw_aab, tw_abb, tw_aba]
/-- a side of the new outline out of e to p: e has a seen side out of it -/
theorem hull_in (nl : ¬ Lin (plus R p)) {e : Pl} (h : HE (plus R p) e p) : ∃ b, HE R e b ∧ tw e b p < 0 := by
  have he : R e := by
    rcases h.ra with k | k
    · exact k
    · exact (h.ne k).elim
  have lep := hp e he
  have sup : ∀ q, R q → 0 ≤ cr (sub p e) (sub q e) := fun q hq => by rw [← tw_cr]; exact h.left q (.inl hq)
  rcases w.fwdOut he (lp_sub.mpr lep) sup with ⟨y, hy, ly⟩ | k
  · refine ⟨y, hy, ?_⟩
    have s := sup y hy.rb
    rw [← tw_cr, tw_swap2] at s
    rcases Int.lt_or_eq_of_le (show tw e y p ≤ 0 by omega) with z | z
    · exact z
    · exact ((h.no y (.inl hy.rb) (by rw [tw_swap2]; omega)).1 ⟨ly, hp y hy.rb⟩).elim
  · -- e is the greatest
    have : ∃ b, R b ∧ b ≠ e := by
      by_cases s : ∃ b, R b ∧ b ≠ e
      · exact s
      · exact (nl (single_lin w hp (e := e) fun q hq => Classical.not_not.mp fun n => s ⟨q, hq, n⟩)).elim
    obtain ⟨b, hb, nb⟩ := this
    obtain ⟨y, hy, ly⟩ := w.maxOut he hb nb k
    refine ⟨y, hy, ?_⟩
    have s := sup y hy.rb
    rw [← tw_cr, tw_swap2] at s
    rcases Int.lt_or_eq_of_le (show tw e y p ≤ 0 by omega) with z | z
    · exact z
    · exfalso
      refine nl (lin_of (m := e) (u := sub p e) (lp_sub.mpr lep) ?_)
      rintro q (hq | rfl)
      · have a1 := sup q hq
        have a2 := hy.left q hq
        rw [tw_cr] at a2 z
        rw [sub_swap y e] at a2 z
        rw [cr_neg1] at a2 z
        exact cr_both (lp_sub.mpr lep) (lp_sub.mpr ly) (by rw [cr_swap]; omega) a1 (by omega)
      · unfold cr; grind
theorem hull_out (nl : ¬ Lin (plus R p)) {e : Pl} (h : HE (plus R p) p e) : ∃ b, HE R b e ∧ tw b e p < 0 := by
  have he : R e := by
    rcases h.rb with k | k
    · exact k
    · exact (h.ne k.symm).elim
  have lep := hp e he
  have sup : ∀ q, R q → 0 ≤ - cr (sub p e) (sub q e) := fun q hq => by
    have := h.left q (.inl hq)
    have e1 : tw p e q = - cr (sub p e) (sub q e) := by unfold cr sub tw; grind
    omega
  -- a backward side into e, by half a round
  have bk : (∃ x, HE R x e ∧ lt e x) ∨ ∀ q, R q → q = e ∨ lt q e := by
    rcases w.neg.fwdIn (e := neg e) (v := sub p e) (by unfold negR; rwa [neg_neg]) (lp_sub.mpr lep) (fun q hq => by
      have := sup (neg q) hq
      have e1 : cr (sub p e) (sub q (neg e)) = - cr (sub p e) (sub (neg q) e) := by unfold cr sub neg; grind
      omega) with ⟨x, hx, lx⟩ | k
    · have := hx.of_neg
      rw [neg_neg] at this
      have l := lt_neg.mpr lx
      rw [neg_neg] at l
      exact .inl ⟨_, this, l⟩
    · refine .inr fun q hq => ?_
      rcases k (neg q) (by unfold negR; rwa [neg_neg]) with r | r
      · exact .inl (neg_inj r)
      · exact .inr (lt_neg.mp r)
  rcases bk with ⟨y, hy, ly⟩ | k
  · refine ⟨y, hy, ?_⟩
    have s := h.left y (.inl hy.ra)
    have e1 : tw p e y = - tw y e p := by unfold tw; grind
    rcases Int.lt_or_eq_of_le (show tw y e p ≤ 0 by omega) with z | z
    · exact z
    · exact ((h.no y (.inl hy.ra) (by omega)).2 ⟨ly, hp y hy.ra⟩).elim
  · have : ∃ b, R b ∧ b ≠ e := by
      by_cases s : ∃ b, R b ∧ b ≠ e
      · exact s
      · exact (nl (single_lin w hp (e := e) fun q hq => Classical.not_not.mp fun n => s ⟨q, hq, n⟩)).elim
    obtain ⟨b, hb, nb⟩ := this
    obtain ⟨y, hy, ly⟩ := w.maxIn he hb nb k
    refine ⟨y, hy, ?_⟩
    have s := h.left y (.inl hy.ra)
    have e1 : tw p e y = - tw y e p := by unfold tw; grind
    rcases Int.lt_or_eq_of_le (show tw y e p ≤ 0 by omega) with z | z
    · exact z
    · exfalso
      refine nl (lin_of (m := e) (u := sub p e) (lp_sub.mpr lep) ?_)
      rintro q (hq | rfl)
      · have a1 := sup q hq
        have a2 := hy.left q hq
        have k2 : tw y e q = cr (sub e y) (sub q e) := by unfold cr sub tw; grind
        have k3 : tw y e p = cr (sub e y) (sub p e) := by unfold cr sub tw; grind
        have := cr_both (lp_sub.mpr ly) (lp_sub.mpr lep) (by omega) (show 0 ≤ cr (sub e y) (sub q e) by omega) (by omega)
        rcases Int.lt_or_eq_of_le a1 with r | r
        · have := cr_same (z := sub q e) (lp_sub.mpr ly) (lp_sub.mpr lep) (by omega) (by omega)
          omega
        · omega
      · unfold cr; grind
/-- the next place sees a side -/
theorem sees (nl : ¬ Lin (plus R p)) : ∃ a b, HE R a b ∧ tw a b p < 0 := by
  obtain ⟨m, hm, mx⟩ := w.exMax
  have : ∃ b, R b ∧ b ≠ m := by
    by_cases s : ∃ b, R b ∧ b ≠ m
    · exact s
    · exact (nl (single_lin w hp (e := m) fun q hq => Classical.not_not.mp fun n => s ⟨q, hq, n⟩)).elim
  obtain ⟨b, hb, nb⟩ := this
  obtain ⟨x, hx, lx⟩ := w.maxIn hm hb nb mx
  obtain ⟨y, hy, ly⟩ := w.maxOut hm hb nb mx
  by_cases s1 : tw x m p < 0
  · exact ⟨x, m, hx, s1⟩
  by_cases s2 : tw m y p < 0
  · exact ⟨m, y, hy, s2⟩
  exfalso
  have lm := hp m hm
  have k1 : ∀ z, tw x m z = cr (sub m x) (sub z m) := fun z => by unfold cr sub tw; grind
  have k2 : ∀ z, tw m y z = - cr (sub m y) (sub z m) := fun z => by unfold cr sub tw; grind
  have a := hx.left y hy.rb
  have k5 : tw x m y = - cr (sub m x) (sub m y) := by unfold cr sub tw; grind
  rw [k1] at s1
  rw [k2] at s2
  have t := cr_trans (lp_sub.mpr lx) (lp_sub.mpr lm) (lp_sub.mpr ly) (show 0 ≤ cr (sub m x) (sub p m) by omega) (by rw [cr_swap]; omega)
  have z : cr (sub m x) (sub m y) = 0 := by omega
  refine nl (lin_of (m := m) (u := sub m x) (lp_sub.mpr lx) ?_)
  rintro q (hq | rfl)
  · have b1 := hx.left q hq
    have b2 := hy.left q hq
    rw [k1] at b1
    rw [k2] at b2
    exact cr_both (lp_sub.mpr lx) (lp_sub.mpr ly) z b1 (by omega)
  · rcases Int.lt_or_eq_of_le (show 0 ≤ cr (sub m x) (sub q m) by omega) with r | r
    · have := cr_trans1 (lp_sub.mpr lx) (lp_sub.mpr lm) (lp_sub.mpr ly) r (by rw [cr_swap]; omega)
      omega
    · exact r.symm
end

/-! ### two new triangles at one place have no point in common -/
theorem beyond {a b c p : Pl} {x : Int × Int × Int} (l1 : lt a b) (l2 : lt b c) (e : tw a b c = 0) (h1 : tx b p x < 0) (h2 : 0 < tx a p x) : tx c p x < 0 := by
  have k1 : (b.1 - a.1) * tx c p x = (c.1 - a.1) * tx b p x - (c.1 - b.1) * tx a p x + (x.1 - p.1 * x.2.2) * tw a b c := by unfold tx tw; grind
  have k2 : (b.2 - a.2) * tx c p x = (c.2 - a.2) * tx b p x - (c.2 - b.2) * tx a p x + (x.2.1 - p.2 * x.2.2) * tw a b c := by unfold tx tw; grind
  rw [e] at k1 k2
  rcases l1 with l1 | ⟨l1, m1⟩
  · have c1 : 0 ≤ c.1 - b.1 := by unfold lt at l2; omega
    have := Int.mul_pos (show 0 < c.1 - a.1 by omega) (show 0 < - tx b p x by omega)
    have := Int.mul_nonneg c1 (Int.le_of_lt h2)
    have : 0 < (b.1 - a.1) * - tx c p x := by grind
    have := pos_of this (by omega)
    omega
  · have cx : c.1 = b.1 := by
      have : tw a b c = - ((b.2 - a.2) * (c.1 - a.1)) := by unfold tw; rw [l1]; grind
      rw [this] at e
      rcases Int.mul_eq_zero.mp (show (b.2 - a.2) * (c.1 - a.1) = 0 by omega) with k | k <;> omega
    have c2 : b.2 < c.2 := by unfold lt at l2; omega
    have := Int.mul_pos (show 0 < c.2 - a.2 by omega) (show 0 < - tx b p x by omega)
    have := Int.mul_pos (show 0 < c.2 - b.2 by omega) h2
    have : 0 < (b.2 - a.2) * - tx c p x := by grind
    have := pos_of this (by omega)
    omega
theorem new_new1 {R : Pl → Prop} {a b c d p : Pl} {x : Int × Int × Int} (h : HE R a b) (k : HE R c d) (l : lt a b) (s1 : tw a b p < 0) (s2 : tw c d p < 0) (i : Inn b a p x) (j : Inn d c p x) : a = c ∧ b = d := by
  obtain ⟨i1, i2, i3⟩ := i
  obtain ⟨j1, j2, j3⟩ := j
  have b1 := tx_bary b a p c d x
  have b2 := tx_bary d c p a b x
  have f1 := k.left a h.ra
  have f2 := k.left b h.rb
  have g1 := h.left c k.ra
  have g2 := h.left d k.rb
  have m1 := Int.mul_nonneg (Int.le_of_lt i2) f2
  have m2 := Int.mul_nonneg (Int.le_of_lt i3) f1
  have m3 := Int.mul_nonneg (Int.le_of_lt j2) g2
  have m4 := Int.mul_nonneg (Int.le_of_lt j3) g1
  have q1 : tw b a p = - tw a b p := tw_swap a b p
  have q2 : tw d c p = - tw c d p := tw_swap c d p
  have q3 : tx b a x = - tx a b x := tx_swap a b x
  have q4 : tx d c x = - tx c d x := tx_swap c d x
  rw [q1, q3] at b1
  rw [q2, q4] at b2
  have sum : tx a p x * tw c d b + tx p b x * tw c d a + (tx c p x * tw a b d + tx p d x * tw a b c) = 0 := by grind
  have z1 : tx p b x * tw c d a = 0 := by omega
  have z2 : tx a p x * tw c d b = 0 := by omega
  have z3 : tx p d x * tw a b c = 0 := by omega
  have z4 : tx c p x * tw a b d = 0 := by omega
  have y1 : tw c d a = 0 := by rcases Int.mul_eq_zero.mp z1 with r | r; omega; exact r
  have y2 : tw c d b = 0 := by rcases Int.mul_eq_zero.mp z2 with r | r; omega; exact r
  have y3 : tw a b c = 0 := by rcases Int.mul_eq_zero.mp z3 with r | r; omega; exact r
  have y4 : tw a b d = 0 := by rcases Int.mul_eq_zero.mp z4 with r | r; omega; exact r
  -- one heading
  have l' : lt c d := by
    rcases lt_total c d with r | r | r
    · exact r
    · exact (k.ne r).elim
    · exfalso
      have e0 : cr (sub c d) (sub b a) = 0 := by
        have : cr (sub c d) (sub b a) = tw c d a - tw c d b := by unfold cr sub tw; grind
        omega
      have s3 : cr (sub b a) (sub p a) < 0 := by rw [← tw_cr]; exact s1
      have := cr_same (lp_sub.mpr r) (lp_sub.mpr l) e0 s3
      have e1 : tw c d p = - cr (sub c d) (sub p a) + tw c d a := by unfold cr sub tw; grind
      omega
  have n1 := h.no c k.ra y3
  have n2 := h.no d k.rb y4
  have n3 := k.no a h.ra y1
  have n4 := k.no b h.rb y2
  have pb : tx b p x = - tx p b x := tx_swap p b x
  have pd : tx d p x = - tx p d x := tx_swap p d x
  have ac : a = c := by
    rcases lt_total a c with r | r | r
    · exfalso
      rcases lt_total c b with t | t | t
      · exact n1.1 ⟨r, t⟩
      · subst t; omega
      · have := beyond l t (by exact y3) (x := x) (p := p) (by omega) i2
        omega
    · exact r
    · exfalso
      rcases lt_total a d with t | t | t
      · exact n3.1 ⟨r, t⟩
      · subst t; omega
      · have := beyond l' t (by exact y1) (x := x) (p := p) (by omega) j2
        omega
  subst ac
  refine ⟨rfl, ?_⟩
  rcases lt_total b d with r | r | r
  · exact (n4.1 ⟨l, r⟩).elim
  · exact r
  · exact (n2.1 ⟨l', r⟩).elim
theorem Inn.neg {a b c : Pl} {x} (i : Inn a b c x) : Inn (neg a) (neg b) (neg c) (negx x) := by
  unfold Inn
  rw [tx_neg, tx_neg, tx_neg]
  exact i
theorem new_new {R : Pl → Prop} {a b c d p : Pl} {x : Int × Int × Int} (h : HE R a b) (k : HE R c d) (s1 : tw a b p < 0) (s2 : tw c d p < 0) (i : Inn b a p x) (j : Inn d c p x) : a = c ∧ b = d := by
  rcases lt_total a b with l | l | l
  · exact new_new1 h k l s1 s2 i j
  · exact (h.ne l).elim
  · obtain ⟨e1, e2⟩ := new_new1 h.neg k.neg (p := neg p) (lt_neg.mpr l) (by rw [tw_neg]; exact s1) (by rw [tw_neg]; exact s2) i.neg j.neg
    exact ⟨neg_inj e1, neg_inj e2⟩
end NK

namespace NK
/-! ### the sweep's step -/
structure Swp (R : Pl → Prop) (T : Trs) : Prop extends Cov0 R T where
  hull : ¬ Lin R → ∀ {a b}, HE R a b → ∃ c, T a b c
  col : Lin R → ∀ {a b c}, ¬ T a b c
  cor : ¬ Lin R → ∀ {p}, R p → ∃ b c, T p b c
def newT (R : Pl → Prop) (T : Trs) (p : Pl) : Trs := fun x y z => T x y z ∨ ∃ a b, HE R a b ∧ tw a b p < 0 ∧ rot3 b a p x y z

theorem not_in {a b c p : Pl} (t : 0 < tw a b c) (la : lt a p) (lb : lt b p) (lc : lt c p) (h1 : 0 ≤ tw a b p) (h2 : 0 ≤ tw b c p) (h3 : 0 ≤ tw c a p) : False := by
  have s := tw_sum a b c p
  have e1 := tw_rot p b c
  have e2 : tw a p c = tw c a p := by unfold tw; grind
  have x1 : tw b c p * (p.1 - a.1) + tw c a p * (p.1 - b.1) + tw a b p * (p.1 - c.1) = 0 := by unfold tw; grind
  have x2 : tw b c p * (p.2 - a.2) + tw c a p * (p.2 - b.2) + tw a b p * (p.2 - c.2) = 0 := by unfold tw; grind
  have a0 : 0 ≤ p.1 - a.1 := by unfold lt at la; omega
  have b0 : 0 ≤ p.1 - b.1 := by unfold lt at lb; omega
  have c0 : 0 ≤ p.1 - c.1 := by unfold lt at lc; omega
  have m1 := Int.mul_nonneg h2 a0
  have m2 := Int.mul_nonneg h3 b0
  have m3 := Int.mul_nonneg h1 c0
  have z1 : tw b c p * (p.1 - a.1) = 0 := by omega
  have z2 : tw c a p * (p.1 - b.1) = 0 := by omega
  have z3 : tw a b p * (p.1 - c.1) = 0 := by omega
  have f : ∀ {q : Pl} {k : Int}, 0 ≤ k → lt q p → k * (p.1 - q.1) = 0 → 0 ≤ k * (p.2 - q.2) ∧ (0 < k → 0 < k * (p.2 - q.2)) := by
    intro q k hk hl e
    rcases Int.mul_eq_zero.mp e with r | r
    · rw [r]; simp
    · have : 0 < p.2 - q.2 := by unfold lt at hl; omega
      exact ⟨Int.mul_nonneg hk (by omega), fun h => Int.mul_pos h this⟩
  have f1 := f h2 la z1
  have f2 := f h3 lb z2
  have f3 := f h1 lc z3
  omega

theorem scal {u d : Int × Int} {k m : Int} (hk : 0 < k) (hm : 0 ≤ m) (hd : lp d) (e1 : k * u.1 = m * d.1) (e2 : k * u.2 = m * d.2) : (u.1 = 0 ∧ u.2 = 0) ∨ lp u := by
  rcases Int.lt_or_eq_of_le hm with h | h
  · right
    rcases hd with d1 | ⟨d1, d2⟩
    · have := Int.mul_pos h d1
      exact .inl (pos_of (by omega) hk)
    · have := Int.mul_pos h d2
      rw [d1] at e1
      rcases Int.mul_eq_zero.mp (show k * u.1 = 0 by omega) with r | r
      · omega
      · exact .inr ⟨r, pos_of (by omega) hk⟩
  · left
    rw [← h] at e1 e2
    constructor
    · rcases Int.mul_eq_zero.mp (show k * u.1 = 0 by omega) with r | r <;> omega
    · rcases Int.mul_eq_zero.mp (show k * u.2 = 0 by omega) with r | r <;> omega
theorem sub_zero {p q : Pl} (h : (sub p q).1 = 0 ∧ (sub p q).2 = 0) : p = q := by
  unfold sub at h
  exact Prod.ext (by omega) (by omega)

/-- a place of a new triangle is one of its corners -/
theorem new_emp {R : Pl → Prop} {a b p q : Pl} (h : HE R a b) (s : tw a b p < 0) (hq : R q) (q1 : 0 ≤ tw b a q) (q2 : 0 ≤ tw a p q) (q3 : 0 ≤ tw p b q) : q = b ∨ q = a := by
  have l := h.left q hq
  have e := tw_swap a b q
  have z : tw a b q = 0 := by omega
  have n := h.no q hq z
  have k0 : 0 < tw b a p := by rw [tw_swap]; omega
  have za : tw b a q = 0 := by omega
  have a1 : tw b a p * (sub q a).1 = tw a p q * (sub b a).1 + tw b a q * (p.1 - a.1) := by unfold sub tw; grind
  have a2 : tw b a p * (sub q a).2 = tw a p q * (sub b a).2 + tw b a q * (p.2 - a.2) := by unfold sub tw; grind
  have b1 : tw b a p * (sub b q).1 = tw p b q * (sub b a).1 + tw b a q * (b.1 - p.1) := by unfold sub tw; grind
  have b2 : tw b a p * (sub b q).2 = tw p b q * (sub b a).2 + tw b a q * (b.2 - p.2) := by unfold sub tw; grind
  rw [za] at a1 a2 b1 b2
  have sw := fun (x y : Pl) => sub_swap x y
  rcases lt_total a b with k | k | k
  · rcases scal (u := sub q a) k0 q2 (lp_sub.mpr k) (by omega) (by omega) with r | r
    · exact .inr (sub_zero r)
    · rcases scal (u := sub b q) k0 q3 (lp_sub.mpr k) (by omega) (by omega) with t | t
      · exact .inl (sub_zero t).symm
      · exact (n.1 ⟨lp_sub.mp r, lp_sub.mp t⟩).elim
  · exact (h.ne k).elim
  · have m1 : (sub a b).1 = - (sub b a).1 := by unfold sub; omega
    have m2 : (sub a b).2 = - (sub b a).2 := by unfold sub; omega
    have m3 : (sub a q).1 = - (sub q a).1 := by unfold sub; omega
    have m4 : (sub a q).2 = - (sub q a).2 := by unfold sub; omega
    have m5 : (sub q b).1 = - (sub b q).1 := by unfold sub; omega
    have m6 : (sub q b).2 = - (sub b q).2 := by unfold sub; omega
    rcases scal (u := sub a q) k0 q2 (lp_sub.mpr k) (by rw [m1, m3]; grind) (by rw [m2, m4]; grind) with r | r
    · exact .inr (sub_zero r).symm
    · rcases scal (u := sub q b) k0 q3 (lp_sub.mpr k) (by rw [m1, m5]; grind) (by rw [m2, m6]; grind) with t | t
      · exact .inl (sub_zero t)
      · exact (n.2 ⟨lp_sub.mp t, lp_sub.mp r⟩).elim

/-- a side of a triangle whose back is none is one of the outline -/
theorem he_of_side {R : Pl → Prop} {T : Trs} (C : Cov0 R T) {x y z : Pl} (h : T x y z) (nb : ∀ d, ¬ T y x d) : HE R x y := by
  have t := C.pos h
  refine ⟨C.inP h, C.inP2 h, (C.ne h).1, fun q hq => C.bd h nb hq, ?_⟩
  have key : ∀ {q u v : Pl}, lt u q → lt q v → tw u v q = 0 → (∀ c, 0 < tw u v c → 0 < tw c u q ∧ 0 < tw v c q) := by
    intro q u v l1 l2 e c hc
    have lv := lt_trans l1 l2
    have e1 : cr (sub q u) (sub v u) = 0 := by rw [cr_swap, ← tw_cr]; omega
    have e2 : cr (sub v q) (sub v u) = 0 := by
      have : cr (sub v q) (sub v u) = tw u v q := by unfold cr sub tw; grind
      omega
    have h1 := cr_same' (z := sub c u) (lp_sub.mpr l1) (lp_sub.mpr lv) e1 (by rw [← tw_cr]; exact hc)
    have h2 := cr_same' (z := sub c u) (lp_sub.mpr l2) (lp_sub.mpr lv) e2 (by rw [← tw_cr]; exact hc)
    have f1 : tw c u q = cr (sub q u) (sub c u) := by unfold cr sub tw; grind
    have f2 : tw v c q = cr (sub v q) (sub c u) - cr (sub v q) (sub v u) := by unfold cr sub tw; grind
    exact ⟨by omega, by omega⟩
  intro q hq e
  constructor
  · rintro ⟨l1, l2⟩
    have k := key l1 l2 e z t
    rcases C.emp h hq (by omega) (by omega) (by omega) with r | r | r
    · exact lt_ne l1 r.symm
    · exact lt_ne l2 r
    · subst r; omega
  · rintro ⟨l1, l2⟩
    have e' : tw y x q = 0 := by rw [tw_swap]; omega
    -- the same with the other end first, mirrored
    have lv := lt_trans l1 l2
    have e1 : cr (sub q y) (sub x y) = 0 := by rw [cr_swap, ← tw_cr]; omega
    have e2 : cr (sub x q) (sub x y) = 0 := by
      have : cr (sub x q) (sub x y) = tw y x q := by unfold cr sub tw; grind
      omega
    have t' : cr (sub x y) (sub z y) < 0 := by rw [← tw_cr, tw_swap]; omega
    have h1 := cr_same (z := sub z y) (lp_sub.mpr l1) (lp_sub.mpr lv) e1 t'
    have h2 := cr_same (z := sub z y) (lp_sub.mpr l2) (lp_sub.mpr lv) e2 t'
    have f1 : tw y z q = - cr (sub q y) (sub z y) := by unfold cr sub tw; grind
    have f2 : tw z x q = - cr (sub x q) (sub z y) + cr (sub x q) (sub x y) := by unfold cr sub tw; grind
    rcases C.emp h hq (by omega) (by omega) (by omega) with r | r | r
    · exact lt_ne l2 r
    · exact lt_ne l1 r.symm
    · subst r; omega

section
variable {R : Pl → Prop} {T : Trs} (w : Row R) {p : Pl} (hp : ∀ q, R q → lt q p) (S : Swp R T)
include w hp S
theorem step_cov : Cov0 (plus R p) (newT R T p) := by
  have C := S.toCov0
  have np : ¬ R p := fun h => lt_irrefl _ (hp p h)
  have pos : ∀ {x y z}, newT R T p x y z → 0 < tw x y z := by
    rintro x y z (h | ⟨a, b, h, s, r⟩)
    · exact C.pos h
    · rw [r.tw, tw_swap]; omega
  -- an old and a new one
  have apart : ∀ {x y z a b t}, T x y z → HE R a b → Inn x y z t → Inn b a p t → False := by
    intro x y z a b t h k i j
    have e := tx_bary x y z a b t
    have f1 := k.left x (C.inP h)
    have f2 := k.left y (C.inP2 h)
    have f3 := k.left z (C.inP3 h)
    have m1 := Int.mul_nonneg (Int.le_of_lt i.2.1) f1
    have m2 := Int.mul_nonneg (Int.le_of_lt i.2.2) f2
    have m3 := Int.mul_nonneg (Int.le_of_lt i.1) f3
    have := nn_of (a := tw x y z) (b := tx a b t) (by omega) (C.pos h)
    have q := tx_swap a b t
    have := j.1
    omega
  constructor
  · rintro x y z (h | ⟨a, b, h, s, r⟩)
    · exact .inl (C.rot h)
    · exact .inr ⟨a, b, h, s, r.rot⟩
  · rintro x y z (h | ⟨a, b, h, s, r⟩)
    · exact .inl (C.inP h)
    · rcases r with ⟨rfl, _⟩ | ⟨rfl, _⟩ | ⟨rfl, _⟩
      · exact .inl h.rb
      · exact .inl h.ra
      · exact .inr rfl
  · exact pos
  · -- emp
    rintro x y z q (h | ⟨a, b, h, s, r⟩) hq q1 q2 q3
    · rcases hq with hq | rfl
      · exact C.emp h hq q1 q2 q3
      · exact (not_in (C.pos h) (hp x (C.inP h)) (hp y (C.inP2 h)) (hp z (C.inP3 h)) q1 q2 q3).elim
    · rcases hq with hq | rfl
      · rcases r with ⟨rfl, rfl, rfl⟩ | ⟨rfl, rfl, rfl⟩ | ⟨rfl, rfl, rfl⟩
        · exact (new_emp h s hq q1 q2 q3).imp id .inl
        · rcases new_emp h s hq q3 q1 q2 with k | k
          · exact .inr (.inr k)
          · exact .inl k
        · rcases new_emp h s hq q2 q3 q1 with k | k
          · exact .inr (.inl k)
          · exact .inr (.inr k)
      · rcases r with ⟨_, _, rfl⟩ | ⟨_, rfl, _⟩ | ⟨rfl, _, _⟩
        · exact .inr (.inr rfl)
        · exact .inr (.inl rfl)
        · exact .inl rfl
  · -- dis
    rintro x y z e f g t (h | ⟨a, b, h, s, r⟩) (h' | ⟨a', b', h', s', r'⟩) i j
    · exact C.dis h h' i j
    · exact (apart h h' i (j.rot3 r'.symm)).elim
    · exact (apart h' h j (i.rot3 r.symm)).elim
    · obtain ⟨rfl, rfl⟩ := new_new h h' s s' (i.rot3 r.symm) (j.rot3 r'.symm)
      exact r.symm.trans r'
  · -- bd
    rintro x y z q t nt hq
    rcases t with h | ⟨a, b, h, s, r⟩
    · have E := he_of_side C h fun d hd => nt d (.inl hd)
      rcases hq with hq | rfl
      · exact E.left q hq
      · by_cases k : tw x y q < 0
        · exact (nt q (.inr ⟨x, y, E, k, rot3.refl _ _ _⟩)).elim
        · omega
    · rcases r with ⟨rfl, rfl, rfl⟩ | ⟨rfl, rfl, rfl⟩ | ⟨rfl, rfl, rfl⟩
      · by_cases nl : Lin R
        · rcases hq with hq | rfl
          · rw [nl _ _ _ h.rb h.ra hq]; omega
          · rw [tw_swap]; omega
        · obtain ⟨c, hc⟩ := S.hull nl h
          exact (nt c (.inl hc)).elim
      · rcases hq with hq | rfl
        · exact tangent_in w h s (fun x' hx k => nt x' (.inr ⟨_, _, hx, k, .inr (.inr ⟨rfl, rfl, rfl⟩)⟩)) q hq
        · rw [tw_abb]; omega
      · rcases hq with hq | rfl
        · exact tangent_out w h s (fun x' hx k => nt x' (.inr ⟨_, _, hx, k, .inr (.inl ⟨rfl, rfl, rfl⟩)⟩)) q hq
        · rw [tw_aba]; omega
end

/-- all on a line so far: each place has a seen side -/
theorem lin_seen1 {R : Pl → Prop} (w : Row R) (L : Lin R) {a b p : Pl} (h : HE R a b) (l : lt a b) (s : tw a b p < 0) {q : Pl} (hq : R q) : (∃ y, HE R q y ∧ tw q y p < 0) ∨ ∃ x, HE R x q ∧ tw x q p < 0 := by
  have flat : ∀ u v, R u → R v → cr (sub b a) (sub v u) = 0 := fun u v hu hv => by
    have e : cr (sub b a) (sub v u) = tw a b v - tw a b u := by unfold cr sub tw; grind
    rw [e, L a b v h.ra h.rb hv, L a b u h.ra h.rb hu]
    omega
  have seen : ∀ u v, R u → R v → lt u v → tw u v p < 0 := fun u v hu hv k => by
    rw [tw_cr]
    refine cr_same (lp_sub.mpr k) (lp_sub.mpr l) (by rw [cr_swap, flat u v hu hv]; omega) ?_
    have e : cr (sub b a) (sub p u) = tw a b p - tw a b u := by unfold cr sub tw; grind
    rw [e, L a b u h.ra h.rb hu]
    omega
  rcases w.fwdOut hq (lp_sub.mpr l) (fun q' hq' => by rw [flat q q' hq hq']; omega) with ⟨y, hy, ly⟩ | k
  · exact .inl ⟨y, hy, seen q y hq hy.rb ly⟩
  · have : ∃ c, R c ∧ c ≠ q := by
      by_cases z : a = q
      · exact ⟨b, h.rb, fun k => h.ne (z.trans k.symm)⟩
      · exact ⟨a, h.ra, z⟩
    obtain ⟨c, hc, nc⟩ := this
    obtain ⟨x, hx, lx⟩ := w.maxIn hq hc nc k
    exact .inr ⟨x, hx, seen x q hx.ra hq lx⟩
theorem lin_seen {R : Pl → Prop} (w : Row R) (L : Lin R) {a b p : Pl} (h : HE R a b) (s : tw a b p < 0) {q : Pl} (hq : R q) : (∃ y, HE R q y ∧ tw q y p < 0) ∨ ∃ x, HE R x q ∧ tw x q p < 0 := by
  rcases lt_total a b with l | l | l
  · exact lin_seen1 w L h l s hq
  · exact (h.ne l).elim
  · rcases lin_seen1 w.neg L.neg h.neg (p := neg p) (lt_neg.mpr l) (by rw [tw_neg]; exact s) (q := neg q) (by unfold negR; rwa [neg_neg]) with ⟨y, hy, k⟩ | ⟨x, hx, k⟩
    · have := hy.of_neg
      rw [neg_neg] at this
      refine .inl ⟨_, this, ?_⟩
      rw [← tw_neg, neg_neg]
      exact k
    · have := hx.of_neg
      rw [neg_neg] at this
      refine .inr ⟨_, this, ?_⟩
      rw [← tw_neg, neg_neg]
      exact k

theorem step_swp {R : Pl → Prop} {T : Trs} (w : Row R) {p : Pl} (hp : ∀ q, R q → lt q p) (S : Swp R T) : Swp (plus R p) (newT R T p) := by
  have np : ¬ R p := fun h => lt_irrefl _ (hp p h)
  refine { toCov0 := step_cov w hp S, hull := ?_, col := ?_, cor := ?_ }
  · intro nl a b h
    rcases h.ra with ha | rfl
    · rcases h.rb with hb | rfl
      · have hR : HE R a b := ⟨ha, hb, h.ne, fun q hq => h.left q (.inl hq), fun q hq => h.no q (.inl hq)⟩
        by_cases L : Lin R
        · have l := h.left p (.inr rfl)
          have hB : HE R b a := ⟨hb, ha, h.ne.symm, fun q hq => by rw [L _ _ _ hb ha hq]; omega, fun q hq _ => (h.no q (.inl hq) (L _ _ _ ha hb hq)).symm⟩
          refine ⟨p, .inr ⟨b, a, hB, ?_, rot3.refl _ _ _⟩⟩
          rw [tw_swap]
          rcases Int.lt_or_eq_of_le l with z | z
          · omega
          · exfalso
            apply nl
            rcases lt_total a b with k | k | k
            · refine lin_of (m := a) (u := sub b a) (lp_sub.mpr k) ?_
              rintro q (hq | rfl)
              · rw [← tw_cr]; exact L _ _ _ ha hb hq
              · rw [← tw_cr]; exact z.symm
            · exact (h.ne k).elim
            · refine lin_of (m := b) (u := sub a b) (lp_sub.mpr k) ?_
              rintro q (hq | rfl)
              · rw [← tw_cr]; exact L _ _ _ hb ha hq
              · rw [← tw_cr, tw_swap]; omega
        · obtain ⟨c, hc⟩ := S.hull L hR
          exact ⟨c, .inl hc⟩
      · obtain ⟨y, hy, s⟩ := hull_in w hp nl h
        exact ⟨y, .inr ⟨a, y, hy, s, .inr (.inl ⟨rfl, rfl, rfl⟩)⟩⟩
    · obtain ⟨x, hx, s⟩ := hull_out w hp nl h
      exact ⟨x, .inr ⟨x, b, hx, s, .inr (.inr ⟨rfl, rfl, rfl⟩)⟩⟩
  · rintro L x y z (h | ⟨a, b, h, s, r⟩)
    · exact S.col (fun a b c ha hb hc => L a b c (.inl ha) (.inl hb) (.inl hc)) h
    · have := L a b p (.inl h.ra) (.inl h.rb) (.inr rfl)
      omega
  · rintro nl q (hq | rfl)
    · by_cases L : Lin R
      · obtain ⟨a, b, h, s⟩ := sees w hp nl
        rcases lin_seen w L h s hq with ⟨y, hy, k⟩ | ⟨x, hx, k⟩
        · exact ⟨_, _, .inr ⟨q, y, hy, k, .inr (.inl ⟨rfl, rfl, rfl⟩)⟩⟩
        · exact ⟨_, _, .inr ⟨x, q, hx, k, .inl ⟨rfl, rfl, rfl⟩⟩⟩
      · obtain ⟨b, c, h⟩ := S.cor L hq
        exact ⟨b, c, .inl h⟩
    · obtain ⟨a, b, h, s⟩ := sees w hp nl
      exact ⟨b, a, .inr ⟨a, b, h, s, .inr (.inr ⟨rfl, rfl, rfl⟩)⟩⟩
/-- at the start -/
theorem start_swp (p : Pl) : Swp (fun q => q = p) (fun _ _ _ => False) := by
  have L : Lin (fun q => q = p) := by rintro a b c rfl rfl rfl; exact tw_aab _ _
  constructor
  · constructor <;> intros <;> contradiction
  · intro n; exact (n L).elim
  · intro _ _ _ _ h; exact h
  · intro n; exact (n L).elim
end NK

namespace NK
/-! ### a side turned away never comes again -/
/-- over x a triangle lies lower than h -/
def Low (H : Pl → Int) (T : Trs) (x : Int × Int × Int) (h : Int) : Prop := ∃ e f g, T e f g ∧ 0 ≤ tx e f x ∧ 0 ≤ tx f g x ∧ 0 ≤ tx g e x ∧ NH H e f g x < h * tw e f g
/-- the point at which ab and cd cross -/
def crossP (a b c d : Pl) : Int × Int × Int := (tw d b c * a.1 + tw a d c * b.1, tw d b c * a.2 + tw a d c * b.2, tw d b c + tw a d c)
def crossH (H : Pl → Int) (a b c d : Pl) : Int := tw d b c * H a + tw a d c * H b
theorem tx_cross (a b c d u v : Pl) : tx u v (crossP a b c d) = tw d b c * tw u v a + tw a d c * tw u v b := by unfold tx crossP tw; grind

theorem low_half {H : Pl → Int} {a b c d : Pl} {x : Int × Int × Int} {h : Int} (p1 : 0 < tw a b c) (p2 : 0 < tw b a d) (g1 : 0 < tw a d c) (g2 : 0 < tw d b c) (wr : 0 < bw H a b c d)
    (i1 : 0 ≤ tx a b x) (i2 : 0 ≤ tx b c x) (i3 : 0 ≤ tx c a x) (l : NH H a b c x < h * tw a b c) :
    (0 ≤ tx a d x ∧ 0 ≤ tx d c x ∧ 0 ≤ tx c a x ∧ NH H a d c x < h * tw a d c) ∨ (0 ≤ tx d b x ∧ 0 ≤ tx b c x ∧ 0 ≤ tx c d x ∧ NH H d b c x < h * tw d b c) := by
  have sw := tx_swap c d x
  rcases Int.le_total 0 (tx d c x) with k | k
  · left
    have e1 : tw a b c * tx a d x = tx a b x * tw a d c + tx c a x * tw b a d + 0 := by
      have := tx_bary a b c a d x
      have z1 : tw a d a = 0 := tw_aba a d
      have z2 : tw a d b = tw b a d := tw_rot b a d
      rw [z1, z2] at this
      omega
    have m1 := Int.mul_nonneg i1 (Int.le_of_lt g1)
    have m2 := Int.mul_nonneg i3 (Int.le_of_lt p2)
    refine ⟨nn_of (a := tw a b c) (by omega) p1, k, i3, ?_⟩
    have e2 : NH H a b c x * tw a d c - NH H a d c x * tw a b c = bw H a b c d * tx c a x := by unfold NH bw tx tw; grind
    have m3 := Int.mul_nonneg (Int.le_of_lt wr) i3
    have m4 := Int.mul_lt_mul_of_pos_right l g1
    have m5 : 0 < tw a b c * (h * tw a d c - NH H a d c x) := by grind
    have := pos_of m5 p1
    omega
  · right
    have e1 : tw a b c * tx d b x = tx b c x * tw b a d + tx a b x * tw d b c + 0 := by
      have := tx_bary a b c d b x
      have z1 : tw d b b = 0 := tw_abb d b
      have z2 : tw d b a = tw b a d := tw_rot2 b a d
      rw [z1, z2] at this
      omega
    have m1 := Int.mul_nonneg i1 (Int.le_of_lt g2)
    have m2 := Int.mul_nonneg i2 (Int.le_of_lt p2)
    refine ⟨nn_of (a := tw a b c) (by omega) p1, i2, by rw [tx_swap]; omega, ?_⟩
    have e2 : NH H a b c x * tw d b c - NH H d b c x * tw a b c = bw H a b c d * tx b c x := by unfold NH bw tx tw; grind
    have m3 := Int.mul_nonneg (Int.le_of_lt wr) i2
    have m4 := Int.mul_lt_mul_of_pos_right l g2
    have m5 : 0 < tw a b c * (h * tw d b c - NH H d b c x) := by grind
    have := pos_of m5 p1
    omega
theorem low_flip {P : Pl → Prop} {T : Trs} {H : Pl → Int} (C : Cov0 P T) {a b c d : Pl} (h1 : T a b c) (h2 : T b a d) (g1 : 0 < tw a d c) (g2 : 0 < tw d b c) (wr : 0 < bw H a b c d) {x : Int × Int × Int} {h : Int} (L : Low H T x h) : Low H (flipT T a b c d) x h := by
  obtain ⟨e, f, g, t, i1, i2, i3, l⟩ := L
  have p1 := C.pos h1
  have p2 := C.pos h2
  have half := fun {a b c d : Pl} {e f g : Pl} (p1 : 0 < tw a b c) (p2 : 0 < tw b a d) (g1 : 0 < tw a d c) (g2 : 0 < tw d b c) (wr : 0 < bw H a b c d) (i1 : 0 ≤ tx e f x) (i2 : 0 ≤ tx f g x) (i3 : 0 ≤ tx g e x) (l : NH H e f g x < h * tw e f g) (r : rot3 a b c e f g) =>
    show (0 ≤ tx a d x ∧ 0 ≤ tx d c x ∧ 0 ≤ tx c a x ∧ NH H a d c x < h * tw a d c) ∨ (0 ≤ tx d b x ∧ 0 ≤ tx b c x ∧ 0 ≤ tx c d x ∧ NH H d b c x < h * tw d b c) from by
      rcases r with ⟨rfl, rfl, rfl⟩ | ⟨rfl, rfl, rfl⟩ | ⟨rfl, rfl, rfl⟩
      · exact low_half p1 p2 g1 g2 wr i1 i2 i3 l
      · exact low_half p1 p2 g1 g2 wr i3 i1 i2 (by rw [NH_rot, tw_rot g e f] at l; exact l)
      · exact low_half p1 p2 g1 g2 wr i2 i3 i1 (by rw [NH_rot, NH_rot, tw_rot2 f g e] at l; exact l)
  by_cases k1 : rot3 a b c e f g
  · rcases half p1 p2 g1 g2 wr i1 i2 i3 l k1 with ⟨q1, q2, q3, q4⟩ | ⟨q1, q2, q3, q4⟩
    · exact ⟨a, d, c, .inr (.inl (rot3.refl _ _ _)), q1, q2, q3, q4⟩
    · exact ⟨d, b, c, .inr (.inr (rot3.refl _ _ _)), q1, q2, q3, q4⟩
  · by_cases k2 : rot3 b a d e f g
    · have wr' : 0 < bw H b a d c := by rw [bw_back]; exact wr
      rcases half p2 p1 (by rw [tw_rot d b c]; exact g2) (by rw [tw_rot2 a d c]; exact g1) wr' i1 i2 i3 l k2 with ⟨q1, q2, q3, q4⟩ | ⟨q1, q2, q3, q4⟩
      · exact ⟨b, c, d, .inr (.inr (.inr (.inl ⟨rfl, rfl, rfl⟩))), q1, q2, q3, q4⟩
      · exact ⟨c, a, d, .inr (.inl (.inr (.inr ⟨rfl, rfl, rfl⟩))), q1, q2, q3, q4⟩
    · exact ⟨e, f, g, .inl ⟨t, k1, k2⟩, i1, i2, i3, l⟩
theorem low_new {T : Trs} {H : Pl → Int} {a b c d : Pl} (p1 : 0 < tw a b c) (p2 : 0 < tw b a d) (g1 : 0 < tw a d c) (g2 : 0 < tw d b c) (wr : 0 < bw H a b c d) : Low H (flipT T a b c d) (crossP a b c d) (crossH H a b c d) := by
  have e1 := tx_cross a b c d a d
  have e2 := tx_cross a b c d d c
  have e3 := tx_cross a b c d c a
  have z1 : tw a d a = 0 := tw_aba a d
  have z2 : tw a d b = tw b a d := tw_rot b a d
  have z3 : tw d c a = tw a d c := tw_rot a d c
  have z4 : tw d c b = - tw d b c := tw_swap2 d b c
  have z5 : tw c a a = 0 := tw_abb c a
  have z6 : tw c a b = tw a b c := tw_rot2 a b c
  rw [z1, z2] at e1
  rw [z3, z4] at e2
  rw [z5, z6] at e3
  have m1 := Int.mul_pos g1 p2
  have m2 := Int.mul_pos g1 p1
  refine ⟨a, d, c, .inr (.inl (rot3.refl _ _ _)), by omega, by grind, by omega, ?_⟩
  have e4 : crossH H a b c d * tw a d c - NH H a d c (crossP a b c d) = tw a d c * bw H a b c d := by unfold crossH NH crossP bw tx tw; grind
  have := Int.mul_pos g1 wr
  omega
/-- a triangle that has a point of a side of another one: it is this one, or the one behind the side -/
theorem on_side {P : Pl → Prop} {T : Trs} (C : Cov0 P T) {a b c e f g : Pl} {x : Int × Int × Int} {l m : Int} (h : T a b c) (t : T e f g) (hl : 0 < l) (hm : 0 < m)
    (hx : ∀ u v, tx u v x = l * tw u v a + m * tw u v b) (i1 : 0 ≤ tx e f x) (i2 : 0 ≤ tx f g x) (i3 : 0 ≤ tx g e x) : rot3 a b c e f g ∨ ∃ d, T b a d ∧ rot3 b a d e f g := by
  have pa := C.pos h
  have pt := C.pos t
  -- a point within the other one, off the line
  have inner : ∃ y : Int × Int × Int, Inn e f g y ∧ tx a b y ≠ 0 := by
    -- weights that are not all alike
    have Y : ∀ i j k : Int, 0 < i → 0 < j → 0 < k → Inn e f g (i * e.1 + j * f.1 + k * g.1, i * e.2 + j * f.2 + k * g.2, i + j + k) ∧ tx a b (i * e.1 + j * f.1 + k * g.1, i * e.2 + j * f.2 + k * g.2, i + j + k) = i * tw a b e + j * tw a b f + k * tw a b g := by
      intro i j k hi hj hk
      have q1 : tx e f (i * e.1 + j * f.1 + k * g.1, i * e.2 + j * f.2 + k * g.2, i + j + k) = k * tw e f g := by unfold tx tw; grind
      have q2 : tx f g (i * e.1 + j * f.1 + k * g.1, i * e.2 + j * f.2 + k * g.2, i + j + k) = i * tw e f g := by unfold tx tw; grind
      have q3 : tx g e (i * e.1 + j * f.1 + k * g.1, i * e.2 + j * f.2 + k * g.2, i + j + k) = j * tw e f g := by unfold tx tw; grind
      refine ⟨⟨by rw [q1]; exact Int.mul_pos hk pt, by rw [q2]; exact Int.mul_pos hi pt, by rw [q3]; exact Int.mul_pos hj pt⟩, by unfold tx tw; grind⟩
    have y1 := Y 1 1 1 (by omega) (by omega) (by omega)
    have y2 := Y 2 1 1 (by omega) (by omega) (by omega)
    have y3 := Y 1 2 1 (by omega) (by omega) (by omega)
    by_cases k1 : tx a b (1 * e.1 + 1 * f.1 + 1 * g.1, 1 * e.2 + 1 * f.2 + 1 * g.2, 1 + 1 + 1) ≠ 0
    · exact ⟨_, y1.1, k1⟩
    by_cases k2 : tx a b (2 * e.1 + 1 * f.1 + 1 * g.1, 2 * e.2 + 1 * f.2 + 1 * g.2, 2 + 1 + 1) ≠ 0
    · exact ⟨_, y2.1, k2⟩
    by_cases k3 : tx a b (1 * e.1 + 2 * f.1 + 1 * g.1, 1 * e.2 + 2 * f.2 + 1 * g.2, 1 + 2 + 1) ≠ 0
    · exact ⟨_, y3.1, k3⟩
    exfalso
    have k1 := Classical.not_not.mp k1
    have k2 := Classical.not_not.mp k2
    have k3 := Classical.not_not.mp k3
    rw [y1.2] at k1
    rw [y2.2] at k2
    rw [y3.2] at k3
    have z1 : tw a b e = 0 := by omega
    have z2 : tw a b f = 0 := by omega
    have z3 : tw a b g = 0 := by omega
    have ne := (C.ne h).1
    -- all on the line: no area
    have w1 : (b.1 - a.1) * tw e f g = 0 := by unfold tw at *; grind
    have w2 : (b.2 - a.2) * tw e f g = 0 := by unfold tw at *; grind
    have v1 : b.1 - a.1 = 0 := by rcases Int.mul_eq_zero.mp w1 with r | r <;> omega
    have v2 : b.2 - a.2 = 0 := by rcases Int.mul_eq_zero.mp w2 with r | r <;> omega
    exact ne (Prod.ext (by omega) (by omega))
  obtain ⟨y, j, off⟩ := inner
  -- near x, towards y
  let k : Int := (tx b c y).natAbs + (tx c a y).natAbs + 1
  have near : ∀ k : Int, 0 < k → Inn e f g (k * x.1 + y.1, k * x.2.1 + y.2.1, k * x.2.2 + y.2.2) := by
    intro k hk
    have e0 : ∀ u v, tx u v (k * x.1 + y.1, k * x.2.1 + y.2.1, k * x.2.2 + y.2.2) = k * tx u v x + tx u v y := by intro u v; unfold tx; grind
    refine ⟨?_, ?_, ?_⟩
    · rw [e0]; have := Int.mul_nonneg (Int.le_of_lt hk) i1; have := j.1; omega
    · rw [e0]; have := Int.mul_nonneg (Int.le_of_lt hk) i2; have := j.2.1; omega
    · rw [e0]; have := Int.mul_nonneg (Int.le_of_lt hk) i3; have := j.2.2; omega
  have e0 : ∀ (k : Int) u v, tx u v (k * x.1 + y.1, k * x.2.1 + y.2.1, k * x.2.2 + y.2.2) = k * tx u v x + tx u v y := by intro k u v; unfold tx; grind
  have side : ∀ {a b c : Pl} {l m : Int}, T a b c → 0 < l → 0 < m → (∀ u v, tx u v x = l * tw u v a + m * tw u v b) → 0 < tx a b y → rot3 a b c e f g := by
    intro a b c l m h hl hm hx hy
    have pa := C.pos h
    have x1 : tx a b x = 0 := by rw [hx, tw_aba, tw_abb]; omega
    have x2 : 0 < tx b c x := by
      have := Int.mul_pos hl pa
      rw [hx, tw_rot a b c, tw_aba]
      omega
    have x3 : 0 < tx c a x := by
      have := Int.mul_pos hm pa
      rw [hx, tw_rot2 a b c, tw_abb]
      omega
    let k : Int := (tx b c y).natAbs + (tx c a y).natAbs + 1
    refine C.dis h t (x := (k * x.1 + y.1, k * x.2.1 + y.2.1, k * x.2.2 + y.2.2)) ⟨?_, ?_, ?_⟩ (near k (by omega))
    · rw [e0, x1]; omega
    · rw [e0]; exact big x2 (by omega)
    · rw [e0]; exact big x3 (by omega)
  rcases Int.lt_trichotomy (tx a b y) 0 with s | s | s
  · right
    by_cases nb : ∀ d, ¬ T b a d
    · exfalso
      have B := tx_bary e f g a b y
      have f1 := C.bd h nb (C.inP t)
      have f2 := C.bd h nb (C.inP2 t)
      have f3 := C.bd h nb (C.inP3 t)
      have m1 := Int.mul_nonneg (Int.le_of_lt j.2.1) f1
      have m2 := Int.mul_nonneg (Int.le_of_lt j.2.2) f2
      have m3 := Int.mul_nonneg (Int.le_of_lt j.1) f3
      have := nn_of (a := tw e f g) (b := tx a b y) (by omega) pt
      omega
    · obtain ⟨d, hd⟩ := Classical.not_forall.mp nb
      have hd := Classical.not_not.mp hd
      refine ⟨d, hd, side (l := m) (m := l) hd hm hl (fun u v => by rw [hx]; omega) ?_⟩
      rw [tx_swap]; omega
  · exact (off s).elim
  · exact .inl (side h hl hm hx s)
theorem low_side {P : Pl → Prop} {T : Trs} {H : Pl → Int} (C : Cov0 P T) {a b c d : Pl} (g1 : 0 < tw a d c) (g2 : 0 < tw d b c) (L : Low H T (crossP a b c d) (crossH H a b c d)) (c' : Pl) : ¬ T a b c' := by
  intro h
  obtain ⟨e, f, g, t, i1, i2, i3, l⟩ := L
  have at_ab : ∀ q, NH H a b q (crossP a b c d) = crossH H a b c d * tw a b q := by
    intro q
    have e1 := tx_cross a b c d b q
    have e2 := tx_cross a b c d q a
    have e3 := tx_cross a b c d a b
    have z1 : tw b q a = tw a b q := tw_rot a b q
    have z2 : tw b q b = 0 := tw_aba b q
    have z3 : tw q a a = 0 := tw_abb q a
    have z4 : tw q a b = tw a b q := tw_rot2 a b q
    have z5 : tw a b a = 0 := tw_aba a b
    have z6 : tw a b b = 0 := tw_abb a b
    rw [z1, z2] at e1
    rw [z3, z4] at e2
    rw [z5, z6] at e3
    unfold NH crossH
    rw [e1, e2, e3]
    grind
  have at_ba : ∀ q, NH H b a q (crossP a b c d) = crossH H a b c d * tw b a q := by
    intro q
    have e1 := at_ab q
    have e2 : NH H b a q (crossP a b c d) = - NH H a b q (crossP a b c d) := by unfold NH tx; grind
    rw [e2, e1, tw_swap]
    grind
  have key : ∀ {u v z}, rot3 u v z e f g → NH H u v z (crossP a b c d) = crossH H a b c d * tw u v z → False := by
    intro u v z r q
    rcases r with ⟨rfl, rfl, rfl⟩ | ⟨rfl, rfl, rfl⟩ | ⟨rfl, rfl, rfl⟩
    · omega
    · rw [NH_rot, tw_rot g e f] at l; omega
    · rw [NH_rot, NH_rot, tw_rot2 f g e] at l; omega
  rcases on_side C h t g2 g1 (fun u v => tx_cross a b c d u v) i1 i2 i3 with r | ⟨d', _, r⟩
  · exact key r (at_ab c')
  · exact key r (at_ba d')
end NK

namespace NK
/-! ### the data of the program: sides, triangles, tables -/
abbrev Sd := Pl × Pl
abbrev Tri := Pl × Pl × Pl
abbrev Tab := List (Sd × Pl)
def look (t : Tab) (k : Sd) : Option Pl := (t.find? fun x => decide (x.1 = k)).map (·.2)
def putT (t : Tab) (k : Sd) (v : Pl) : Tab := if (look t k).isSome then t.map (fun x => if x.1 = k then (x.1, v) else x) else t ++ [(k, v)]
def dropT (t : Tab) (k : Sd) : Tab := t.filter fun x => decide (x.1 ≠ k)
def ltS (s t : Sd) : Prop := lt s.1 t.1 ∨ (s.1 = t.1 ∧ lt s.2 t.2)
instance (s t : Sd) : Decidable (ltS s t) := by unfold ltS; infer_instance
def ltT (s t : Tri) : Prop := lt s.1 t.1 ∨ (s.1 = t.1 ∧ ltS s.2 t.2)
instance (s t : Tri) : Decidable (ltT s t) := by unfold ltT; infer_instance
theorem ltS_irrefl (s : Sd) : ¬ ltS s s := fun h => h.elim (lt_irrefl _) fun h => lt_irrefl _ h.2
theorem ltS_trans {s t u : Sd} (h : ltS s t) (k : ltS t u) : ltS s u := by
  rcases h with h | ⟨h1, h2⟩ <;> rcases k with k | ⟨k1, k2⟩
  · exact .inl (lt_trans h k)
  · exact .inl (by rw [← k1]; exact h)
  · exact .inl (by rw [h1]; exact k)
  · exact .inr ⟨h1.trans k1, lt_trans h2 k2⟩
theorem ltS_total (s t : Sd) : ltS s t ∨ s = t ∨ ltS t s := by
  rcases lt_total s.1 t.1 with h | h | h
  · exact .inl (.inl h)
  · rcases lt_total s.2 t.2 with k | k | k
    · exact .inl (.inr ⟨h, k⟩)
    · exact .inr (.inl (Prod.ext h k))
    · exact .inr (.inr (.inr ⟨h.symm, k⟩))
  · exact .inr (.inr (.inl h))
theorem ltT_irrefl (s : Tri) : ¬ ltT s s := fun h => h.elim (lt_irrefl _) fun h => ltS_irrefl _ h.2
theorem ltT_trans {s t u : Tri} (h : ltT s t) (k : ltT t u) : ltT s u := by
  rcases h with h | ⟨h1, h2⟩ <;> rcases k with k | ⟨k1, k2⟩
  · exact .inl (lt_trans h k)
  · exact .inl (by rw [← k1]; exact h)
  · exact .inl (by rw [h1]; exact k)
  · exact .inr ⟨h1.trans k1, ltS_trans h2 k2⟩
theorem ltT_total (s t : Tri) : ltT s t ∨ s = t ∨ ltT t s := by
  rcases lt_total s.1 t.1 with h | h | h
  · exact .inl (.inl h)
  · rcases ltS_total s.2 t.2 with k | k | k
    · exact .inl (.inr ⟨h, k⟩)
    · exact .inr (.inl (Prod.ext h k))
    · exact .inr (.inr (.inr ⟨h.symm, k⟩))
  · exact .inr (.inr (.inl h))
/-! ### sorted lists -/
section
variable {α : Type} (lt : α → α → Prop) [DecidableRel lt]
def srtBy (l : List α) : List α := l.mergeSort fun x y => !decide (lt y x)
variable (irr : ∀ x, ¬ lt x x) (tr : ∀ {x y z}, lt x y → lt y z → lt x z) (tot : ∀ x y, lt x y ∨ x = y ∨ lt y x)
theorem srtBy_perm (l : List α) : (srtBy lt l).Perm l := List.mergeSort_perm l _
theorem mem_srtBy {l : List α} {x : α} : x ∈ srtBy lt l ↔ x ∈ l := (srtBy_perm lt l).mem_iff
include irr tr tot
theorem srtBy_pw (l : List α) : (srtBy lt l).Pairwise fun x y => ¬ lt y x := by
  have := List.pairwise_mergeSort (le := fun x y => !decide (lt y x)) (fun a b c h1 h2 => by
    simp only [Bool.not_eq_true', decide_eq_false_iff_not] at h1 h2 ⊢
    intro h3
    rcases tot a b with k | k | k
    · exact h2 (tr h3 k)
    · subst k; exact h2 h3
    · exact h1 k) (fun a b => by
    rcases tot a b with k | k | k
    · have : ¬ lt b a := fun h => irr a (tr k h)
      simp [this]
    · subst k; simp [irr]
    · have : ¬ lt a b := fun h => irr b (tr k h)
      simp [this]) l
  exact this.imp fun h => by simpa using h
/-- of a list without repetition: strictly rising -/
theorem srtBy_strict {l : List α} (n : l.Nodup) : (srtBy lt l).Pairwise lt := by
  have h := srtBy_pw lt irr tr tot l
  have n' : (srtBy lt l).Nodup := (srtBy_perm lt l).nodup_iff.mpr n
  refine (h.and n').imp fun {x y} ⟨h1, h2⟩ => ?_
  rcases tot x y with k | k | k
  · exact k
  · exact (h2 k).elim
  · exact (h1 k).elim
/-- two rising lists of the same members are one -/
theorem rising_eq : ∀ {l m : List α}, l.Pairwise lt → m.Pairwise lt → (∀ x, x ∈ l ↔ x ∈ m) → l = m
  | [], [], _, _, _ => rfl
  | [], y :: m, _, _, h => by have := (h y).mpr List.mem_cons_self; cases this
  | x :: l, [], _, _, h => by have := (h x).mp List.mem_cons_self; cases this
  | x :: l, y :: m, p, q, h => by
    have p' := List.pairwise_cons.mp p
    have q' := List.pairwise_cons.mp q
    have e : x = y := by
      rcases List.mem_cons.mp ((h x).mp List.mem_cons_self) with k | k
      · exact k
      · rcases List.mem_cons.mp ((h y).mpr List.mem_cons_self) with k2 | k2
        · exact k2.symm
        · exact (irr x (tr (p'.1 y k2) (q'.1 x k))).elim
    subst e
    rw [rising_eq p'.2 q'.2 fun z => ?_]
    constructor
    · intro hz
      rcases List.mem_cons.mp ((h z).mp (List.mem_cons_of_mem _ hz)) with k | k
      · subst k; exact (irr z (p'.1 z hz)).elim
      · exact k
    · intro hz
      rcases List.mem_cons.mp ((h z).mpr (List.mem_cons_of_mem _ hz)) with k | k
      · subst k; exact (irr z (q'.1 z hz)).elim
      · exact k
theorem srtBy_self {l : List α} (p : l.Pairwise lt) : srtBy lt l = l :=
  rising_eq lt irr tr tot (srtBy_strict lt irr tr tot (p.imp fun h e => by subst e; exact irr _ h)) p fun _ => mem_srtBy lt
end
abbrev srtP (l : List Pl) : List Pl := srtBy lt l
abbrev srtT (l : List Tri) : List Tri := srtBy ltT l
/-! ### tables -/
def TT (t : Tab) : Trs := fun a b c => look t (a, b) = some c
def KNd (t : Tab) : Prop := (t.map (·.1)).Nodup
theorem look_cons (x : Sd × Pl) (t : Tab) (k : Sd) : look (x :: t) k = if x.1 = k then some x.2 else look t k := by
  unfold look
  rw [List.find?_cons]
  by_cases h : x.1 = k <;> simp [h]
theorem look_none {t : Tab} {k : Sd} : look t k = none ↔ k ∉ t.map (·.1) := by
  induction t with
  | nil => simp [look]
  | cons x t ih =>
    rw [look_cons, List.map_cons, List.mem_cons]
    by_cases h : x.1 = k
    · simp [h]
    · rw [if_neg h, ih]
      have : k ≠ x.1 := fun z => h z.symm
      simp [this]
theorem look_mem {t : Tab} (n : KNd t) {k : Sd} {v : Pl} : look t k = some v ↔ (k, v) ∈ t := by
  induction t with
  | nil => simp [look]
  | cons x t ih =>
    have n' := List.nodup_cons.mp n
    rw [look_cons, List.mem_cons]
    by_cases h : x.1 = k
    · rw [if_pos h]
      constructor
      · intro e
        cases e
        exact .inl (Prod.ext h.symm rfl)
      · rintro (e | e)
        · rw [← e]
        · exact (n'.1 (show x.1 ∈ t.map (·.1) by rw [h]; exact List.mem_map.mpr ⟨_, e, rfl⟩)).elim
    · rw [if_neg h, ih n'.2]
      constructor
      · exact .inr
      · rintro (e | e)
        · rw [← e] at h; exact (h rfl).elim
        · exact e
theorem look_append (t u : Tab) (k : Sd) : look (t ++ u) k = match look t k with | some v => some v | none => look u k := by
  induction t with
  | nil => rfl
  | cons x t ih =>
    rw [List.cons_append, look_cons, look_cons, ih]
    split <;> rfl
theorem look_put (t : Tab) (k : Sd) (v : Pl) (j : Sd) : look (putT t k v) j = if j = k then some v else look t j := by
  unfold putT
  by_cases h : (look t k).isSome
  · rw [if_pos h]
    have m : ∀ t : Tab, look (t.map fun x => if x.1 = k then (x.1, v) else x) j = if j = k then (look t k).map fun _ => v else look t j := by
      intro t
      induction t with
      | nil => simp [look]
      | cons x t ih =>
        rw [List.map_cons, look_cons, look_cons, look_cons, ih]
        by_cases h1 : x.1 = k
        · rw [if_pos h1]
          by_cases h2 : j = k
          · simp [h1, h2]
          · have : ¬ x.1 = j := fun z => h2 (z.symm.trans h1)
            simp [h2, this]
        · rw [if_neg h1]
          by_cases h2 : j = k
          · have : ¬ x.1 = j := fun z => h1 (z.trans h2)
            simp [h1, h2]
          · simp [h1, h2]
    rw [m]
    obtain ⟨u, hu⟩ := Option.isSome_iff_exists.mp h
    rw [hu]
    rfl
  · rw [if_neg h, look_append]
    have e : look t k = none := by simpa using h
    by_cases h2 : j = k
    · rw [h2, e, if_pos rfl, look_cons, if_pos rfl]
    · rw [if_neg h2]
      cases look t j with
      | some _ => rfl
      | none => show look [(k, v)] j = none; rw [look_cons, if_neg (fun z => h2 z.symm)]; rfl
theorem look_drop (t : Tab) (k j : Sd) : look (dropT t k) j = if j = k then none else look t j := by
  unfold dropT
  induction t with
  | nil => simp [look]
  | cons x t ih =>
    rw [List.filter_cons, look_cons]
    by_cases h1 : x.1 = k
    · rw [if_neg (by simp [h1]), ih]
      by_cases h2 : j = k
      · simp [h2]
      · have : ¬ x.1 = j := fun z => h2 (z.symm.trans h1)
        simp [h2, this]
    · rw [if_pos (by simp [h1]), look_cons, ih]
      by_cases h2 : j = k
      · have : ¬ x.1 = j := fun z => h1 (z.trans h2)
        simp [h1, h2]
      · simp [h2]
theorem put_keys (t : Tab) (k : Sd) (v : Pl) : (putT t k v).map (·.1) = if (look t k).isSome then t.map (·.1) else t.map (·.1) ++ [k] := by
  unfold putT
  by_cases h : (look t k).isSome
  · rw [if_pos h, if_pos h, List.map_map]
    refine List.map_congr_left fun x _ => ?_
    show (if x.1 = k then (x.1, v) else x).1 = x.1
    split <;> rfl
  · rw [if_neg h, if_neg h, List.map_append]
    rfl
theorem KNd.put {t : Tab} (n : KNd t) (k : Sd) (v : Pl) : KNd (putT t k v) := by
  unfold KNd
  rw [put_keys]
  split
  · exact n
  · rename_i h
    have e : look t k = none := by simpa using h
    refine List.nodup_append.mpr ⟨n, by simp, fun a ha b hb => ?_⟩
    have : b = k := by simpa using hb
    subst this
    rintro rfl
    exact look_none.mp e ha
theorem KNd.drop {t : Tab} (n : KNd t) (k : Sd) : KNd (dropT t k) := by
  unfold KNd dropT
  exact List.Sublist.nodup (List.Sublist.map _ List.filter_sublist) n
/-- how many there can be -/
theorem nodup_le {α : Type} [DecidableEq α] : ∀ {l m : List α}, l.Nodup → (∀ x ∈ l, x ∈ m) → l.length ≤ m.length
  | [], _, _, _ => Nat.zero_le _
  | x :: l, m, n, h => by
    have n' := List.nodup_cons.mp n
    have hx := h x List.mem_cons_self
    have := nodup_le (l := l) (m := m.erase x) n'.2 fun y hy => by
      have ne : y ≠ x := fun z => n'.1 (z ▸ hy)
      exact (List.mem_erase_of_ne ne).mpr (h y (List.mem_cons_of_mem _ hy))
    rw [List.length_erase_of_mem hx] at this
    have := List.length_pos_of_mem hx
    rw [List.length_cons]
    omega
def pairs (P : List Pl) : List Sd := P.flatMap fun a => P.map fun b => (a, b)
theorem mem_pairs {P : List Pl} {a b : Pl} (ha : a ∈ P) (hb : b ∈ P) : (a, b) ∈ pairs P := List.mem_flatMap.mpr ⟨a, ha, List.mem_map.mpr ⟨b, hb, rfl⟩⟩
theorem pairs_len (P : List Pl) : (pairs P).length = P.length * P.length := by
  unfold pairs
  rw [List.length_flatMap]
  simp [List.map_const', List.sum_replicate_nat]
end NK

namespace NK
/-- the quadrangle of a side cut the other way -/
def cutT (t : Tab) (a b c d : Pl) : Tab := putT (putT (putT (putT (putT (putT (dropT (dropT t (a, b)) (b, a)) (a, d) c) (d, c) a) (c, a) d) (d, b) c) (b, c) d) (c, d) b
theorem TT_cut {P : Pl → Prop} {t : Tab} (C : Cov0 P (TT t)) {a b c d : Pl} (h1 : TT t a b c) (h2 : TT t b a d) (g1 : 0 < tw a d c) (g2 : 0 < tw d b c) (x y z : Pl) :
    TT (cutT t a b c d) x y z ↔ flipT (TT t) a b c d x y z := by
  have n1 := C.ne h1
  have n2 := C.ne h2
  have ncd : c ≠ d := by rintro rfl; rw [tw_abb] at g1; omega
  have F1 : ∀ e, ¬ TT t c d e := fresh C h1 h2 g1 g2
  have F2 : ∀ e, ¬ TT t d c e := fresh C h2 h1 (a := b) (b := a) (c := d) (d := c) (by rw [tw_rot d b c]; exact g2) (by rw [tw_rot2 a d c]; exact g1)
  have U1 : ∀ e, TT t a d e → e = b := fun e h => C.uni h (C.rot h2)
  have U2 : ∀ e, TT t d b e → e = a := fun e h => C.uni h (C.rot (C.rot h2))
  have U3 : ∀ e, TT t b c e → e = a := fun e h => C.uni h (C.rot h1)
  have U4 : ∀ e, TT t c a e → e = b := fun e h => C.uni h (C.rot (C.rot h1))
  have U5 : ∀ e, TT t a b e → e = c := fun e h => C.uni h h1
  have U6 : ∀ e, TT t b a e → e = d := fun e h => C.uni h h2
  have L : TT (cutT t a b c d) x y z ↔ (if x = c ∧ y = d then some b else if x = b ∧ y = c then some d else if x = d ∧ y = b then some c else if x = c ∧ y = a then some d else if x = d ∧ y = c then some a else if x = a ∧ y = d then some c else if x = b ∧ y = a then none else if x = a ∧ y = b then none else look t (x, y)) = some z := by
    unfold TT cutT
    simp only [look_put, look_drop, Prod.mk.injEq]
  rw [L]
  clear L
  have nab := n1.1
  have nbc := n1.2.1
  have nca := n1.2.2
  have nad := n2.2.1
  have ndb := n2.2.2
  by_cases e1 : x = c ∧ y = d
  · obtain ⟨rfl, rfl⟩ := e1
    rw [if_pos ⟨rfl, rfl⟩]
    constructor
    · intro h; cases h; exact .inr (.inr (.inr (.inr ⟨rfl, rfl, rfl⟩)))
    · rintro (⟨h, _⟩ | h | h)
      · exact (F1 z h).elim
      · unfold rot3 at h; grind
      · unfold rot3 at h; grind
  rw [if_neg e1]
  by_cases e2 : x = b ∧ y = c
  · obtain ⟨rfl, rfl⟩ := e2
    rw [if_pos ⟨rfl, rfl⟩]
    constructor
    · intro h; cases h; exact .inr (.inr (.inr (.inl ⟨rfl, rfl, rfl⟩)))
    · rintro (⟨h, k, _⟩ | h | h)
      · have := U3 z h; subst this; exact (k (.inr (.inl ⟨rfl, rfl, rfl⟩))).elim
      · unfold rot3 at h; grind
      · unfold rot3 at h; grind
  rw [if_neg e2]
  by_cases e3 : x = d ∧ y = b
  · obtain ⟨rfl, rfl⟩ := e3
    rw [if_pos ⟨rfl, rfl⟩]
    constructor
    · intro h; cases h; exact .inr (.inr (.inl ⟨rfl, rfl, rfl⟩))
    · rintro (⟨h, _, k⟩ | h | h)
      · have := U2 z h; subst this; exact (k (.inr (.inr ⟨rfl, rfl, rfl⟩))).elim
      · unfold rot3 at h; grind
      · unfold rot3 at h; grind
  rw [if_neg e3]
  by_cases e4 : x = c ∧ y = a
  · obtain ⟨rfl, rfl⟩ := e4
    rw [if_pos ⟨rfl, rfl⟩]
    constructor
    · intro h; cases h; exact .inr (.inl (.inr (.inr ⟨rfl, rfl, rfl⟩)))
    · rintro (⟨h, k, _⟩ | h | h)
      · have := U4 z h; subst this; exact (k (.inr (.inr ⟨rfl, rfl, rfl⟩))).elim
      · unfold rot3 at h; grind
      · unfold rot3 at h; grind
  rw [if_neg e4]
  by_cases e5 : x = d ∧ y = c
  · obtain ⟨rfl, rfl⟩ := e5
    rw [if_pos ⟨rfl, rfl⟩]
    constructor
    · intro h; cases h; exact .inr (.inl (.inr (.inl ⟨rfl, rfl, rfl⟩)))
    · rintro (⟨h, _⟩ | h | h)
      · exact (F2 z h).elim
      · unfold rot3 at h; grind
      · unfold rot3 at h; grind
  rw [if_neg e5]
  by_cases e6 : x = a ∧ y = d
  · obtain ⟨rfl, rfl⟩ := e6
    rw [if_pos ⟨rfl, rfl⟩]
    constructor
    · intro h; cases h; exact .inr (.inl (.inl ⟨rfl, rfl, rfl⟩))
    · rintro (⟨h, _, k⟩ | h | h)
      · have := U1 z h; subst this; exact (k (.inr (.inl ⟨rfl, rfl, rfl⟩))).elim
      · unfold rot3 at h; grind
      · unfold rot3 at h; grind
  rw [if_neg e6]
  by_cases e7 : x = b ∧ y = a
  · obtain ⟨rfl, rfl⟩ := e7
    rw [if_pos ⟨rfl, rfl⟩]
    constructor
    · intro h; cases h
    · rintro (⟨h, _, k⟩ | h | h)
      · have := U6 z h; subst this; exact (k (.inl ⟨rfl, rfl, rfl⟩)).elim
      · unfold rot3 at h; grind
      · unfold rot3 at h; grind
  rw [if_neg e7]
  by_cases e8 : x = a ∧ y = b
  · obtain ⟨rfl, rfl⟩ := e8
    rw [if_pos ⟨rfl, rfl⟩]
    constructor
    · intro h; cases h
    · rintro (⟨h, k, _⟩ | h | h)
      · have := U5 z h; subst this; exact (k (.inl ⟨rfl, rfl, rfl⟩)).elim
      · unfold rot3 at h; grind
      · unfold rot3 at h; grind
  rw [if_neg e8]
  constructor
  · intro h
    refine .inl ⟨h, ?_, ?_⟩
    · rintro (⟨r1, r2, _⟩ | ⟨r1, r2, _⟩ | ⟨r1, r2, _⟩)
      · exact e8 ⟨r1, r2⟩
      · exact e2 ⟨r1, r2⟩
      · exact e4 ⟨r1, r2⟩
    · rintro (⟨r1, r2, _⟩ | ⟨r1, r2, _⟩ | ⟨r1, r2, _⟩)
      · exact e7 ⟨r1, r2⟩
      · exact e6 ⟨r1, r2⟩
      · exact e3 ⟨r1, r2⟩
  · rintro (⟨h, _⟩ | h | h)
    · exact h
    · rcases h with ⟨r1, r2, _⟩ | ⟨r1, r2, _⟩ | ⟨r1, r2, _⟩
      · exact (e6 ⟨r1, r2⟩).elim
      · exact (e5 ⟨r1, r2⟩).elim
      · exact (e4 ⟨r1, r2⟩).elim
    · rcases h with ⟨r1, r2, _⟩ | ⟨r1, r2, _⟩ | ⟨r1, r2, _⟩
      · exact (e3 ⟨r1, r2⟩).elim
      · exact (e2 ⟨r1, r2⟩).elim
      · exact (e1 ⟨r1, r2⟩).elim
theorem KNd.cut {t : Tab} (n : KNd t) (a b c d : Pl) : KNd (cutT t a b c d) := ((((((n.drop _).drop _).put _ _).put _ _).put _ _).put _ _).put _ _ |>.put _ _

/-! ### the loop of turns -/
def hasTwo (t : Tab) (s : Sd) : Prop := lt s.1 s.2 ∧ (look t s).isSome ∧ (look t (s.2, s.1)).isSome
def isWrong (t : Tab) (s : Sd) : Bool := match look t s, look t (s.2, s.1) with
  | some c, some d => decide (lt s.1 s.2) && spoils s.1 s.2 c d
  | _, _ => false
theorem isWrong_iff {t : Tab} {s : Sd} : isWrong t s = true ↔ ∃ c d, lt s.1 s.2 ∧ TT t s.1 s.2 c ∧ TT t s.2 s.1 d ∧ spoils s.1 s.2 c d = true := by
  unfold isWrong TT
  show (match look t (s.1, s.2), look t (s.2, s.1) with | some c, some d => decide (lt s.1 s.2) && spoils s.1 s.2 c d | _, _ => false) = true ↔ _
  cases look t (s.1, s.2) with
  | none => simp
  | some c =>
    cases look t (s.2, s.1) with
    | none => simp
    | some d => simp
def inOrd (a b : Pl) : Sd := if lt a b then (a, b) else (b, a)
theorem inOrd_of {a b : Pl} (h : lt a b) : inOrd a b = (a, b) := if_pos h
theorem inOrd_comm {a b : Pl} (n : a ≠ b) : inOrd a b = inOrd b a := by
  unfold inOrd
  rcases lt_total a b with k | k | k
  · rw [if_pos k, if_neg (lt_asymm k)]
  · exact (n k).elim
  · rw [if_neg (lt_asymm k), if_pos k]
/-- covers, also of places on a line (then without triangles) -/
structure Kov (P : List Pl) (T : Trs) : Prop extends Cov0 (· ∈ P) T where
  cor : ¬ Lin (· ∈ P) → ∀ {p}, p ∈ P → ∃ b c, T p b c
theorem Kov.flip {P : List Pl} {T : Trs} (K : Kov P T) {a b c d : Pl} (h1 : T a b c) (h2 : T b a d) (g1 : 0 < tw a d c) (g2 : 0 < tw d b c) : Kov P (flipT T a b c d) where
  toCov0 := flip_cov K.toCov0 h1 h2 g1 g2
  cor := fun nl => (flip_cor ⟨K.toCov0, K.cor nl⟩ h1 h2 g1 g2).cor
theorem Cov0.congr {P : Pl → Prop} {T U : Trs} (C : Cov0 P T) (h : ∀ x y z, U x y z ↔ T x y z) : Cov0 P U := by
  have : U = T := funext fun x => funext fun y => funext fun z => propext (h x y z)
  rw [this]; exact C
theorem Kov.congr {P : List Pl} {T U : Trs} (C : Kov P T) (h : ∀ x y z, U x y z ↔ T x y z) : Kov P U := by
  have : U = T := funext fun x => funext fun y => funext fun z => propext (h x y z)
  rw [this]; exact C
/-- what holds between two turns of the loop: t the table, W what waits, S the sides turned away -/
structure TurnI (P : List Pl) (H : Pl → Int) (t : Tab) (W S : List Sd) : Prop where
  kov : Kov P (TT t)
  nd : KNd t
  wait : ∀ s, isWrong t s = true → s ∈ W
  sn : S.Nodup
  sp : ∀ s ∈ S, s ∈ pairs P
  low : ∀ s ∈ S, ∃ c d, 0 < tw s.1 d c ∧ 0 < tw d s.2 c ∧ Low H (TT t) (crossP s.1 s.2 c d) (crossH H s.1 s.2 c d)
theorem TurnI.skip {P : List Pl} {H : Pl → Int} {t : Tab} {W S : List Sd} {s : Sd} (I : TurnI P H t (W ++ [s]) S) (h : isWrong t s = false) : TurnI P H t W S := by
  refine ⟨I.kov, I.nd, fun s' h' => ?_, I.sn, I.sp, I.low⟩
  rcases List.mem_append.mp (I.wait s' h') with k | k
  · exact k
  · have : s' = s := by simpa using k
    rw [this, h] at h'
    cases h'
theorem spoils_sq {a b c d : Pl} (p : 0 < tw a b c) (h : spoils a b c d = true) : 0 ≤ bw sq a b c d := by
  unfold spoils at h
  have rg : ring a b c d = sgn (bw sq a b c d) := by unfold ring turn; rw [sgn_pos p, bowl_sq]; omega
  rw [rg] at h
  rcases Int.lt_trichotomy (bw sq a b c d) 0 with z | z | z
  · rw [sgn_neg z] at h
    simp at h
  · omega
  · omega
theorem sq_dist (a b c d : Pl) : bw sq a b c d = height a b * tw a d c - height a c * tw b a d - height a d * tw a b c := by unfold bw sq height tw; grind
theorem height_pos {a b : Pl} (n : a ≠ b) : 0 < height a b := by
  have e : height a b = dot b a a := by unfold height dot; rfl
  have h0 : 0 ≤ height a b := by
    unfold height
    have h1 : 0 ≤ (a.1 - b.1) * (a.1 - b.1) := by rcases Int.le_total 0 (a.1 - b.1) with k | k; exact Int.mul_nonneg k k; exact Int.mul_nonneg_of_nonpos_of_nonpos k k
    have h2 : 0 ≤ (a.2 - b.2) * (a.2 - b.2) := by rcases Int.le_total 0 (a.2 - b.2) with k | k; exact Int.mul_nonneg k k; exact Int.mul_nonneg_of_nonpos_of_nonpos k k
    omega
  rcases Int.lt_or_eq_of_le h0 with k | k
  · exact k
  · exact (n (dot_self (by rw [← e]; exact k.symm)).symm).elim
/-- a wrong side can be turned over -/
theorem wrong_turns {P : List Pl} {H : Pl → Int} {T : Trs} (hH : High P H) (C : Cov0 (· ∈ P) T) {a b c d : Pl} (h1 : T a b c) (h2 : T b a d) (sp : spoils a b c d = true) : 0 < bw H a b c d ∧ 0 < tw a d c ∧ 0 < tw d b c := by
  have pa := C.pos h1
  have pd := C.pos h2
  have n1 := C.ne h1
  have n2 := C.ne h2
  have ncd : d ≠ c := by
    rintro rfl
    have := tw_swap a b d
    omega
  have wr := hH.yes (C.inP h1) (C.inP2 h1) (C.inP3 h1) (C.inP3 h2) pa n2.2.1.symm n2.2.2 ncd sp
  refine ⟨wr, ?_⟩
  have key : ∀ {a b c d : Pl}, T a b c → T b a d → 0 ≤ bw sq a b c d → 0 < tw a d c := by
    intro a b c d h1 h2 q
    have pa := C.pos h1
    have pd := C.pos h2
    have n1 := C.ne h1
    have n2 := C.ne h2
    rcases Int.lt_or_le 0 (tw a d c) with k | k
    · exact k
    · exfalso
      rw [sq_dist] at q
      have m1 := Int.mul_nonneg (Int.le_of_lt (height_pos n1.1)) (show 0 ≤ - tw a d c by omega)
      have m2 := Int.mul_nonneg (Int.le_of_lt (height_pos n1.2.2.symm)) (Int.le_of_lt pd)
      have m3 := Int.mul_pos (height_pos n2.2.1) pa
      have e : height a b * - tw a d c = - (height a b * tw a d c) := by grind
      omega
  have q := spoils_sq pa sp
  exact ⟨key h1 h2 q, by
    have := key h2 h1 (by rw [bw_back]; exact q)
    rw [tw_rot d b c] at this
    exact this⟩

theorem spoils_no {P : List Pl} {H : Pl → Int} (hH : High P H) {a b c d : Pl} (ha : a ∈ P) (hb : b ∈ P) (hc : c ∈ P) (hd : d ∈ P) (p : 0 < tw a b c) (na : d ≠ a) (nb : d ≠ b) (nc : d ≠ c) (h : ¬ 0 < bw H a b c d) : spoils a b c d = false := by
  cases e : spoils a b c d with
  | false => rfl
  | true => exact (h (hH.yes ha hb hc hd p na nb nc e)).elim
/-- one turn -/
theorem TurnI.turn {P : List Pl} {H : Pl → Int} (hH : High P H) {t : Tab} {W S : List Sd} {a b c d : Pl} (I : TurnI P H t (W ++ [(a, b)]) S) (l : lt a b) (h1 : TT t a b c) (h2 : TT t b a d) (sp : spoils a b c d = true) :
    TurnI P H (cutT t a b c d) (W ++ [inOrd a c, inOrd c b, inOrd b d, inOrd d a]) (S ++ [(a, b)]) := by
  have C := I.kov.toCov0
  obtain ⟨wr, g1, g2⟩ := wrong_turns hH C h1 h2 sp
  have pa := C.pos h1
  have pd := C.pos h2
  have n1 := C.ne h1
  have n2 := C.ne h2
  have E := TT_cut C h1 h2 g1 g2
  have K := (I.kov.flip h1 h2 g1 g2).congr E
  have e : TT (cutT t a b c d) = flipT (TT t) a b c d := funext fun x => funext fun y => funext fun z => propext (E x y z)
  refine ⟨K, I.nd.cut a b c d, ?_, ?_, ?_, ?_⟩
  · -- what is wrong now waits
    intro s hs
    obtain ⟨u, v, ls, k1, k2, k3⟩ := isWrong_iff.mp hs
    have k1' := (E _ _ _).mp k1
    have k2' := (E _ _ _).mp k2
    have pu := K.pos k1
    have nu := K.ne k1
    have nv := K.ne k2
    have nuv : v ≠ u := by
      rintro rfl
      have := K.pos k2
      have := tw_swap s.1 s.2 v
      omega
    rw [List.mem_append]
    -- an old triangle on both hands: it waited before
    have old : TT t s.1 s.2 u → TT t s.2 s.1 v → s ∈ W ∨ s ∈ [inOrd a c, inOrd c b, inOrd b d, inOrd d a] := by
      intro o1 o2
      rcases List.mem_append.mp (I.wait s (isWrong_iff.mpr ⟨u, v, ls, o1, o2, k3⟩)) with k | k
      · exact .inl k
      · exfalso
        have es : s = (a, b) := by simpa using k
        rw [es] at k1
        have := (E a b u).mp k1
        rcases this with ⟨h, r, _⟩ | r | r
        · have := C.uni h h1; subst this; exact r (rot3.refl _ _ _)
        · unfold rot3 at r; grind
        · unfold rot3 at r; grind
    -- the sides of the quadrangle
    have sd : ∀ {x y : Pl}, lt s.1 s.2 → ((s.1 = x ∧ s.2 = y) ∨ (s.1 = y ∧ s.2 = x)) → s = inOrd x y := by
      intro x y l k
      rcases k with ⟨e1, e2⟩ | ⟨e1, e2⟩
      · rw [← e1, ← e2, inOrd_of l]
      · have n : x ≠ y := by rw [← e1, ← e2]; exact (lt_ne l).symm
        rw [inOrd_comm n, ← e1, ← e2, inOrd_of l]
    have quad : (s.1 = a ∧ s.2 = c) ∨ (s.1 = c ∧ s.2 = a) ∨ (s.1 = c ∧ s.2 = b) ∨ (s.1 = b ∧ s.2 = c) ∨ (s.1 = b ∧ s.2 = d) ∨ (s.1 = d ∧ s.2 = b) ∨ (s.1 = d ∧ s.2 = a) ∨ (s.1 = a ∧ s.2 = d) → s ∈ [inOrd a c, inOrd c b, inOrd b d, inOrd d a] := by
      intro q
      simp only [List.mem_cons, List.not_mem_nil, or_false]
      rcases q with q | q | q | q | q | q | q | q
      · exact .inl (sd ls (.inl q))
      · exact .inl (sd ls (.inr q))
      · exact .inr (.inl (sd ls (.inl q)))
      · exact .inr (.inl (sd ls (.inr q)))
      · exact .inr (.inr (.inl (sd ls (.inl q))))
      · exact .inr (.inr (.inl (sd ls (.inr q))))
      · exact .inr (.inr (.inr (sd ls (.inl q))))
      · exact .inr (.inr (.inr (sd ls (.inr q))))
    -- the side that came is not wrong
    have came : (s.1 = c ∧ s.2 = d) ∨ (s.1 = d ∧ s.2 = c) → False := by
      intro q
      have tcd : TT (cutT t a b c d) c d b := (E _ _ _).mpr (.inr (.inr (.inr (.inr ⟨rfl, rfl, rfl⟩))))
      have tdc : TT (cutT t a b c d) d c a := (E _ _ _).mpr (.inr (.inl (.inr (.inl ⟨rfl, rfl, rfl⟩))))
      have inA := C.inP h1
      have inB := C.inP2 h1
      have inC := C.inP3 h1
      have inD := C.inP3 h2
      have bo : bw H c d b a = - bw H a b c d := by unfold bw tw; grind
      have bo' : bw H d c a b = - bw H a b c d := by unfold bw tw; grind
      rcases q with ⟨q1, q2⟩ | ⟨q1, q2⟩
      · rw [q1, q2] at k1 k2 k3
        have := K.uni k1 tcd
        have := K.uni k2 tdc
        subst u v
        rw [spoils_no hH inC inD inB inA (K.pos tcd) n1.2.2.symm n2.2.1 n1.1 (by omega)] at k3
        cases k3
      · rw [q1, q2] at k1 k2 k3
        have := K.uni k1 tdc
        have := K.uni k2 tcd
        subst u v
        rw [spoils_no hH inD inC inA inB (K.pos tdc) n2.2.2.symm n1.2.1 n1.1.symm (by omega)] at k3
        cases k3
    -- which triangles the side has
    have six : ∀ {x y z : Pl}, rot3 a d c x y z ∨ rot3 d b c x y z → (x = a ∧ y = d) ∨ (x = d ∧ y = c) ∨ (x = c ∧ y = a) ∨ (x = d ∧ y = b) ∨ (x = b ∧ y = c) ∨ (x = c ∧ y = d) := by
      intro x y z r
      rcases r with (⟨r1, r2, _⟩ | ⟨r1, r2, _⟩ | ⟨r1, r2, _⟩) | (⟨r1, r2, _⟩ | ⟨r1, r2, _⟩ | ⟨r1, r2, _⟩)
      · exact .inl ⟨r1, r2⟩
      · exact .inr (.inl ⟨r1, r2⟩)
      · exact .inr (.inr (.inl ⟨r1, r2⟩))
      · exact .inr (.inr (.inr (.inl ⟨r1, r2⟩)))
      · exact .inr (.inr (.inr (.inr (.inl ⟨r1, r2⟩))))
      · exact .inr (.inr (.inr (.inr (.inr ⟨r1, r2⟩))))
    rcases k1' with ⟨o1, _⟩ | r1
    · rcases k2' with ⟨o2, _⟩ | r2
      · exact old o1 o2
      · rcases six r2 with q | q | q | q | q | q
        · exact .inr (quad (.inr (.inr (.inr (.inr (.inr (.inr (.inl ⟨q.2, q.1⟩))))))))
        · exact (came (.inl ⟨q.2, q.1⟩)).elim
        · exact .inr (quad (.inl ⟨q.2, q.1⟩))
        · exact .inr (quad (.inr (.inr (.inr (.inr (.inl ⟨q.2, q.1⟩))))))
        · exact .inr (quad (.inr (.inr (.inl ⟨q.2, q.1⟩))))
        · exact (came (.inr ⟨q.2, q.1⟩)).elim
    · rcases six r1 with q | q | q | q | q | q
      · exact .inr (quad (.inr (.inr (.inr (.inr (.inr (.inr (.inr q))))))))
      · exact (came (.inr q)).elim
      · exact .inr (quad (.inr (.inl q)))
      · exact .inr (quad (.inr (.inr (.inr (.inr (.inr (.inl q)))))))
      · exact .inr (quad (.inr (.inr (.inr (.inl q)))))
      · exact (came (.inl q)).elim
  · -- it was not turned away before
    refine List.nodup_append.mpr ⟨I.sn, by simp, ?_⟩
    intro x hx y hy exy
    have : y = (a, b) := by simpa using hy
    subst this
    subst exy
    obtain ⟨c', d', q1, q2, L⟩ := I.low _ hx
    exact low_side C q1 q2 L c h1
  · intro s hs
    rcases List.mem_append.mp hs with k | k
    · exact I.sp s k
    · have : s = (a, b) := by simpa using k
      subst this
      exact mem_pairs (C.inP h1) (C.inP2 h1)
  · intro s hs
    rw [e]
    rcases List.mem_append.mp hs with k | k
    · obtain ⟨c', d', q1, q2, L⟩ := I.low s k
      exact ⟨c', d', q1, q2, low_flip C h1 h2 g1 g2 wr L⟩
    · have : s = (a, b) := by simpa using k
      subst this
      exact ⟨c, d, g1, g2, low_new pa pd g1 g2 wr⟩
theorem TurnI.few {P : List Pl} {H : Pl → Int} {t : Tab} {W S : List Sd} (I : TurnI P H t W S) : S.length ≤ P.length * P.length := by
  rw [← pairs_len]
  exact nodup_le I.sn I.sp
theorem tab_few {P : List Pl} {t : Tab} (C : Cov0 (· ∈ P) (TT t)) (n : KNd t) : t.length ≤ P.length * P.length := by
  have := nodup_le (l := t.map fun x : Sd × Pl => x.1) (m := pairs P) n fun s hs => by
    obtain ⟨⟨⟨a, b⟩, c⟩, hx, rfl⟩ := List.mem_map.mp hs
    have h : TT t a b c := (look_mem n).mpr hx
    exact mem_pairs (C.inP h) (C.inP2 h)
  rw [List.length_map, pairs_len] at this
  exact this
end NK

namespace NK
/-! ### lists of triangles -/
def InL (L : List Tri) : Trs := fun a b c => (a, b, c) ∈ L ∨ (b, c, a) ∈ L ∨ (c, a, b) ∈ L
theorem InL.rot {L : List Tri} {a b c : Pl} (h : InL L a b c) : InL L b c a := by
  rcases h with h | h | h
  · exact .inr (.inr h)
  · exact .inl h
  · exact .inr (.inl h)
def leastF (t : Tri) : Prop := lt t.1 t.2.1 ∧ lt t.1 t.2.2
/-- a cover as the program has it: sorted, each triangle from its least corner on -/
structure CovL (P : List Pl) (L : List Tri) : Prop where
  kov : Kov P (InL L)
  up : L.Pairwise ltT
  first : ∀ t ∈ L, leastF t
structure NetL (P : List Pl) (N : List Tri) : Prop extends CovL P N where
  loc : ∀ {a b c d}, InL N a b c → InL N b a d → spoils a b c d = false
theorem finL (L : List Tri) : FinT (InL L) := by
  refine ⟨L.flatMap fun t => [t, (t.2.1, t.2.2, t.1), (t.2.2, t.1, t.2.1)], fun a b c h => ?_⟩
  rw [List.mem_flatMap]
  rcases h with h | h | h
  · exact ⟨_, h, by simp⟩
  · exact ⟨_, h, by simp⟩
  · exact ⟨_, h, by simp⟩
theorem CovL.mem {P : List Pl} {L : List Tri} (C : CovL P L) {a b c : Pl} (h : InL L a b c) (l1 : lt a b) (l2 : lt a c) : (a, b, c) ∈ L := by
  rcases h with h | h | h
  · exact h
  · exact (lt_asymm l1 (C.first _ h).2).elim
  · exact (lt_asymm l2 (C.first _ h).1).elim
theorem NetL.locH {P : List Pl} {H : Pl → Int} (hH : High P H) {N : List Tri} (C : NetL P N) : Loc H (InL N) := by
  intro a b c d h1 h2
  have n1 := C.kov.ne h1
  have n2 := C.kov.ne h2
  have pa := C.kov.pos h1
  have pd := C.kov.pos h2
  refine hH.no (C.kov.inP h1) (C.kov.inP2 h1) (C.kov.inP3 h1) (C.kov.inP3 h2) pa n2.2.1.symm n2.2.2 ?_ (C.loc h1 h2)
  rintro rfl
  have := tw_swap a b d
  omega
theorem NetL.glob {P : List Pl} {H : Pl → Int} (hH : High P H) {N : List Tri} (C : NetL P N) : Glob H (· ∈ P) (InL N) := local_global C.kov.toCov0 (finL N) (C.locH hH)
theorem lin_none {P : List Pl} {T : Trs} (K : Kov P T) (L : Lin (· ∈ P)) (a b c : Pl) : ¬ T a b c := fun h => by
  have := K.pos h
  rw [L a b c (K.inP h) (K.inP2 h) (K.inP3 h)] at this
  omega
theorem CovL.lin {P : List Pl} {L : List Tri} (C : CovL P L) (h : Lin (· ∈ P)) : L = [] := by
  cases L with
  | nil => rfl
  | cons t L => exact (lin_none C.kov h t.1 t.2.1 t.2.2 (.inl List.mem_cons_self)).elim
/-- there is one net -/
theorem NetL.one {P : List Pl} {N M : List Tri} (C : NetL P N) (D : NetL P M) : N = M := by
  by_cases hl : Lin (· ∈ P)
  · rw [C.lin hl, D.lin hl]
  obtain ⟨H, hH⟩ := exists_high P
  have some : ∀ {U : List Tri}, CovL P U → ∃ a b c, InL U a b c := by
    intro U K
    have : ∃ p, p ∈ P := by
      by_cases h : ∃ p, p ∈ P
      · exact h
      · exact (hl fun a b c ha _ _ => (h ⟨a, ha⟩).elim).elim
    obtain ⟨p, hp⟩ := this
    obtain ⟨b, c, h⟩ := K.kov.cor hl hp
    exact ⟨p, b, c, h⟩
  refine rising_eq ltT ltT_irrefl ltT_trans ltT_total C.up D.up fun t => ?_
  obtain ⟨a, b, c⟩ := t
  constructor
  · intro h
    have l := C.first _ h
    exact D.mem (unique_sub C.kov.toCov0 (finL N) (C.locH hH) D.kov.toCov0 (finL M) (D.locH hH) (some D.toCovL) (.inl h)) l.1 l.2
  · intro h
    have l := D.first _ h
    exact C.mem (unique_sub D.kov.toCov0 (finL M) (D.locH hH) C.kov.toCov0 (finL N) (C.locH hH) (some C.toCovL) (.inl h)) l.1 l.2
/-! ### the table of a cover, the cover of a table -/
def far3 (t : Tab) (x : Tri) : Tab := putT (putT (putT t (x.1, x.2.1) x.2.2) (x.2.1, x.2.2) x.1) (x.2.2, x.1) x.2.1
def farP (L : List Tri) : Tab := L.foldl far3 []
theorem far_nd : ∀ (L : List Tri) (t : Tab), KNd t → KNd (L.foldl far3 t)
  | [], t, n => n
  | x :: L, t, n => far_nd L (far3 t x) (((n.put _ _).put _ _).put _ _)
theorem look_far (x : Tri) (t : Tab) (u v : Pl) : look (far3 t x) (u, v) = if u = x.2.2 ∧ v = x.1 then some x.2.1 else if u = x.2.1 ∧ v = x.2.2 then some x.1 else if u = x.1 ∧ v = x.2.1 then some x.2.2 else look t (u, v) := by
  unfold far3
  simp only [look_put, Prod.mk.injEq]
theorem far_look : ∀ (L M : List Tri) (t : Tab), (∀ a b c d, InL (M ++ L) a b c → InL (M ++ L) a b d → c = d) → (∀ u v w, look t (u, v) = some w ↔ InL M u v w) → ∀ u v w, look (L.foldl far3 t) (u, v) = some w ↔ InL (M ++ L) u v w
  | [], M, t, _, h, u, v, w => by simpa using h u v w
  | x :: L, M, t, uni, h, u, v, w => by
    have ih := far_look L (M ++ [x]) (far3 t x) (by simpa using uni) (fun u v w => by
      have sub : ∀ {a b c}, InL (M ++ [x]) a b c → InL (M ++ x :: L) a b c := by
        intro a b c h
        unfold InL at h ⊢
        simp only [List.mem_append, List.mem_cons, List.not_mem_nil, or_false] at h ⊢
        rcases h with (h | h) | (h | h) | (h | h)
        · exact .inl (.inl h)
        · exact .inl (.inr (.inl h))
        · exact .inr (.inl (.inl h))
        · exact .inr (.inl (.inr (.inl h)))
        · exact .inr (.inr (.inl h))
        · exact .inr (.inr (.inr (.inl h)))
      have one : ∀ {a b c d}, InL (M ++ [x]) a b c → InL (M ++ [x]) a b d → c = d := fun h1 h2 => uni _ _ _ _ (sub h1) (sub h2)
      have last : InL (M ++ [x]) x.1 x.2.1 x.2.2 := .inl (by simp)
      have up : ∀ {a b c}, InL M a b c → InL (M ++ [x]) a b c := by
        intro a b c h
        unfold InL at h ⊢
        simp only [List.mem_append]
        rcases h with h | h | h
        · exact .inl (.inl h)
        · exact .inr (.inl (.inl h))
        · exact .inr (.inr (.inl h))
      rw [look_far]
      by_cases k1 : u = x.2.2 ∧ v = x.1
      · rw [if_pos k1]
        obtain ⟨rfl, rfl⟩ := k1
        constructor
        · intro e; cases e; exact last.rot.rot
        · intro e; rw [one e last.rot.rot]
      rw [if_neg k1]
      by_cases k2 : u = x.2.1 ∧ v = x.2.2
      · rw [if_pos k2]
        obtain ⟨rfl, rfl⟩ := k2
        constructor
        · intro e; cases e; exact last.rot
        · intro e; rw [one e last.rot]
      rw [if_neg k2]
      by_cases k3 : u = x.1 ∧ v = x.2.1
      · rw [if_pos k3]
        obtain ⟨rfl, rfl⟩ := k3
        constructor
        · intro e; cases e; exact last
        · intro e; rw [one e last]
      rw [if_neg k3, h]
      constructor
      · exact up
      · intro e
        unfold InL at e ⊢
        simp only [List.mem_append, List.mem_cons, List.not_mem_nil, or_false] at e
        rcases e with (e | e) | (e | e) | (e | e)
        · exact .inl e
        · exact (k3 ⟨congrArg (·.1) e, congrArg (·.2.1) e⟩).elim
        · exact .inr (.inl e)
        · exact (k1 ⟨congrArg (·.2.2) e, congrArg (·.1) e⟩).elim
        · exact .inr (.inr e)
        · exact (k2 ⟨congrArg (·.2.1) e, congrArg (·.2.2) e⟩).elim) u v w
    rw [List.foldl_cons, ih]
    rw [List.append_assoc]
    rfl
theorem TT_far {P : List Pl} {L : List Tri} (C : CovL P L) (u v w : Pl) : TT (farP L) u v w ↔ InL L u v w := by
  have := far_look L [] [] (fun a b c d h1 h2 => C.kov.uni h1 h2) (fun u v w => by simp [look, InL]) u v w
  rw [List.nil_append] at this
  exact this
def triOf (x : Sd × Pl) : Option Tri := if lt x.1.1 x.1.2 ∧ lt x.1.1 x.2 then some (x.1.1, x.1.2, x.2) else none
def coverP (t : Tab) : List Tri := srtT (t.filterMap triOf)
theorem mem_cover {t : Tab} (n : KNd t) {a b c : Pl} : (a, b, c) ∈ coverP t ↔ TT t a b c ∧ lt a b ∧ lt a c := by
  unfold coverP
  rw [mem_srtBy, List.mem_filterMap]
  constructor
  · rintro ⟨x, hx, e⟩
    unfold triOf at e
    split at e
    · rename_i h
      have e' := Option.some.inj e
      have e1 : x.1.1 = a := congrArg (·.1) e'
      have e2 : x.1.2 = b := congrArg (·.2.1) e'
      have e3 : x.2 = c := congrArg (·.2.2) e'
      subst e1 e2 e3
      exact ⟨(look_mem n).mpr hx, h⟩
    · cases e
  · rintro ⟨h, l⟩
    exact ⟨((a, b), c), (look_mem n).mp h, if_pos l⟩
theorem filterMap_nd {α β : Type} {f : α → Option β} (inj : ∀ x y z, f x = some z → f y = some z → x = y) : ∀ {l : List α}, l.Nodup → (l.filterMap f).Nodup
  | [], _ => by simp
  | x :: l, n => by
    have n' := List.nodup_cons.mp n
    rw [List.filterMap_cons]
    cases e : f x with
    | none => exact filterMap_nd inj n'.2
    | some y =>
      refine List.nodup_cons.mpr ⟨fun h => ?_, filterMap_nd inj n'.2⟩
      obtain ⟨z, hz, ez⟩ := List.mem_filterMap.mp h
      exact n'.1 (inj x z y e ez ▸ hz)
theorem nd_of_map {α β : Type} {f : α → β} : ∀ {l : List α}, (l.map f).Nodup → l.Nodup
  | [], _ => List.nodup_nil
  | x :: l, h => by
    have h' := List.nodup_cons.mp h
    exact List.nodup_cons.mpr ⟨fun k => h'.1 (List.mem_map.mpr ⟨x, k, rfl⟩), nd_of_map h'.2⟩
theorem cover_up {t : Tab} (n : KNd t) : (coverP t).Pairwise ltT := by
  refine srtBy_strict ltT ltT_irrefl ltT_trans ltT_total (filterMap_nd (fun x y z h1 h2 => ?_) (nd_of_map n))
  unfold triOf at h1 h2
  split at h1 <;> split at h2
  · have e1 := Option.some.inj h1
    have e2 := Option.some.inj h2
    have e := e1.trans e2.symm
    exact Prod.ext (Prod.ext (congrArg (·.1) e) (congrArg (·.2.1) e)) (congrArg (·.2.2) e)
  · cases h2
  · cases h1
  · cases h1
theorem InL_cover {P : List Pl} {t : Tab} (K : Kov P (TT t)) (n : KNd t) (a b c : Pl) : InL (coverP t) a b c ↔ TT t a b c := by
  constructor
  · rintro (h | h | h)
    · exact ((mem_cover n).mp h).1
    · exact K.rot (K.rot ((mem_cover n).mp h).1)
    · exact K.rot ((mem_cover n).mp h).1
  · intro h
    have ne := K.ne h
    rcases least_cases ne.1 ne.2.1 ne.2.2 with ⟨l1, l2⟩ | ⟨l1, l2⟩ | ⟨l1, l2⟩
    · exact .inl ((mem_cover n).mpr ⟨h, l1, l2⟩)
    · exact .inr (.inl ((mem_cover n).mpr ⟨K.rot h, l2, l1⟩))
    · exact .inr (.inr ((mem_cover n).mpr ⟨K.rot (K.rot h), l1, l2⟩))
theorem cover_covL {P : List Pl} {t : Tab} (K : Kov P (TT t)) (n : KNd t) : CovL P (coverP t) :=
  ⟨K.congr (InL_cover K n), cover_up n, fun x hx => ((mem_cover n).mp hx).2⟩
/-- nothing waits: it is the net -/
theorem TurnI.net {P : List Pl} {H : Pl → Int} (hH : High P H) {t : Tab} {S : List Sd} (I : TurnI P H t [] S) : NetL P (coverP t) := by
  have K := I.kov
  refine { toCovL := cover_covL K I.nd, loc := ?_ }
  intro a b c d h1 h2
  have h1 := (InL_cover K I.nd a b c).mp h1
  have h2 := (InL_cover K I.nd b a d).mp h2
  have n1 := K.ne h1
  have n2 := K.ne h2
  have pa := K.pos h1
  have pd := K.pos h2
  have ncd : d ≠ c := by
    rintro rfl
    have := tw_swap a b d
    omega
  have nw : ∀ {a b c d : Pl}, lt a b → TT t a b c → TT t b a d → spoils a b c d = false := by
    intro a b c d l h1 h2
    cases e : spoils a b c d with
    | false => rfl
    | true => have := I.wait (a, b) (isWrong_iff.mpr ⟨c, d, l, h1, h2, e⟩); cases this
  rcases lt_total a b with l | l | l
  · exact nw l h1 h2
  · exact (n1.1 l).elim
  · have q := nw l h2 h1
    have := hH.no (K.inP h2) (K.inP2 h2) (K.inP3 h2) (K.inP3 h1) pd n1.2.1.symm n1.2.2 ncd.symm q
    rw [bw_back] at this
    exact spoils_no hH (K.inP h1) (K.inP2 h1) (K.inP3 h1) (K.inP3 h2) pa n2.2.1.symm n2.2.2 ncd (by omega)
/-- the loop's start -/
theorem TurnI.start {P : List Pl} {H : Pl → Int} {L : List Tri} (C : CovL P L) {W : List Sd} (h : ∀ s, isWrong (farP L) s = true → s ∈ W) : TurnI P H (farP L) W [] :=
  ⟨C.kov.congr (TT_far C), far_nd L [] List.nodup_nil, h, List.nodup_nil, fun s hs => (by cases hs), fun s hs => (by cases hs)⟩
end NK

namespace NK
/-! ### the law's own look at a net -/
def lawNum (a b c d : Pl) : Int :=
  ((a.1 - d.1) * (a.1 - d.1) + (a.2 - d.2) * (a.2 - d.2)) * ((b.1 - d.1) * (c.2 - d.2) - (b.2 - d.2) * (c.1 - d.1))
    - ((b.1 - d.1) * (b.1 - d.1) + (b.2 - d.2) * (b.2 - d.2)) * ((a.1 - d.1) * (c.2 - d.2) - (a.2 - d.2) * (c.1 - d.1))
    + ((c.1 - d.1) * (c.1 - d.1) + (c.2 - d.2) * (c.2 - d.2)) * ((a.1 - d.1) * (b.2 - d.2) - (a.2 - d.2) * (b.1 - d.1))
theorem lawNum_eq (a b c d : Pl) : lawNum a b c d = bw sq a b c d := by unfold lawNum bw sq tw; grind
def lawSp (t : Tri) (d : Pl) : Prop := 0 < lawNum t.1 t.2.1 t.2.2 d ∨ (lawNum t.1 t.2.1 t.2.2 d = 0 ∧ (lt d t.1 ∨ tw t.2.1 t.2.2 d < 0))
theorem NetL.clean {P : List Pl} {N : List Tri} (C : NetL P N) {t : Tri} (ht : t ∈ N) {d : Pl} (hd : d ∈ P) : ¬ lawSp t d := by
  obtain ⟨a, b, c⟩ := t
  obtain ⟨H, hH⟩ := exists_high P
  have h : InL N a b c := .inl ht
  have G : Glob H (· ∈ P) (InL N) := C.glob hH
  have p := C.kov.pos h
  have n := C.kov.ne h
  have l : lt a b ∧ lt a c := C.first _ ht
  unfold lawSp
  simp only
  rw [lawNum_eq]
  by_cases e1 : d = a
  · subst e1
    rw [bw_a, tw_rot d b c]
    have := lt_irrefl d
    rintro (k | ⟨_, k | k⟩)
    · omega
    · exact this k
    · omega
  by_cases e2 : d = b
  · subst e2
    rw [bw_b, tw_aba]
    rintro (k | ⟨_, k | k⟩)
    · omega
    · exact lt_asymm l.1 k
    · omega
  by_cases e3 : d = c
  · subst e3
    rw [bw_c, tw_abb]
    rintro (k | ⟨_, k | k⟩)
    · omega
    · exact lt_asymm l.2 k
    · omega
  have g := G h hd e1 e2 e3
  have s : spoils a b c d = false := spoils_no hH (C.kov.inP h) (C.kov.inP2 h) (C.kov.inP3 h) hd p e1 e2 e3 (by omega)
  unfold spoils at s
  have rg : ring a b c d = sgn (bw sq a b c d) := by unfold ring turn; rw [sgn_pos p, bowl_sq]; omega
  rw [rg] at s
  rcases Int.lt_trichotomy (bw sq a b c d) 0 with z | z | z
  · rintro (k | ⟨k, _⟩) <;> omega
  · rw [sgn_zero z, if_neg (by simp [e1, e2, e3])] at s
    have m : mn (mn a b) c = a := by unfold mn; rw [if_neg (lt_asymm l.1), if_neg (lt_asymm l.2)]
    unfold spoilsRest at s
    rw [m] at s
    by_cases ld : lt d a
    · rw [if_pos ld] at s; cases s
    · rw [if_neg ld] at s
      have f : [a, b, c].filter (fun p => decide (p ≠ a)) = [b, c] := by simp [n.1.symm, n.2.2]
      rw [f] at s
      simp only [decide_eq_false_iff_not] at s
      unfold turn at s
      rw [sgn_mul_neg] at s
      have pb : 0 < tw b c a := by rw [tw_rot a b c]; exact p
      rintro (k | ⟨_, k | k⟩)
      · omega
      · exact ld k
      · exact s (.inl ⟨pb, k⟩)
  · rw [sgn_pos z] at s
    simp at s
/-! ### triangles from their least corner on -/
def laidT (a b c : Pl) : Tri := if lt b a ∧ lt b c then (b, c, a) else if lt c a ∧ lt c b then (c, a, b) else (a, b, c)
theorem laidT_spec {a b c : Pl} (h1 : a ≠ b) (h2 : b ≠ c) (h3 : c ≠ a) : rot3 a b c (laidT a b c).1 (laidT a b c).2.1 (laidT a b c).2.2 ∧ leastF (laidT a b c) := by
  unfold laidT
  by_cases k1 : lt b a ∧ lt b c
  · rw [if_pos k1]; exact ⟨.inr (.inl ⟨rfl, rfl, rfl⟩), k1.2, k1.1⟩
  · rw [if_neg k1]
    by_cases k2 : lt c a ∧ lt c b
    · rw [if_pos k2]; exact ⟨.inr (.inr ⟨rfl, rfl, rfl⟩), k2.1, k2.2⟩
    · rw [if_neg k2]
      refine ⟨.inl ⟨rfl, rfl, rfl⟩, ?_⟩
      rcases least_cases h1 h2 h3 with l | l | l
      · exact l
      · exact (k1 l).elim
      · exact (k2 l).elim
theorem least_rot {s t : Tri} (h : leastF s) (k : leastF t) (r : rot3 s.1 s.2.1 s.2.2 t.1 t.2.1 t.2.2) : s = t := by
  obtain ⟨a, b, c⟩ := s
  obtain ⟨x, y, z⟩ := t
  rcases r with ⟨e1, e2, e3⟩ | ⟨e1, e2, e3⟩ | ⟨e1, e2, e3⟩ <;> simp only at e1 e2 e3 <;> subst e1 e2 e3
  · rfl
  · exact (lt_asymm h.1 k.2).elim
  · exact (lt_asymm h.2 k.1).elim
theorem InL_rot3 {L : List Tri} {a b c x y z : Pl} (h : InL L a b c) (r : rot3 a b c x y z) : InL L x y z := by
  rcases r with ⟨rfl, rfl, rfl⟩ | ⟨rfl, rfl, rfl⟩ | ⟨rfl, rfl, rfl⟩
  · exact h
  · exact h.rot
  · exact h.rot.rot
/-- InL by one member -/
theorem InL_iff {L : List Tri} {a b c : Pl} : InL L a b c ↔ ∃ t ∈ L, rot3 t.1 t.2.1 t.2.2 a b c := by
  constructor
  · rintro (h | h | h)
    · exact ⟨_, h, .inl ⟨rfl, rfl, rfl⟩⟩
    · exact ⟨_, h, .inr (.inr ⟨rfl, rfl, rfl⟩)⟩
    · exact ⟨_, h, .inr (.inl ⟨rfl, rfl, rfl⟩)⟩
  · rintro ⟨t, ht, r⟩
    exact InL_rot3 (.inl ht) r
/-! ### the law's triangle -/
def tri3 (a b c : Pl) : Tri := match srtP [a, b, c] with
  | [x, y, z] => if 0 < tw x y z then (x, y, z) else (x, z, y)
  | _ => (a, b, c)
theorem srt3 {a b c x y z : Pl} (h1 : lt x y) (h2 : lt y z) (p : ∀ w, w ∈ [a, b, c] ↔ w ∈ [x, y, z]) (n : [a, b, c].Nodup) : srtP [a, b, c] = [x, y, z] :=
  rising_eq lt lt_irrefl lt_trans lt_total (srtBy_strict lt lt_irrefl lt_trans lt_total n) (by simp [h1, h2, lt_trans h1 h2]) fun w => by rw [mem_srtBy]; exact p w
theorem m3_1 {α} {a b c w : α} : w ∈ [a, b, c] ↔ w ∈ [a, c, b] := by simp only [List.mem_cons, List.not_mem_nil, or_false]; exact ⟨fun h => h.elim .inl fun h => .inr h.symm, fun h => h.elim .inl fun h => .inr h.symm⟩
theorem m3_2 {α} {a b c w : α} : w ∈ [a, b, c] ↔ w ∈ [b, c, a] := by simp only [List.mem_cons, List.not_mem_nil, or_false]; exact ⟨fun h => h.elim (fun h => .inr (.inr h)) fun h => h.elim .inl fun h => .inr (.inl h), fun h => h.elim (fun h => .inr (.inl h)) fun h => h.elim (fun h => .inr (.inr h)) .inl⟩
/-- of three places of a triangle to the left, in any order -/
theorem tri3_spec {a b c : Pl} (h : tw a b c ≠ 0) : leastF (tri3 a b c) ∧ ((0 < tw a b c → rot3 a b c (tri3 a b c).1 (tri3 a b c).2.1 (tri3 a b c).2.2) ∧ (tw a b c < 0 → rot3 a c b (tri3 a b c).1 (tri3 a b c).2.1 (tri3 a b c).2.2)) := by
  have n1 : a ≠ b := by rintro rfl; exact h (tw_aab _ _)
  have n2 : b ≠ c := by rintro rfl; exact h (tw_abb _ _)
  have n3 : c ≠ a := by rintro rfl; exact h (tw_aba _ _)
  have nd : [a, b, c].Nodup := by simp [n1, n2, n3.symm]
  -- by the order of the three
  have go : ∀ {x y z : Pl}, lt x y → lt y z → (∀ w, w ∈ [a, b, c] ↔ w ∈ [x, y, z]) → tri3 a b c = if 0 < tw x y z then (x, y, z) else (x, z, y) := by
    intro x y z l1 l2 p
    unfold tri3
    rw [srt3 l1 l2 p nd]
  have t1 := tw_rot a b c
  have t2 := tw_rot2 a b c
  have t3 : tw a c b = - tw a b c := tw_swap2 a b c
  have t4 : tw b a c = - tw a b c := tw_swap a b c
  have t5 : tw c b a = - tw a b c := by unfold tw; grind
  have fin : ∀ {x y z : Pl}, lt x y → lt y z → tri3 a b c = (if 0 < tw x y z then (x, y, z) else (x, z, y)) → ((tw x y z = tw a b c ∧ rot3 a b c x y z ∧ rot3 a c b x z y) ∨ (tw x y z = - tw a b c ∧ rot3 a c b x y z ∧ rot3 a b c x z y)) →
      leastF (tri3 a b c) ∧ ((0 < tw a b c → rot3 a b c (tri3 a b c).1 (tri3 a b c).2.1 (tri3 a b c).2.2) ∧ (tw a b c < 0 → rot3 a c b (tri3 a b c).1 (tri3 a b c).2.1 (tri3 a b c).2.2)) := by
    intro x y z l1 l2 e q
    rw [e]
    by_cases k : 0 < tw x y z
    · rw [if_pos k]
      refine ⟨⟨l1, lt_trans l1 l2⟩, ?_, ?_⟩
      · intro hp
        rcases q with ⟨q1, q2, _⟩ | ⟨q1, _, _⟩
        · exact q2
        · omega
      · intro hp
        rcases q with ⟨q1, _, _⟩ | ⟨q1, q2, _⟩
        · omega
        · exact q2
    · rw [if_neg k]
      refine ⟨⟨lt_trans l1 l2, l1⟩, ?_, ?_⟩
      · intro hp
        rcases q with ⟨q1, _, _⟩ | ⟨q1, _, q2⟩
        · omega
        · exact q2
      · intro hp
        rcases q with ⟨q1, _, q2⟩ | ⟨q1, _, _⟩
        · exact q2
        · omega
  rcases lt_total a b with k1 | k1 | k1
  · rcases lt_total b c with k2 | k2 | k2
    · exact fin k1 k2 (go k1 k2 fun w => Iff.rfl) (.inl ⟨rfl, .inl ⟨rfl, rfl, rfl⟩, .inl ⟨rfl, rfl, rfl⟩⟩)
    · exact (n2 k2).elim
    · rcases lt_total a c with k3 | k3 | k3
      · exact fin k3 k2 (go k3 k2 fun w => m3_1) (.inr ⟨t3, .inl ⟨rfl, rfl, rfl⟩, .inl ⟨rfl, rfl, rfl⟩⟩)
      · exact (n3 k3.symm).elim
      · exact fin k3 k1 (go k3 k1 fun w => m3_2.trans m3_2) (.inl ⟨t2, .inr (.inr ⟨rfl, rfl, rfl⟩), .inr (.inl ⟨rfl, rfl, rfl⟩)⟩)
  · exact (n1 k1).elim
  · rcases lt_total a c with k2 | k2 | k2
    · exact fin k1 k2 (go k1 k2 fun w => m3_2.trans m3_1) (.inr ⟨t4, .inr (.inr ⟨rfl, rfl, rfl⟩), .inr (.inl ⟨rfl, rfl, rfl⟩)⟩)
    · exact (n3 k2.symm).elim
    · rcases lt_total b c with k3 | k3 | k3
      · exact fin k3 k2 (go k3 k2 fun w => m3_2) (.inl ⟨t1, .inr (.inl ⟨rfl, rfl, rfl⟩), .inr (.inr ⟨rfl, rfl, rfl⟩)⟩)
      · exact (n2 k3).elim
      · exact fin k3 k1 (go k3 k1 fun w => m3_2.trans (m3_2.trans m3_1)) (.inr ⟨t5, .inr (.inl ⟨rfl, rfl, rfl⟩), .inr (.inr ⟨rfl, rfl, rfl⟩)⟩)
/-- a triangle told rightly is its own law's triangle -/
theorem tri3_self {a b c : Pl} (p : 0 < tw a b c) (l : leastF (a, b, c)) : tri3 a b c = (a, b, c) := by
  have s := tri3_spec (a := a) (b := b) (c := c) (by omega)
  exact (least_rot l s.1 (s.2.1 p)).symm
end NK

namespace NK
/-! ### the outline, as the program lists it -/
def outlineP (ps : List Pl) : List Pl := let row := srtP ps; if row.length < 2 then row else (thread row).dropLast ++ (thread row.reverse).dropLast
def rimL (o : List Pl) : List Sd := if h : 2 ≤ o.length then (o.getLast (by intro e; simp [e] at h), o[0]'(by omega)) :: edges o else []
def rimP (ps : List Pl) : List Sd := rimL (outlineP ps)
theorem chOk_desc {R : Pl → Prop} : ∀ st, ChOk R st → st.Pairwise fun y x => lt x y
  | [], h => h.elim
  | [y], _ => by simp
  | y :: x :: r, h => by
    have ih := chOk_desc (x :: r) h.2
    refine List.pairwise_cons.mpr ⟨fun q hq => ?_, ih⟩
    rcases List.mem_cons.mp hq with k | k
    · rw [k]; exact h.1.l
    · exact lt_trans ((List.pairwise_cons.mp ih).1 q k) h.1.l
theorem chOk_last {R : Pl → Prop} : ∀ st, ChOk R st → ∃ s x, st = s ++ [x] ∧ R x ∧ ∀ q, R q → q = x ∨ lt x q
  | [], h => h.elim
  | [y], h => ⟨[], y, rfl, h.1, h.2⟩
  | y :: x :: r, h => by
    obtain ⟨s, z, e, k⟩ := chOk_last (x :: r) h.2
    exact ⟨y :: s, z, by rw [e]; rfl, k⟩
theorem mem_edges : ∀ {l : List Pl} {a b : Pl}, (a, b) ∈ edges l → a ∈ l ∧ b ∈ l
  | [], _, _, h => by simp [edges] at h
  | [x], _, _, h => by simp [edges] at h
  | x :: y :: r, a, b, h => by
    rcases List.mem_cons.mp (show (a, b) ∈ (x, y) :: edges (y :: r) from h) with k | k
    · cases k; simp
    · have := mem_edges k
      exact ⟨List.mem_cons_of_mem _ this.1, List.mem_cons_of_mem _ this.2⟩
theorem edges_nodup : ∀ {l : List Pl}, l.Nodup → (edges l).Nodup
  | [], _ => List.nodup_nil
  | [x], _ => List.nodup_nil
  | x :: y :: r, h => by
    have h' := List.nodup_cons.mp h
    exact List.nodup_cons.mpr ⟨fun k => h'.1 (mem_edges k).1, edges_nodup h'.2⟩
theorem nodup_rev {α : Type} {l : List α} (h : l.Nodup) : l.reverse.Nodup := List.pairwise_reverse.mpr (h.imp fun k => k.symm)
theorem desc_nodup {l : List Pl} (h : l.Pairwise fun y x => lt x y) : l.Nodup := h.imp fun {a b} (k : lt b a) (e : a = b) => lt_ne k e.symm
theorem lt_nodup {l : List Pl} (h : l.Pairwise lt) : l.Nodup := h.imp fun k e => lt_ne k e
theorem row_neg_chain {row : List Pl} (s : row.Pairwise lt) (ne : row ≠ []) (R : Pl → Prop) (hR : ∀ q, R q ↔ q ∈ row) :
    (∃ z, (threadS [] row.reverse).head? = some z ∧ R z ∧ ∀ q, R q → q = z ∨ lt z q) ∧ ChOk (negR R) ((threadS [] row.reverse).map neg) := by
  have w : Row R := ⟨row, s, hR, ne⟩
  obtain ⟨z, h1, h2, h3⟩ := (Row.mk row s hR ne).neg.chain
  rw [(Row.mk row s hR ne).st_neg] at h1 h2
  refine ⟨⟨neg z, ?_, ?_, ?_⟩, h2⟩
  · rw [List.head?_map] at h1
    cases e : (threadS [] row.reverse).head? with
    | none => rw [e] at h1; cases h1
    | some y => rw [e] at h1; have := Option.some.inj h1; rw [← this, neg_neg]
  · cases e : (threadS [] row.reverse).map neg with
    | nil => rw [e] at h1; cases h1
    | cons y r =>
      rw [e] at h1 h2
      have := Option.some.inj h1
      subst this
      exact h2.head
  · intro q hq
    rcases h3 (neg q) (by unfold negR; rwa [neg_neg]) with k | k
    · exact .inl (by rw [← k, neg_neg])
    · exact .inr (lt_neg.mp (by rw [neg_neg]; exact k))
/-- the rim is the two threads' steps -/
theorem rim_perm {row : List Pl} (s : row.Pairwise lt) (l2 : 2 ≤ row.length) : (rimP row).Perm (edges (thread row) ++ edges (thread row.reverse)) := by
  have ne : row ≠ [] := by intro e; rw [e] at l2; simp at l2
  obtain ⟨z, h1, h2, h3⟩ := thread_ok s ne
  obtain ⟨⟨x, k1, k2, k3⟩, k4⟩ := row_neg_chain s ne (· ∈ row) fun _ => Iff.rfl
  obtain ⟨s1, x', e1, r1, m1⟩ := chOk_last _ h2
  obtain ⟨s2, z', e2, r2, m2⟩ := chOk_last _ k4
  have zr : z ∈ row := by
    cases e : threadS [] row with
    | nil => rw [e] at h1; cases h1
    | cons y r => rw [e] at h1 h2; have := Option.some.inj h1; subst this; exact h2.head
  have exx : x' = x := by
    rcases m1 x k2 with k | k
    · exact k.symm
    · rcases k3 x' r1 with k' | k'
      · exact k'
      · exact (lt_asymm k k').elim
  have ezz : neg z' = z := by
    rcases m2 (neg z) (by unfold negR; rwa [neg_neg]) with k | k
    · rw [← k, neg_neg]
    · have k : lt z (neg z') := lt_neg.mp (by rw [neg_neg]; exact k)
      rcases h3 (neg z') r2 with k' | k'
      · exact k'
      · exact (lt_asymm k k').elim
  have exz : x ≠ z := by
    rintro rfl
    have one : ∀ q ∈ row, q = x := fun q hq => by
      rcases h3 q hq with k | k
      · exact k
      · rcases k3 q hq with k' | k'
        · exact k'
        · exact (lt_asymm k k').elim
    match row, l2, one, s with
    | a :: b :: r, _, one, s =>
      have ea := one a (by simp)
      have eb := one b (by simp)
      have := (List.pairwise_cons.mp s).1 b (by simp)
      rw [ea, eb] at this
      exact lt_irrefl _ this
  subst exx
  -- the two stacks
  have S1 : ∃ s1', threadS [] row = z :: (s1' ++ [x']) := by
    rw [e1] at h1 ⊢
    cases s1 with
    | nil => exact (exz (Option.some.inj h1)).elim
    | cons y r => have := Option.some.inj h1; subst this; exact ⟨r, rfl⟩
  have S2 : ∃ s2', threadS [] row.reverse = x' :: (s2' ++ [z]) := by
    have e2' : threadS [] row.reverse = s2.map neg ++ [z] := by
      have := congrArg (List.map neg) e2
      rw [List.map_map, List.map_append] at this
      have i : (neg ∘ neg) = id := funext fun q => neg_neg q
      rw [i, List.map_id] at this
      rw [this, List.map_singleton, ezz]
    rw [e2'] at k1 ⊢
    cases h : s2.map neg with
    | nil => rw [h] at k1; exact (exz (Option.some.inj k1).symm).elim
    | cons y r => rw [h] at k1; have := Option.some.inj k1; subst this; exact ⟨r, rfl⟩
  obtain ⟨a1, E1⟩ := S1
  obtain ⟨a2, E2⟩ := S2
  have T1 : thread row = x' :: (a1.reverse ++ [z]) := by unfold thread; rw [E1]; simp
  have T2 : thread row.reverse = z :: (a2.reverse ++ [x']) := by unfold thread; rw [E2]; simp
  have sr : srtP row = row := srtBy_self lt lt_irrefl lt_trans lt_total s
  have O : outlineP row = (x' :: a1.reverse) ++ z :: a2.reverse := by
    unfold outlineP
    simp only [sr]
    rw [if_neg (by omega), T1, T2, ← List.cons_append, List.dropLast_concat, ← List.cons_append, List.dropLast_concat]
  unfold rimP rimL
  rw [dif_pos (by rw [O]; simp; omega)]
  have G : ∃ y b, z :: a2.reverse = b ++ [y] := by
    rcases List.eq_nil_or_concat (z :: a2.reverse) with h | ⟨b, y, h⟩
    · cases h
    · exact ⟨y, b, by rw [h, List.concat_eq_append]⟩
  obtain ⟨y, b, eb⟩ := G
  have gl : (outlineP row).getLast (by rw [O]; simp) = y := by
    have : outlineP row = (x' :: a1.reverse ++ b) ++ [y] := by rw [O, eb, List.append_assoc]
    simp only [this, List.getLast_concat]
  have g0 : (outlineP row)[0]'(by rw [O]; simp) = x' := by simp only [O]; rfl
  rw [gl, g0, O, T1, T2]
  rw [edges_append]
  show ((y, x') :: (edges (x' :: (a1.reverse ++ [z])) ++ edges (z :: a2.reverse))).Perm (edges (x' :: (a1.reverse ++ [z])) ++ edges ((z :: a2.reverse) ++ [x']))
  rw [eb, List.append_assoc, List.singleton_append, edges_append y b [x'], show edges [y, x'] = [(y, x')] from rfl, ← List.append_assoc]
  exact (List.perm_append_singleton _ _).symm
theorem mem_rim {row : List Pl} (s : row.Pairwise lt) (l2 : 2 ≤ row.length) {a b : Pl} : (a, b) ∈ rimP row ↔ HE (· ∈ row) a b := by
  have ne : row ≠ [] := by intro e; rw [e] at l2; simp at l2
  rw [(rim_perm s l2).mem_iff, List.mem_append]
  obtain ⟨z, h1, h2, h3⟩ := thread_ok s ne
  have K := row_neg_chain s ne (· ∈ row) fun _ => Iff.rfl
  have w : Row (· ∈ row) := ⟨row, s, fun _ => Iff.rfl, ne⟩
  obtain ⟨z', j1, j2, j3⟩ := (Row.mk row s (fun q => (Iff.rfl : q ∈ row ↔ _)) ne).neg.chain
  rw [Row.st_neg] at j1 j2
  have b1 : (a, b) ∈ edges (thread row) ↔ (b, a) ∈ edges (threadS [] row) := mem_edges_reverse
  have b2 : (a, b) ∈ edges (thread row.reverse) ↔ (neg b, neg a) ∈ edges ((threadS [] row.reverse).map neg) := by
    rw [mem_edges_neg]; exact mem_edges_reverse
  constructor
  · rintro (h | h)
    · exact (chOk_edge _ h2 _ _ (b1.mp h)).he
    · have := (chOk_edge _ K.2 _ _ (b2.mp h)).he.of_neg
      rwa [neg_neg, neg_neg] at this
  · intro h
    rcases lt_total a b with l | l | l
    · exact .inl (b1.mpr (fwd h2 h1 h3 h l))
    · exact (h.ne l).elim
    · exact .inr (b2.mpr (fwd j2 j1 j3 h.neg (lt_neg.mpr l)))
theorem rim_nodup {row : List Pl} (s : row.Pairwise lt) (l2 : 2 ≤ row.length) : (rimP row).Nodup := by
  have ne : row ≠ [] := by intro e; rw [e] at l2; simp at l2
  rw [(rim_perm s l2).nodup_iff]
  obtain ⟨z, h1, h2, h3⟩ := thread_ok s ne
  have K := row_neg_chain s ne (· ∈ row) fun _ => Iff.rfl
  have b1 : ∀ {a b}, (a, b) ∈ edges (thread row) → lt a b := fun h => (chOk_edge _ h2 _ _ (mem_edges_reverse.mp h)).l
  have b2 : ∀ {a b}, (a, b) ∈ edges (thread row.reverse) → lt b a := fun {a b} h => by
    have : (neg b, neg a) ∈ edges ((threadS [] row.reverse).map neg) := by rw [mem_edges_neg]; exact mem_edges_reverse.mp h
    exact lt_neg.mp (chOk_edge _ K.2 _ _ this).l
  refine List.nodup_append.mpr ⟨edges_nodup ?_, edges_nodup ?_, ?_⟩
  · exact nodup_rev (desc_nodup (chOk_desc _ h2))
  · refine nodup_rev (nd_of_map (f := neg) (desc_nodup (chOk_desc _ K.2)))
  · rintro ⟨a, b⟩ h x hx rfl
    exact lt_asymm (b1 h) (b2 hx)
/-! ### the sweep, as the program lists it -/
def newTris (row : List Pl) (p : Pl) : List Tri := (rimP row).filterMap fun s => if tw s.1 s.2 p < 0 then some (laidT s.2 s.1 p) else none
def sweepN (row : List Pl) (k : Nat) : List Tri := (List.range k).flatMap fun j => newTris (row.take j) (row.getD j (0, 0))
def sweptP (ps : List Pl) : List Tri := srtT (sweepN (srtP ps) (srtP ps).length)
theorem sweepN_succ (row : List Pl) (k : Nat) : sweepN row (k + 1) = sweepN row k ++ newTris (row.take k) (row.getD k (0, 0)) := by
  unfold sweepN
  rw [List.range_succ, List.flatMap_append]
  simp
theorem InL_append {A B : List Tri} {a b c : Pl} : InL (A ++ B) a b c ↔ InL A a b c ∨ InL B a b c := by
  unfold InL
  simp only [List.mem_append]
  constructor
  · rintro ((h | h) | (h | h) | (h | h))
    · exact .inl (.inl h)
    · exact .inr (.inl h)
    · exact .inl (.inr (.inl h))
    · exact .inr (.inr (.inl h))
    · exact .inl (.inr (.inr h))
    · exact .inr (.inr (.inr h))
  · rintro ((h | h | h) | (h | h | h))
    · exact .inl (.inl h)
    · exact .inr (.inl (.inl h))
    · exact .inr (.inr (.inl h))
    · exact .inl (.inr h)
    · exact .inr (.inl (.inr h))
    · exact .inr (.inr (.inr h))
theorem tw_ne {a b p : Pl} (h : tw a b p ≠ 0) : a ≠ b ∧ b ≠ p ∧ p ≠ a := by
  refine ⟨?_, ?_, ?_⟩ <;> rintro rfl
  · exact h (tw_aab _ _)
  · exact h (tw_abb _ _)
  · exact h (tw_aba _ _)
theorem mem_newTris {row : List Pl} {p : Pl} {t : Tri} : t ∈ newTris row p ↔ ∃ a b, (a, b) ∈ rimP row ∧ tw a b p < 0 ∧ t = laidT b a p := by
  unfold newTris
  rw [List.mem_filterMap]
  constructor
  · rintro ⟨⟨a, b⟩, h, e⟩
    simp only at e
    split at e
    · rename_i k; exact ⟨a, b, h, k, (Option.some.inj e).symm⟩
    · cases e
  · rintro ⟨a, b, h, k, rfl⟩
    exact ⟨(a, b), h, if_pos k⟩
theorem laid_of {a b p : Pl} (k : tw a b p < 0) : rot3 b a p (laidT b a p).1 (laidT b a p).2.1 (laidT b a p).2.2 ∧ leastF (laidT b a p) := by
  have n := tw_ne (a := a) (b := b) (p := p) (by omega)
  exact laidT_spec n.1.symm n.2.2.symm n.2.1.symm
theorem InL_new {row : List Pl} (s : row.Pairwise lt) (l2 : 2 ≤ row.length) {p x y z : Pl} : InL (newTris row p) x y z ↔ ∃ a b, HE (· ∈ row) a b ∧ tw a b p < 0 ∧ rot3 b a p x y z := by
  rw [InL_iff]
  constructor
  · rintro ⟨t, ht, r⟩
    obtain ⟨a, b, h, k, rfl⟩ := mem_newTris.mp ht
    exact ⟨a, b, (mem_rim s l2).mp h, k, (laid_of k).1.trans r⟩
  · rintro ⟨a, b, h, k, r⟩
    exact ⟨_, mem_newTris.mpr ⟨a, b, (mem_rim s l2).mpr h, k, rfl⟩, (laid_of k).1.symm.trans r⟩
theorem rot3_same {a b p c d x y z : Pl} (n1 : p ≠ a) (n2 : p ≠ b) (n3 : p ≠ c) (n4 : p ≠ d) (h : rot3 a b p x y z) (k : rot3 c d p x y z) : a = c ∧ b = d := by
  unfold rot3 at h k
  grind
theorem newTris_nodup {row : List Pl} (s : row.Pairwise lt) (l2 : 2 ≤ row.length) (p : Pl) : (newTris row p).Nodup := by
  refine filterMap_nd (fun x y z h1 h2 => ?_) (rim_nodup s l2)
  split at h1
  · split at h2
    · rename_i k1 k2
      have e1 := Option.some.inj h1
      have e2 := Option.some.inj h2
      have r1 := (laid_of k1).1
      have r2 := (laid_of k2).1
      rw [e1] at r1
      rw [e2] at r2
      have n1 := tw_ne (a := x.1) (b := x.2) (p := p) (by omega)
      have n2 := tw_ne (a := y.1) (b := y.2) (p := p) (by omega)
      have := rot3_same n1.2.1.symm n1.2.2 n2.2.1.symm n2.2.2 r1 r2
      exact Prod.ext this.2 this.1
    · cases h2
  · cases h1
theorem rot3_mem {a b c x y z : Pl} (h : rot3 a b c x y z) : c = x ∨ c = y ∨ c = z := by
  rcases h with ⟨_, _, h⟩ | ⟨_, h, _⟩ | ⟨h, _, _⟩
  · exact .inr (.inr h.symm)
  · exact .inr (.inl h.symm)
  · exact .inl h.symm
theorem newTris_short {row : List Pl} (h : row.length < 2) (p : Pl) : newTris row p = [] := by
  have : rimP row = [] := by
    unfold rimP rimL
    rw [dif_neg]
    unfold outlineP
    have : (srtP row).length = row.length := (srtBy_perm lt row).length_eq
    simp only [this, if_pos h]
    omega
  unfold newTris
  rw [this]
  rfl
theorem sweep_swp {row : List Pl} (s : row.Pairwise lt) : ∀ k, 1 ≤ k → k ≤ row.length →
    Swp (· ∈ row.take k) (InL (sweepN row k)) ∧ (sweepN row k).Nodup ∧ ∀ t ∈ sweepN row k, leastF t
  | 0, h, _ => by omega
  | 1, _, h => by
    have e : sweepN row 1 = [] := by
      rw [sweepN_succ, newTris_short (by simp)]
      rfl
    rw [e]
    match row, h with
    | a :: r, _ =>
      have := start_swp a
      refine ⟨?_, List.nodup_nil, fun _ h => by cases h⟩
      have e1 : (fun q => q = a) = (· ∈ (a :: r).take 1) := funext fun q => propext (by simp)
      have e2 : (fun _ _ _ => False) = InL [] := funext fun x => funext fun y => funext fun z => propext (by simp [InL])
      rw [← e1, ← e2]
      exact this
  | k + 2, _, h => by
    obtain ⟨S, nd, lf⟩ := sweep_swp s (k + 1) (by omega) (by omega)
    have sk : (row.take (k + 1)).Pairwise lt := s.sublist (List.take_sublist _ _)
    have ne : row.take (k + 1) ≠ [] := by intro e; have := congrArg List.length e; rw [List.length_take, List.length_nil] at this; omega
    have gk : row.getD (k + 1) (0, 0) = row[k + 1] := by rw [List.getD_eq_getElem?_getD, List.getElem?_eq_getElem (by omega)]; rfl
    have tk : row.take (k + 2) = row.take (k + 1) ++ [row[k + 1]] := (List.take_append_getElem (by omega)).symm
    generalize row[k + 1] = p at gk tk
    have hp : ∀ q, q ∈ row.take (k + 1) → lt q p := fun q hq => by
      have : (row.take (k + 2)).Pairwise lt := s.sublist (List.take_sublist _ _)
      rw [tk] at this
      exact (List.pairwise_append.mp this).2.2 q hq p (by simp)
    have np : p ∉ row.take (k + 1) := fun h => lt_irrefl _ (hp p h)
    have w : Row (· ∈ row.take (k + 1)) := ⟨_, sk, fun _ => Iff.rfl, ne⟩
    have S' := step_swp w hp S
    rw [sweepN_succ, gk]
    have eR : (· ∈ row.take (k + 2)) = plus (· ∈ row.take (k + 1)) p := funext fun q => propext (by unfold plus; rw [tk]; simp)
    have short : (row.take (k + 1)).length < 2 → newTris (row.take (k + 1)) p = [] := fun h => newTris_short h p
    have eT : InL (sweepN row (k + 1) ++ newTris (row.take (k + 1)) p) = newT (· ∈ row.take (k + 1)) (InL (sweepN row (k + 1))) p := by
      funext x y z
      refine propext ?_
      rw [InL_append]
      unfold newT
      by_cases l2 : 2 ≤ (row.take (k + 1)).length
      · rw [InL_new sk l2]
      · rw [short (by omega)]
        constructor
        · rintro (h | h)
          · exact .inl h
          · simp [InL] at h
        · rintro (h | ⟨a, b, h, _⟩)
          · exact .inl h
          · exfalso
            match hr : row.take (k + 1), l2, h with
            | [], _, h => exact absurd h.ra (by simp)
            | [u], _, h =>
              have e1 : a = u := by simpa using h.ra
              have e2 : b = u := by simpa using h.rb
              exact h.ne (e1.trans e2.symm)
            | u :: v :: r, l2, _ => simp at l2
    refine ⟨by rw [eR, eT]; exact S', ?_, ?_⟩
    · by_cases l2 : 2 ≤ (row.take (k + 1)).length
      · refine List.nodup_append.mpr ⟨nd, newTris_nodup sk l2 p, ?_⟩
        rintro t ht u hu rfl
        obtain ⟨a, b, _, k3, e⟩ := mem_newTris.mp hu
        have r := (laid_of k3).1
        rw [← e] at r
        have h1 : InL (sweepN row (k + 1)) t.1 t.2.1 t.2.2 := .inl ht
        rcases rot3_mem r with q | q | q
        · exact np (by have := S.inP h1; rwa [← q] at this)
        · exact np (by have := S.inP2 h1; rwa [← q] at this)
        · exact np (by have := S.inP3 h1; rwa [← q] at this)
      · rw [short (by omega), List.append_nil]
        exact nd
    · intro t ht
      rcases List.mem_append.mp ht with ht | ht
      · exact lf t ht
      · obtain ⟨a, b, _, k3, rfl⟩ := mem_newTris.mp ht
        exact (laid_of k3).2
theorem InL_congr {A B : List Tri} (h : ∀ t, t ∈ A ↔ t ∈ B) (a b c : Pl) : InL A a b c ↔ InL B a b c := by unfold InL; rw [h, h, h]
/-- the sweep covers -/
theorem swept_covL {ps : List Pl} (n : ps.Nodup) : CovL ps (sweptP ps) := by
  have up : (srtP ps).Pairwise lt := srtBy_strict lt lt_irrefl lt_trans lt_total n
  have mem : ∀ q, q ∈ srtP ps ↔ q ∈ ps := fun q => mem_srtBy lt
  by_cases h : srtP ps = []
  · have e : ps = [] := List.eq_nil_iff_forall_not_mem.mpr fun q hq => by have := (mem q).mpr hq; rw [h] at this; cases this
    have e2 : sweptP ps = [] := by unfold sweptP; rw [h]; exact srtBy_self ltT ltT_irrefl ltT_trans ltT_total List.Pairwise.nil
    have : ∀ a b c, ¬ InL ([] : List Tri) a b c := fun a b c h => by simp [InL] at h
    rw [e2, e]
    refine ⟨{ rot := fun h => (this _ _ _ h).elim, inP := fun h => (this _ _ _ h).elim, pos := fun h => (this _ _ _ h).elim, emp := fun h => (this _ _ _ h).elim, dis := fun h => (this _ _ _ h).elim, bd := fun h => (this _ _ _ h).elim, cor := fun _ p hp => by cases hp }, List.Pairwise.nil, fun _ h => by cases h⟩
  · obtain ⟨S, nd, lf⟩ := sweep_swp up (srtP ps).length (List.length_pos_iff.mpr h) (Nat.le_refl _)
    rw [List.take_length] at S
    have eR : (· ∈ srtP ps) = (· ∈ ps) := funext fun q => propext (mem q)
    rw [eR] at S
    have mt : ∀ t, t ∈ sweptP ps ↔ t ∈ sweepN (srtP ps) (srtP ps).length := fun t => mem_srtBy ltT
    exact ⟨Kov.congr { toCov0 := S.toCov0, cor := fun nl p hp => S.cor nl hp } (InL_congr mt), srtBy_strict ltT ltT_irrefl ltT_trans ltT_total nd, fun t ht => lf t ((mt t).mp ht)⟩
end NK

namespace NK
/-! ### the law's flips -/
def cors (t : Tri) : List Pl := [t.1, t.2.1, t.2.2]
def bothL (L : List Tri) (a b : Pl) : List Tri := L.filter fun t => decide (a ∈ cors t) && decide (b ∈ cors t)
def othersL (t : Tri) (a b : Pl) : List Pl := (cors t).filter fun p => decide (p ≠ a) && decide (p ≠ b)
theorem others_one {t : Tri} {a b : Pl} (n : (cors t).Nodup) (ab : a ≠ b) (ha : a ∈ cors t) (hb : b ∈ cors t) : ∃ c, othersL t a b = [c] ∧ (rot3 t.1 t.2.1 t.2.2 a b c ∨ rot3 t.1 t.2.1 t.2.2 b a c) := by
  obtain ⟨x, y, z⟩ := t
  unfold othersL
  have N : x ≠ y ∧ x ≠ z ∧ y ≠ z := by
    unfold cors at n
    simp at n
    exact ⟨n.1.1, n.1.2, n.2⟩
  obtain ⟨n1, n2, n3⟩ := N
  unfold cors at ha hb ⊢
  simp only [List.mem_cons, List.not_mem_nil, or_false] at ha hb
  rcases ha with rfl | rfl | rfl <;> rcases hb with rfl | rfl | rfl
  · exact (ab rfl).elim
  · exact ⟨z, by simp [n2.symm, n3.symm, n1], .inl (.inl ⟨rfl, rfl, rfl⟩)⟩
  · exact ⟨y, by simp [n1.symm, n3, n1, n2], .inr (.inr (.inr ⟨rfl, rfl, rfl⟩))⟩
  · exact ⟨z, by simp [n2.symm, n3.symm, n1], .inr (.inl ⟨rfl, rfl, rfl⟩)⟩
  · exact (ab rfl).elim
  · exact ⟨x, by simp [n1, n2, n3], .inl (.inr (.inl ⟨rfl, rfl, rfl⟩))⟩
  · exact ⟨y, by simp [n1.symm, n3, n1, n2], .inl (.inr (.inr ⟨rfl, rfl, rfl⟩))⟩
  · exact ⟨x, by simp [n1, n2, n3], .inr (.inr (.inl ⟨rfl, rfl, rfl⟩))⟩
  · exact (ab rfl).elim
theorem CovL.cors_nd {P : List Pl} {L : List Tri} (C : CovL P L) {t : Tri} (h : t ∈ L) : (cors t).Nodup := by
  have n := C.kov.ne (a := t.1) (b := t.2.1) (c := t.2.2) (.inl h)
  unfold cors
  simp [n.1, n.2.1, n.2.2.symm]
def leftL (L M : List Tri) : List Tri := L.filter fun t => decide (t ∉ M)
theorem CovL.flip {P : List Pl} {L : List Tri} (C : CovL P L) {a b c d : Pl} {s t u v : Tri} (hs : s ∈ L) (ht : t ∈ L) (rs : rot3 s.1 s.2.1 s.2.2 a b c) (rt : rot3 t.1 t.2.1 t.2.2 b a d) (g1 : 0 < tw a d c) (g2 : 0 < tw d b c)
    (hu : leastF u) (hv : leastF v) (ru : rot3 a d c u.1 u.2.1 u.2.2) (rv : rot3 d b c v.1 v.2.1 v.2.2) {M B : List Tri} (hB : ∀ x, x ∈ B ↔ x = s ∨ x = t) (hM : ∀ x, x ∈ M ↔ x = u ∨ x = v) (nM : M.Nodup) : CovL P (srtT (leftL L B ++ M)) := by
  have K := C.kov
  have h1 : InL L a b c := InL_iff.mpr ⟨s, hs, rs⟩
  have h2 : InL L b a d := InL_iff.mpr ⟨t, ht, rt⟩
  have F1 : ∀ e, ¬ InL L c d e := fresh K.toCov0 h1 h2 g1 g2
  have F2 : ∀ e, ¬ InL L d c e := fresh K.toCov0 h2 h1 (a := b) (b := a) (c := d) (d := c) (by rw [tw_rot d b c]; exact g2) (by rw [tw_rot2 a d c]; exact g1)
  have mem : ∀ x, x ∈ srtT (leftL L B ++ M) ↔ (x ∈ L ∧ x ≠ s ∧ x ≠ t) ∨ x = u ∨ x = v := fun x => by
    rw [mem_srtBy, List.mem_append, hM]
    unfold leftL
    rw [List.mem_filter, decide_eq_true_iff, hB]
    simp only [not_or]
  have nu : u ∉ L := fun h => F2 a (InL_rot3 (.inl h) (ru.symm.trans (.inr (.inl ⟨rfl, rfl, rfl⟩))))
  have nv : v ∉ L := fun h => F1 b (InL_rot3 (.inl h) (rv.symm.trans (.inr (.inr ⟨rfl, rfl, rfl⟩))))
  have up : (srtT (leftL L B ++ M)).Pairwise ltT := by
    refine srtBy_strict ltT ltT_irrefl ltT_trans ltT_total (List.nodup_append.mpr ⟨?_, nM, ?_⟩)
    · exact List.Sublist.nodup List.filter_sublist (C.up.imp fun {x y} k e => by subst e; exact ltT_irrefl _ k)
    · rintro x hx y hy rfl
      have hx := (List.mem_filter.mp hx).1
      rcases (hM x).mp hy with rfl | rfl
      · exact nu hx
      · exact nv hx
  refine ⟨(K.flip h1 h2 g1 g2).congr fun x y z => ?_, up, fun x hx => ?_⟩
  · rw [InL_iff]
    unfold flipT
    constructor
    · rintro ⟨w, hw, r⟩
      rcases (mem w).mp hw with ⟨hw, ns, nt⟩ | rfl | rfl
      · refine .inl ⟨InL_rot3 (.inl hw) r, fun k => ?_, fun k => ?_⟩
        · exact ns (least_rot (C.first _ hw) (C.first _ hs) (r.trans (k.symm.trans rs.symm)))
        · exact nt (least_rot (C.first _ hw) (C.first _ ht) (r.trans (k.symm.trans rt.symm)))
      · exact .inr (.inl (ru.trans r))
      · exact .inr (.inr (rv.trans r))
    · rintro (⟨h, k1, k2⟩ | h | h)
      · obtain ⟨w, hw, r⟩ := InL_iff.mp h
        refine ⟨w, (mem w).mpr (.inl ⟨hw, ?_, ?_⟩), r⟩
        · rintro rfl; exact k1 (rs.symm.trans r)
        · rintro rfl; exact k2 (rt.symm.trans r)
      · exact ⟨u, (mem u).mpr (.inr (.inl rfl)), ru.symm.trans h⟩
      · exact ⟨v, (mem v).mpr (.inr (.inr rfl)), rv.symm.trans h⟩
  · rcases (mem x).mp hx with ⟨h, _⟩ | rfl | rfl
    · exact C.first _ h
    · exact hu
    · exact hv
/-- the law's flip keeps a cover a cover -/
theorem flipped_cov {P : List Pl} {L : List Tri} (C : CovL P L) {a b c d : Pl} {s t : Tri} (ab : a ≠ b) (hB : bothL L a b = [s, t]) (hc : (othersL s a b).head? = some c) (hd : (othersL t a b).head? = some d)
    (neg : tw c d a * tw c d b < 0) : CovL P (srtT (leftL L (bothL L a b) ++ [tri3 a c d, tri3 b c d])) := by
  have mB : ∀ x, x ∈ bothL L a b ↔ x = s ∨ x = t := fun x => by rw [hB]; simp
  have inB : ∀ x, x ∈ bothL L a b → x ∈ L ∧ a ∈ cors x ∧ b ∈ cors x := fun x hx => by
    unfold bothL at hx
    have := List.mem_filter.mp hx
    simpa using this
  obtain ⟨hs, as, bs⟩ := inB s ((mB s).mpr (.inl rfl))
  obtain ⟨ht, at', bt⟩ := inB t ((mB t).mpr (.inr rfl))
  obtain ⟨c', e1, r1⟩ := others_one (C.cors_nd hs) ab as bs
  obtain ⟨d', e2, r2⟩ := others_one (C.cors_nd ht) ab at' bt
  rw [e1] at hc
  rw [e2] at hd
  have := Option.some.inj hc
  subst this
  have := Option.some.inj hd
  subst this
  have nst : s ≠ t := by
    have : (bothL L a b).Nodup := List.Sublist.nodup List.filter_sublist (C.up.imp fun {x y} k e => by subst e; exact ltT_irrefl _ k)
    rw [hB] at this
    simpa using this
  have K := C.kov
  have same : ∀ {x y z w}, rot3 s.1 s.2.1 s.2.2 x y z → rot3 t.1 t.2.1 t.2.2 x y w → False := by
    intro x y z w k1 k2
    have := K.uni (InL_iff.mpr ⟨s, hs, k1⟩) (InL_iff.mpr ⟨t, ht, k2⟩)
    subst this
    exact nst (least_rot (C.first _ hs) (C.first _ ht) (k1.trans k2.symm))
  -- the two new ones
  have new : ∀ {a b c d : Pl}, 0 < tw a d c → 0 < tw d b c → (leastF (tri3 a c d) ∧ rot3 a d c (tri3 a c d).1 (tri3 a c d).2.1 (tri3 a c d).2.2) ∧ (leastF (tri3 b c d) ∧ rot3 d b c (tri3 b c d).1 (tri3 b c d).2.1 (tri3 b c d).2.2) := by
    intro a b c d g1 g2
    have q1 : tw a c d = - tw a d c := tw_swap2 a d c
    have q2 : tw b c d = tw d b c := tw_rot d b c
    have s1 := tri3_spec (a := a) (b := c) (c := d) (by omega)
    have s2 := tri3_spec (a := b) (b := c) (c := d) (by omega)
    exact ⟨⟨s1.1, s1.2.2 (by omega)⟩, s2.1, (show rot3 d b c b c d from .inr (.inl ⟨rfl, rfl, rfl⟩)).trans (s2.2.1 (by omega))⟩
  have new' : ∀ {a b c d : Pl}, 0 < tw a c d → 0 < tw c b d → (leastF (tri3 a c d) ∧ rot3 a c d (tri3 a c d).1 (tri3 a c d).2.1 (tri3 a c d).2.2) ∧ (leastF (tri3 b c d) ∧ rot3 c b d (tri3 b c d).1 (tri3 b c d).2.1 (tri3 b c d).2.2) := by
    intro a b c d g1 g2
    have q2 : tw b c d = - tw c b d := tw_swap c b d
    have s1 := tri3_spec (a := a) (b := c) (c := d) (by omega)
    have s2 := tri3_spec (a := b) (b := c) (c := d) (by omega)
    exact ⟨⟨s1.1, s1.2.1 (by omega)⟩, s2.1, (show rot3 c b d b d c from .inr (.inl ⟨rfl, rfl, rfl⟩)).trans (s2.2.2 (by omega))⟩
  have nd2 : ∀ {a b c d : Pl} {u v : Tri}, a ≠ b → 0 < tw a d c → rot3 a d c u.1 u.2.1 u.2.2 → rot3 d b c v.1 v.2.1 v.2.2 → [u, v].Nodup := by
    intro a b c d u v ab g r1 r2
    have n := tw_ne (a := a) (b := d) (p := c) (by omega)
    have : u ≠ v := by
      rintro rfl
      have := r1.trans r2.symm
      unfold rot3 at this
      have n2 := n.2.2
      grind
    simpa using this
  rcases r1 with r1 | r1 <;> rcases r2 with r2 | r2
  · exact (same r1 r2).elim
  · have p1 := K.pos (InL_iff.mpr ⟨s, hs, r1⟩)
    have p2 := K.pos (InL_iff.mpr ⟨t, ht, r2⟩)
    have g := cross_signs p1 p2 neg
    have N := new g.1 g.2
    exact C.flip hs ht r1 r2 g.1 g.2 N.1.1 N.2.1 N.1.2 N.2.2 mB (fun x => by simp) (nd2 ab g.1 N.1.2 N.2.2)
  · have p1 := K.pos (InL_iff.mpr ⟨t, ht, r2⟩)
    have p2 := K.pos (InL_iff.mpr ⟨s, hs, r1⟩)
    have e : tw d' c' a * tw d' c' b = tw c' d' a * tw c' d' b := by rw [tw_swap c' d' a, tw_swap c' d' b, Int.neg_mul_neg]
    have g := cross_signs p1 p2 (by rw [e]; exact neg)
    have N := new' g.1 g.2
    exact C.flip ht hs r2 r1 g.1 g.2 N.1.1 N.2.1 N.1.2 N.2.2 (fun x => (mB x).trans Or.comm) (fun x => by simp) (nd2 ab g.1 N.1.2 N.2.2)
  · exact (same r1 r2).elim
/-! ### the sides of a cover -/
def sidesT (t : Tri) : List Sd := [(t.1, t.2.1), (t.2.1, t.2.2), (t.2.2, t.1)]
def sidesL (L : List Tri) : List Sd := L.flatMap sidesT
theorem mem_sidesT {t : Tri} {a b : Pl} : (a, b) ∈ sidesT t ↔ ∃ c, rot3 t.1 t.2.1 t.2.2 a b c := by
  unfold sidesT rot3
  simp only [List.mem_cons, List.not_mem_nil, or_false, Prod.mk.injEq]
  constructor
  · rintro (⟨h, k⟩ | ⟨h, k⟩ | ⟨h, k⟩)
    · exact ⟨_, .inl ⟨h, k, rfl⟩⟩
    · exact ⟨_, .inr (.inl ⟨h, k, rfl⟩)⟩
    · exact ⟨_, .inr (.inr ⟨h, k, rfl⟩)⟩
  · rintro ⟨c, h | h | h⟩
    · exact .inl ⟨h.1, h.2.1⟩
    · exact .inr (.inl ⟨h.1, h.2.1⟩)
    · exact .inr (.inr ⟨h.1, h.2.1⟩)
theorem mem_sidesL {L : List Tri} {a b : Pl} : (a, b) ∈ sidesL L ↔ ∃ c, InL L a b c := by
  unfold sidesL
  rw [List.mem_flatMap]
  constructor
  · rintro ⟨t, ht, h⟩
    obtain ⟨c, r⟩ := mem_sidesT.mp h
    exact ⟨c, InL_iff.mpr ⟨t, ht, r⟩⟩
  · rintro ⟨c, h⟩
    obtain ⟨t, ht, r⟩ := InL_iff.mp h
    exact ⟨t, ht, mem_sidesT.mpr ⟨c, r⟩⟩
theorem flat_nd {α β : Type} {f : α → List β} : ∀ {l : List α}, l.Nodup → (∀ x ∈ l, (f x).Nodup) → (∀ x ∈ l, ∀ y ∈ l, ∀ z, z ∈ f x → z ∈ f y → x = y) → (l.flatMap f).Nodup
  | [], _, _, _ => by simp
  | x :: l, n, h1, h2 => by
    have n' := List.nodup_cons.mp n
    rw [List.flatMap_cons]
    refine List.nodup_append.mpr ⟨h1 x (by simp), flat_nd n'.2 (fun y hy => h1 y (by simp [hy])) (fun y hy w hw => h2 y (by simp [hy]) w (by simp [hw])), ?_⟩
    rintro z hz w hw rfl
    obtain ⟨y, hy, hz'⟩ := List.mem_flatMap.mp hw
    exact n'.1 (h2 x (by simp) y (by simp [hy]) z hz hz' ▸ hy)
theorem CovL.nd {P : List Pl} {L : List Tri} (C : CovL P L) : L.Nodup := C.up.imp fun {x y} k e => by subst e; exact ltT_irrefl _ k
theorem CovL.sides_nd {P : List Pl} {L : List Tri} (C : CovL P L) : (sidesL L).Nodup := by
  refine flat_nd C.nd (fun t ht => ?_) (fun s hs t ht z h1 h2 => ?_)
  · have n := C.kov.ne (a := t.1) (b := t.2.1) (c := t.2.2) (.inl ht)
    unfold sidesT
    simp [n.1, n.2.1, n.2.2, n.1.symm, n.2.1.symm, n.2.2.symm]
  · obtain ⟨a, b⟩ := z
    obtain ⟨c, r⟩ := mem_sidesT.mp h1
    obtain ⟨d, r'⟩ := mem_sidesT.mp h2
    have := C.kov.uni (InL_iff.mpr ⟨s, hs, r⟩) (InL_iff.mpr ⟨t, ht, r'⟩)
    subst this
    exact least_rot (C.first _ hs) (C.first _ ht) (r.trans r'.symm)
theorem CovL.sides_few {P : List Pl} {L : List Tri} (C : CovL P L) : (sidesL L).length ≤ P.length * P.length := by
  rw [← pairs_len]
  exact nodup_le C.sides_nd fun s hs => by
    obtain ⟨a, b⟩ := s
    obtain ⟨c, h⟩ := mem_sidesL.mp hs
    exact mem_pairs (C.kov.inP h) (C.kov.inP2 h)
theorem sides_len (L : List Tri) : (sidesL L).length = 3 * L.length := by
  induction L with
  | nil => rfl
  | cons t L ih => unfold sidesL at *; rw [List.flatMap_cons, List.length_append, ih]; simp [sidesT]; omega
theorem CovL.rim {P : List Pl} {L : List Tri} (C : CovL P L) {a b : Pl} (h : (a, b) ∈ sidesL L) (n : (b, a) ∉ sidesL L) : HE (· ∈ P) a b := by
  obtain ⟨c, h⟩ := mem_sidesL.mp h
  exact he_of_side C.kov.toCov0 h fun d hd => n (mem_sidesL.mpr ⟨d, hd⟩)
theorem CovL.tri {P : List Pl} {L : List Tri} (C : CovL P L) {t : Tri} (h : t ∈ L) : (t.1 ∈ P ∧ t.2.1 ∈ P ∧ t.2.2 ∈ P) ∧ tri3 t.1 t.2.1 t.2.2 = t ∧ 0 < tw t.1 t.2.1 t.2.2 := by
  have i : InL L t.1 t.2.1 t.2.2 := .inl h
  exact ⟨⟨C.kov.inP i, C.kov.inP2 i, C.kov.inP3 i⟩, tri3_self (C.kov.pos i) (C.first t h), C.kov.pos i⟩
theorem CovL.corner {P : List Pl} {L : List Tri} (C : CovL P L) (nl : ¬ Lin (· ∈ P)) {p : Pl} (h : p ∈ P) : ∃ t ∈ L, p ∈ cors t := by
  obtain ⟨b, c, k⟩ := C.kov.cor nl h
  obtain ⟨t, ht, r⟩ := InL_iff.mp k
  refine ⟨t, ht, ?_⟩
  unfold cors
  rcases r with ⟨r, _⟩ | ⟨r, _⟩ | ⟨r, _⟩ <;> rw [r] <;> simp
theorem in_line {a b : Pl} {r : List Pl} (n : a ≠ b) (h : ∀ p ∈ r, tw a b p = 0) : Lin (· ∈ a :: b :: r) := by
  have all : ∀ q, q ∈ a :: b :: r → tw a b q = 0 := fun q hq => by
    rcases List.mem_cons.mp hq with rfl | hq
    · exact tw_aba _ _
    · rcases List.mem_cons.mp hq with rfl | hq
      · exact tw_abb _ _
      · exact h q hq
  rcases lt_total a b with l | l | l
  · exact lin_of (m := a) (u := sub b a) (lp_sub.mpr l) fun q hq => by rw [← tw_cr]; exact all q hq
  · exact (n l).elim
  · refine lin_of (m := b) (u := sub a b) (lp_sub.mpr l) fun q hq => ?_
    rw [← tw_cr, tw_swap, all q hq]
    rfl
theorem lin_short {P : List Pl} (n : P.length ≤ 2) : Lin (· ∈ P) := by
  match P, n with
  | [], _ => intro a b c h; cases h
  | [x], _ =>
    intro a b c ha hb hc
    simp only [List.mem_singleton] at ha hb hc
    subst ha hb hc
    exact tw_aab _ _
  | [x, y], _ =>
    intro a b c ha hb hc
    simp only [List.mem_cons, List.not_mem_nil, or_false] at ha hb hc
    rcases ha with rfl | rfl <;> rcases hb with rfl | rfl <;> rcases hc with rfl | rfl <;> first | exact tw_aab _ _ | exact tw_abb _ _ | exact tw_aba _ _
end NK

/-! The walk, over the hand layer: the text, values, first defs. -/
namespace NW
open PySem PySem.Spec PyProof.Rows L2 NK
/-! ### the text -/
def topS (i : Nat) : Stmt := PySem.Challenge.pw_nearland_k36_whole_turned_to_the_net.main.body.getD i (.Pass ⟨0, 0, 0, 0⟩)
abbrev sTwice : Stmt := topS 4
abbrev sSign : Stmt := topS 5
abbrev sTurn : Stmt := topS 6
abbrev sHeight : Stmt := topS 8
/-! ### places as values -/
def Bd (p : Pl) : Prop := p.1.natAbs < 2 ^ 200 ∧ p.2.natAbs < 2 ^ 200
def PlV (H : Hp) (v : V) (p : Pl) : Prop := ∃ a, v = .ref a ∧ H a = some (.tup [.int p.1, .int p.2]) ∧ Bd p
theorem PlV.bd {H : Hp} {v : V} {p : Pl} (h : PlV H v p) : Bd p := let ⟨_, _, _, b⟩ := h; b
/-- all tuples stand -/
def TupS (H H' : Hp) : Prop := ∀ b xs, H b = some (.tup xs) → H' b = some (.tup xs)
theorem PlV.keep {H H' : Hp} {v : V} {p : Pl} (h : PlV H v p) (t : TupS H H') : PlV H' v p := let ⟨a, e, h, b⟩ := h; ⟨a, e, t _ _ h, b⟩
/-! ### big products -/
theorem bits_lt {i : Int} {k : Nat} (h : i.natAbs < 2 ^ k) : Builtin.Int.intBits i ≤ k := by
  unfold Builtin.Int.intBits
  split
  · omega
  · rename_i h0
    have h0' : i ≠ 0 := by simpa using h0
    have := (Nat.log2_lt (show i.natAbs ≠ 0 by omega)).mpr h
    omega
theorem lt_bits {i : Int} {k : Nat} (h : Builtin.Int.intBits i ≤ k) : i.natAbs < 2 ^ k := by
  unfold Builtin.Int.intBits at h
  split at h
  · rename_i h0
    have h0' : i = 0 := by simpa using h0
    subst h0'
    exact Nat.pow_pos (by decide)
  · rename_i h0
    have h0' : i ≠ 0 := by simpa using h0
    exact (Nat.log2_lt (show i.natAbs ≠ 0 by omega)).mp (by omega)
def CMulX (i j : Int) : Prop := IntMulOk i j
theorem mul_x {i j : Int} {a b : Nat} (ha : i.natAbs < 2 ^ a) (hb : j.natAbs < 2 ^ b) (h : a + b ≤ 2 ^ 26) : CMulX i j := by
  have h1 := bits_lt ha
  have h2 := bits_lt hb
  intro z
  rw [Bool.and_eq_true] at z
  have z2 := z.2
  unfold Builtin.Int.intTooBig at z2
  have z3 := of_decide_eq_true z2
  have e : bitsLine = 134217728 := by decide
  rw [e] at z3
  omega
section
variable {X : Cx}
theorem op_mulX : OpR X (binaryOp .Mult) (rI CMulX fun i j => .int (i * j)) := opI fun _ _ _ _ _ _ _ hc q => mul_int q hc
end
theorem sub_lt {i j : Int} {a : Nat} (ha : i.natAbs < 2 ^ a) (hb : j.natAbs < 2 ^ a) : (i - j).natAbs < 2 ^ (a + 1) := by rw [Nat.pow_succ]; omega
theorem add_lt {i j : Int} {a : Nat} (ha : i.natAbs < 2 ^ a) (hb : j.natAbs < 2 ^ a) : (i + j).natAbs < 2 ^ (a + 1) := by rw [Nat.pow_succ]; omega
theorem mul_lt {i j : Int} {a b : Nat} (ha : i.natAbs < 2 ^ a) (hb : j.natAbs < 2 ^ b) : (i * j).natAbs < 2 ^ (a + b) := by
  rw [Int.natAbs_mul, Nat.pow_add]
  exact Nat.mul_lt_mul'' ha hb
theorem bd_sub {p q : Pl} (hp : Bd p) (hq : Bd q) : (p.1 - q.1).natAbs < 2 ^ 201 ∧ (p.2 - q.2).natAbs < 2 ^ 201 := ⟨sub_lt hp.1 hq.1, sub_lt hp.2 hq.2⟩
theorem tw_bd {a b c : Pl} (ha : Bd a) (hb : Bd b) (hc : Bd c) : (tw a b c).natAbs < 2 ^ 403 := by
  unfold tw
  exact sub_lt (mul_lt (bd_sub hb ha).1 (bd_sub hc ha).2) (mul_lt (bd_sub hb ha).2 (bd_sub hc ha).1)
/-! ### rules in short -/
section
variable {X : Cx}
theorem pe_weak {e : Expr} {t t' : TE} (h : PE X e t) (f : ∀ σ H Q, t' σ H Q → t σ H Q) : PE X e t' := ⟨fun pins s σ H Q I hw => h.run pins s σ H Q I (f _ _ _ hw)⟩
/-- p[0], p[1] of a place -/
def tP0 (t : TE) : TE := fun σ H Q => t σ H fun v H1 => ∃ p, PlV H1 v p ∧ Q (.int p.1) H1
def tP1 (t : TE) : TE := fun σ H Q => t σ H fun v H1 => ∃ p, PlV H1 v p ∧ Q (.int p.2) H1
def MonoE (X : Cx) (e : Expr) (t : TE) : Prop := ∀ σ H (Q Q' : VK), (∀ v H', Q v H' → Q' v H') → t σ H Q → t σ H Q'
theorem pe_p0 {i : Nat} {x : Str} {pos : Pos} {k pos2 pos3} (h : PE X (.Name x pos) (tVar i)) : PE X (.Subscript (.Name x pos) (.Constant (.int 0) k pos2) pos3) (tP0 (tVar i)) :=
  pe_weak (pe_ix ix_tup h pe_int (fun _ _ => rfl)) fun σ H Q ⟨v, hv, p, ⟨a, e, ha, _⟩, q⟩ => ⟨v, hv, a, _, 0, _, e, rfl, SqT.of ha, atI_nat (j := 0) rfl, q⟩
theorem pe_p1 {i : Nat} {x : Str} {pos : Pos} {k pos2 pos3} (h : PE X (.Name x pos) (tVar i)) : PE X (.Subscript (.Name x pos) (.Constant (.int 1) k pos2) pos3) (tP1 (tVar i)) :=
  pe_weak (pe_ix ix_tup h pe_int (fun _ _ => rfl)) fun σ H Q ⟨v, hv, p, ⟨a, e, ha, _⟩, q⟩ => ⟨v, hv, a, _, 1, _, e, rfl, SqT.of ha, atI_nat (j := 1) rfl, q⟩
end
section
variable {P : Program} {w : World} {K : PySem.W.Frag} {mg : Str → Option Value} {base : Heap}
/-! ### twice -/
theorem scTwice : FnScope ["a", "b", "c"] ["a", "b", "c"] (defScope sTwice) := ⟨rfl, rfl, rfl, by decide +kernel, rfl, by decide +kernel, by decide +kernel⟩
def spTwice : Sp := fun vs H Q _ => ∃ (va vb vc : V) (a b c : Pl), vs = [va, vb, vc] ∧ PlV H va a ∧ PlV H vb b ∧ PlV H vc c ∧ Q (.int (tw a b c)) H
theorem ok_twice {f : Addr} {fd : FuncData} (F : Fun K "twice" "twice" sTwice f fd) : FnOk P w K mg base CX0 1 f fd ["a", "b", "c"] spTwice := by
  refine F.ok scTwice (fun vs H Q E h => ?_) (fun cdv A outer s H vs Q E hr h => ?_)
  · obtain ⟨va, vb, vc, a, b, c, rfl, _⟩ := h
    rfl
  · obtain ⟨va, vb, vc, a, b, c, rfl, ha, hb, hc, q⟩ := h
    have ba := ha.bd
    have bb := hb.bd
    have bc := hc.bd
    refine ⟨_, pss_one (ps_ret (pe_op op_sub
      (pe_op op_mulX (pe_op op_sub (pe_p0 (pv 1)) (pe_p0 (pv 0))) (pe_op op_sub (pe_p1 (pv 2)) (pe_p1 (pv 0))))
      (pe_op op_mulX (pe_op op_sub (pe_p1 (pv 1)) (pe_p1 (pv 0))) (pe_op op_sub (pe_p0 (pv 2)) (pe_p0 (pv 0)))))), ?_⟩
    refine ⟨_, rfl, b, hb, _, rfl, a, ha, _, _, rfl, rfl, _, rfl, c, hc, _, rfl, a, ha, _, _, rfl, rfl, _, _, rfl, rfl, mul_x (bd_sub bb ba).1 (bd_sub bc ba).2 (by decide), ?_⟩
    refine ⟨_, rfl, b, hb, _, rfl, a, ha, _, _, rfl, rfl, _, rfl, c, hc, _, rfl, a, ha, _, _, rfl, rfl, _, _, rfl, rfl, mul_x (bd_sub bb ba).2 (bd_sub bc ba).1 (by decide), _, _, rfl, rfl, q⟩
/-! ### sign_of, turn -/
theorem scSign : FnScope ["number"] ["number"] (defScope sSign) := ⟨rfl, rfl, rfl, by decide +kernel, rfl, by decide +kernel, by decide +kernel⟩
def spSign : Sp := fun vs H Q _ => ∃ n : Int, vs = [.int n] ∧ Q (.int (sgn n)) H
theorem ok_sign {f : Addr} {fd : FuncData} (F : Fun K "sign_of" "sign_of" sSign f fd) : FnOk P w K mg base CX0 1 f fd ["number"] spSign := by
  refine F.ok scSign (fun vs H Q E h => ?_) (fun cdv A outer s H vs Q E hr h => ?_)
  · obtain ⟨n, rfl, _⟩ := h
    rfl
  · obtain ⟨n, rfl, q⟩ := h
    refine ⟨_, pss_cons (ps_if (pt_cmpR op_gt (pv 0) pe_int (nomark _)) (pss_one (ps_ret pe_int)) pss_nil)
      (pss_cons (ps_if (pt_cmpR op_lt (pv 0) pe_int (nomark _)) (pss_one (ps_ret (pe_un un_neg pe_int))) pss_nil) (pss_one (ps_ret pe_int))), ?_⟩
    refine ⟨_, rfl, _, _, rfl, rfl, _, rfl, ite2 (fun h1 => ?_) (fun h1 => ?_)⟩
    · rw [sgn_pos (of_decide_eq_true h1)] at q
      exact q
    · have h1' := of_decide_eq_false (by simpa using h1 : decide ((0 : Int) < n) = false)
      refine ⟨_, rfl, _, _, rfl, rfl, _, rfl, ite2 (fun h2 => ?_) (fun h2 => ?_)⟩
      · rw [sgn_neg (of_decide_eq_true h2)] at q
        exact ⟨_, rfl, q⟩
      · have h2' := of_decide_eq_false (by simpa using h2 : decide (n < (0 : Int)) = false)
        rw [sgn_zero (by omega)] at q
        exact q
theorem scTurn : FnScope ["a", "b", "c"] ["a", "b", "c"] (defScope sTurn) := ⟨rfl, rfl, rfl, by decide +kernel, rfl, by decide +kernel, by decide +kernel⟩
def spTurn : Sp := fun vs H Q _ => ∃ (va vb vc : V) (a b c : Pl), vs = [va, vb, vc] ∧ PlV H va a ∧ PlV H vb b ∧ PlV H vc c ∧ Q (.int (turn a b c)) H
theorem ok_turn {f f1 f2 : Addr} {fd fd1 fd2 : FuncData} (F : Fun K "turn" "turn" sTurn f fd) (F1 : Fun K "sign_of" "sign_of" sSign f1 fd1) (F2 : Fun K "twice" "twice" sTwice f2 fd2) (b1 : Binds K fd1 ["number"] []) (b2 : Binds K fd2 ["a", "b", "c"] [])
    (g1 : mg "sign_of" = some (.ref f1)) (g2 : mg "twice" = some (.ref f2)) : FnOk P w K mg base CX0 2 f fd ["a", "b", "c"] spTurn := by
  refine F.ok scTurn (fun vs H Q E h => ?_) (fun cdv A outer s H vs Q E hr h => ?_)
  · obtain ⟨va, vb, vc, a, b, c, rfl, _⟩ := h
    rfl
  · obtain ⟨va, vb, vc, a, b, c, rfl, ha, hb, hc, q⟩ := h
    refine ⟨_, pss_one (ps_ret (pe_call (ok_sign F1) hr (by rfl) g1 F1.kp b1 .nil pass0 (pa_cons (pe_call (ok_twice F2) hr (by rfl) g2 F2.kp b2 .nil pass0 (pa_cons (pv 0) (pa_cons (pv 1) (pa_cons (pv 2) pa_nil)))) pa_nil))), ?_⟩
    exact ⟨_, rfl, _, rfl, _, rfl, va, vb, vc, a, b, c, rfl, ha, hb, hc, _, rfl, q⟩
end
end NW

/-! Places, sides and triangles as data: ==, in, <, sorted, min, max. -/
namespace NW
open PySem PySem.Spec PyProof.Rows L2 NK
open PySem.W (alike alikeAll dataLt dataLt_tuple rcLt_alike AllAlike Sortable EachIs dataLe dataLe_eq)
/-- how things of one kind stand in the heap, and as data -/
structure Enc (α : Type) [DecidableEq α] where
  rep : Hp → V → α → Prop
  d : α → PyData
  less : α → α → Bool
  ref : ∀ {H v x}, rep H v x → ∃ a, v = .ref a
  dp : ∀ {K H v x}, rep H v x → Dp K H v (d x)
  keep : ∀ {H H' v x}, rep H v x → TupS H H' → rep H' v x
  alk : ∀ x y, alike (d x) (d y) = true
  tup : ∀ x, ∃ y r, d x = .tuple (y :: r)
  dep : ∀ x, (d x).depth ≤ 4
  lay : ∀ x, (d x).canLay0 = true
  eqv : ∀ x y, PyData.eqv (d x) (d y) = decide (x = y)
  lt : ∀ x y, dataLt (d x) (d y) = less x y
def Enc.le {α : Type} [DecidableEq α] (E : Enc α) : α → α → Bool := fun x y => !E.less y x
theorem Enc.shaped {α : Type} [DecidableEq α] (E : Enc α) (x : α) : SeqAt.shaped (E.d x) = true := by
  have h := E.dep x
  show ((E.d x).canLay0 && decide ((E.d x).depth ≤ 64)) = true
  rw [E.lay, decide_eq_true (by omega)]
  rfl
theorem Enc.lays {α : Type} [DecidableEq α] (E : Enc α) : ∀ xs : List α, PyData.canLayAll0 (xs.map E.d) = true
  | [] => by simp [PyData.canLayAll0]
  | x :: xs => by simp [PyData.canLayAll0, E.lay x, E.lays xs]
theorem Enc.deps {α : Type} [DecidableEq α] (E : Enc α) : ∀ xs : List α, PyData.depthAll (xs.map E.d) ≤ 4
  | [] => by simp [PyData.depthAll]
  | x :: xs => by
    have h1 := E.deps xs
    have h2 := E.dep x
    simp only [List.map_cons, PyData.depthAll]
    omega
theorem Enc.shapedL {α : Type} [DecidableEq α] (E : Enc α) (xs : List α) : SeqAt.shaped (.list (xs.map E.d)) = true := by
  have h := E.deps xs
  have h2 : PyData.depth (.list (xs.map E.d)) ≤ 64 := by
    simp only [PyData.depth]
    omega
  show (PyData.canLay0 (.list (xs.map E.d)) && decide (PyData.depth (.list (xs.map E.d)) ≤ 64)) = true
  rw [decide_eq_true h2, Bool.and_true]
  simp only [PyData.canLay0]
  exact E.lays xs
theorem Enc.eqvAll {α : Type} [DecidableEq α] (E : Enc α) : ∀ xs ys : List α, PyData.eqvAll (xs.map E.d) (ys.map E.d) = decide (xs = ys)
  | [], [] => by simp [PyData.eqvAll]
  | [], y :: ys => by simp [PyData.eqvAll]
  | x :: xs, [] => by simp [PyData.eqvAll]
  | x :: xs, y :: ys => by
    rw [List.map_cons, List.map_cons, PyData.eqvAll, E.eqv, E.eqvAll xs ys]
    by_cases h1 : x = y <;> by_cases h2 : xs = ys <;> simp [h1, h2]
theorem Enc.anyE {α : Type} [DecidableEq α] (E : Enc α) (x : α) : ∀ xs : List α, ((xs.map E.d).any fun z => PyData.eqv z (E.d x)) = decide (x ∈ xs)
  | [] => by simp
  | y :: ys => by
    rw [List.map_cons, List.any_cons, E.eqv, E.anyE x ys]
    by_cases h1 : y = x
    · simp [h1]
    · by_cases h2 : x ∈ ys
      · simp [h2]
      · have h3 : ¬ x = y := fun h => h1 h.symm
        simp [h1, h2, h3]

/-! ### the three kinds -/
def plD (p : Pl) : PyData := .tuple [.int p.1, .int p.2]
def sdD (s : Sd) : PyData := .tuple [plD s.1, plD s.2]
def trD (t : Tri) : PyData := .tuple [plD t.1, plD t.2.1, plD t.2.2]
theorem plD_eqv (p q : Pl) : PyData.eqv (plD p) (plD q) = decide (p = q) := by
  obtain ⟨a, b⟩ := p
  obtain ⟨c, d⟩ := q
  have e : PyData.eqv (plD (a, b)) (plD (c, d)) = ((a == c) && ((b == d) && true)) := by simp only [plD, PyData.eqv, PyData.eqvAll]
  rw [e]
  by_cases h1 : a = c <;> by_cases h2 : b = d <;> simp [h1, h2]
theorem plD_dep (p : Pl) : (plD p).depth = 1 := by simp [plD, PyData.depth, PyData.depthAll]
theorem plD_alk (p q : Pl) : alike (plD p) (plD q) = true := by simp [plD, alike, alikeAll]
theorem plD_lt (p q : Pl) : dataLt (plD p) (plD q) = decide (lt p q) := PySem.W.dataLt_ii p.1 p.2 q.1 q.2
def SdV (H : Hp) (v : V) (s : Sd) : Prop := ∃ a u w, v = .ref a ∧ H a = some (.tup [u, w]) ∧ PlV H u s.1 ∧ PlV H w s.2
def TrV (H : Hp) (v : V) (t : Tri) : Prop := ∃ a u w x, v = .ref a ∧ H a = some (.tup [u, w, x]) ∧ PlV H u t.1 ∧ PlV H w t.2.1 ∧ PlV H x t.2.2
theorem PlV.dp {K : PySem.W.Frag} {H : Hp} {v : V} {p : Pl} (h : PlV H v p) : Dp K H v (plD p) := by
  obtain ⟨a, rfl, e, _⟩ := h
  exact .tup (SqT.of e) (.cons (.int _) (.cons (.int _) .nil))
theorem SdV.keep {H H' : Hp} {v : V} {s : Sd} (h : SdV H v s) (t : TupS H H') : SdV H' v s := let ⟨a, u, w, e, h, h1, h2⟩ := h; ⟨a, u, w, e, t _ _ h, h1.keep t, h2.keep t⟩
theorem TrV.keep {H H' : Hp} {v : V} {s : Tri} (h : TrV H v s) (t : TupS H H') : TrV H' v s := let ⟨a, u, w, x, e, h, h1, h2, h3⟩ := h; ⟨a, u, w, x, e, t _ _ h, h1.keep t, h2.keep t, h3.keep t⟩
def ePl : Enc Pl where
  rep := PlV
  d := plD
  less := fun p q => decide (lt p q)
  ref := fun ⟨a, e, _⟩ => ⟨a, e⟩
  dp := PlV.dp
  keep := PlV.keep
  alk := plD_alk
  tup := fun p => ⟨_, _, rfl⟩
  dep := fun p => by rw [plD_dep]; omega
  lay := fun p => by simp [plD, PyData.canLay0, PyData.canLayAll0]
  eqv := plD_eqv
  lt := plD_lt
theorem sdD_lt (s t : Sd) : dataLt (sdD s) (sdD t) = decide (ltS s t) := by
  unfold sdD
  rw [PySem.W.dataLt_pair (plD_alk _ _) (plD_alk _ _), plD_eqv, plD_eqv, plD_lt, plD_lt]
  by_cases h1 : s.1 = t.1
  · have k : ltS s t ↔ lt s.2 t.2 := ⟨fun h => h.elim (fun h => absurd h (by rw [h1]; exact lt_irrefl _)) (·.2), fun h => .inr ⟨h1, h⟩⟩
    rw [if_pos (decide_eq_true h1)]
    by_cases h2 : s.2 = t.2
    · rw [if_pos (decide_eq_true h2)]
      exact (decide_eq_false fun h => absurd (k.mp h) (by rw [h2]; exact lt_irrefl _)).symm
    · rw [if_neg (by simpa using h2)]
      exact decide_eq_decide.mpr k.symm
  · have k : ltS s t ↔ lt s.1 t.1 := ⟨fun h => h.elim id fun h => absurd h.1 h1, .inl⟩
    rw [if_neg (by simpa using h1)]
    exact decide_eq_decide.mpr k.symm
theorem trD_lt (s t : Tri) : dataLt (trD s) (trD t) = decide (ltT s t) := by
  have e := sdD_lt s.2 t.2
  unfold sdD at e
  rw [dataLt_tuple] at e
  unfold trD
  rw [dataLt_tuple, PySem.W.dataLt_cons (plD_alk _ _), plD_eqv, plD_lt, e]
  by_cases h1 : s.1 = t.1
  · have k : ltT s t ↔ ltS s.2 t.2 := ⟨fun h => h.elim (fun h => absurd h (by rw [h1]; exact lt_irrefl _)) (·.2), fun h => .inr ⟨h1, h⟩⟩
    rw [if_pos (decide_eq_true h1)]
    exact decide_eq_decide.mpr k.symm
  · have k : ltT s t ↔ lt s.1 t.1 := ⟨fun h => h.elim id fun h => absurd h.1 h1, .inl⟩
    rw [if_neg (by simpa using h1)]
    exact decide_eq_decide.mpr k.symm
def eSd : Enc Sd where
  rep := SdV
  d := sdD
  less := fun s t => decide (ltS s t)
  ref := fun ⟨a, _, _, e, _⟩ => ⟨a, e⟩
  dp := fun ⟨a, u, w, e, h, h1, h2⟩ => by subst e; exact .tup (SqT.of h) (.cons h1.dp (.cons h2.dp .nil))
  keep := SdV.keep
  alk := fun s t => by simp [sdD, alike, alikeAll, plD_alk]
  tup := fun p => ⟨_, _, rfl⟩
  dep := fun p => by simp [sdD, PyData.depth, PyData.depthAll, plD_dep]
  lay := fun p => by simp [sdD, plD, PyData.canLay0, PyData.canLayAll0]
  eqv := fun s t => by
    simp only [sdD, PyData.eqv, PyData.eqvAll, plD_eqv]
    obtain ⟨a, b⟩ := s
    obtain ⟨c, d⟩ := t
    by_cases h1 : a = c <;> by_cases h2 : b = d <;> simp [h1, h2]
  lt := sdD_lt
def eTr : Enc Tri where
  rep := TrV
  d := trD
  less := fun s t => decide (ltT s t)
  ref := fun ⟨a, _, _, _, e, _⟩ => ⟨a, e⟩
  dp := fun ⟨a, u, w, x, e, h, h1, h2, h3⟩ => by subst e; exact .tup (SqT.of h) (.cons h1.dp (.cons h2.dp (.cons h3.dp .nil)))
  keep := TrV.keep
  alk := fun s t => by simp [trD, alike, alikeAll, plD_alk]
  tup := fun p => ⟨_, _, rfl⟩
  dep := fun p => by simp [trD, PyData.depth, PyData.depthAll, plD_dep]
  lay := fun p => by simp [trD, plD, PyData.canLay0, PyData.canLayAll0]
  eqv := fun s t => by
    simp only [trD, PyData.eqv, PyData.eqvAll, plD_eqv]
    obtain ⟨a, b, c⟩ := s
    obtain ⟨a', b', c'⟩ := t
    by_cases h1 : a = a' <;> by_cases h2 : b = b' <;> by_cases h3 : c = c' <;> simp [h1, h2, h3]
  lt := trD_lt

/-! ### lists of them -/
section
variable {α : Type} [DecidableEq α] (E : Enc α)
def LsV (H : Hp) (a : Addr) (xs : List α) : Prop := ∃ us, H a = some (.lst us) ∧ Paired (E.rep H) us xs
theorem reps_keep {E : Enc α} {H H' : Hp} (t : TupS H H') : ∀ {us : List V} {xs : List α}, Paired (E.rep H) us xs → Paired (E.rep H') us xs
  | _, _, .nil => .nil
  | _, _, .cons h r => .cons (E.keep h t) (reps_keep t r)
theorem LsV.keep {E : Enc α} {H H' : Hp} {a : Addr} {xs : List α} (h : LsV E H a xs) (t : TupS H H') (e : H' a = H a) : LsV E H' a xs := let ⟨us, h1, h2⟩ := h; ⟨us, by rw [e]; exact h1, reps_keep t h2⟩
theorem reps_dp {E : Enc α} {K : PySem.W.Frag} {H : Hp} : ∀ {us : List V} {xs : List α}, Paired (E.rep H) us xs → DpAll K H us (xs.map E.d)
  | _, _, .nil => .nil
  | _, _, .cons h r => .cons (E.dp h) (reps_dp r)
theorem LsV.dp {E : Enc α} {K : PySem.W.Frag} {H : Hp} {a : Addr} {xs : List α} (h : LsV E H a xs) : Dp K H (.ref a) (.list (xs.map E.d)) := let ⟨us, h1, h2⟩ := h; .lst (SqL.of h1) (reps_dp h2)
theorem reps_get {F : V → α → Prop} : ∀ {us : List V} {xs : List α} {i : Nat} {u : V}, Paired F us xs → us[i]? = some u → ∃ x, xs[i]? = some x ∧ F u x
  | _, _, _, _, .nil, e => by simp at e
  | _, _, 0, _, .cons h _, e => by simp at e; subst e; exact ⟨_, rfl, h⟩
  | _, _, i + 1, u, .cons _ r, e => by
    obtain ⟨x, h1, h2⟩ := reps_get (i := i) (u := u) r (by simpa using e)
    exact ⟨x, by simpa using h1, h2⟩
theorem reps_get' {F : V → α → Prop} : ∀ {us : List V} {xs : List α} {i : Nat} {x : α}, Paired F us xs → xs[i]? = some x → ∃ u, us[i]? = some u ∧ F u x
  | _, _, _, _, .nil, e => by simp at e
  | _, _, 0, _, .cons h _, e => by simp at e; subst e; exact ⟨_, rfl, h⟩
  | _, _, i + 1, x, .cons _ r, e => by
    obtain ⟨u, h1, h2⟩ := reps_get' (i := i) (x := x) r (by simpa using e)
    exact ⟨u, by simpa using h1, h2⟩
end

/-! ### rules -/
section
variable {X : Cx} {α : Type} [DecidableEq α] (E : Enc α)
theorem opR_weak {f : Value → Value → Sem Value} {r r' : R2} (h : OpR X f r) (g : ∀ x y H Q, r' x y H Q → r x y H Q) : OpR X f r' := fun pins s σ H x y v u Q I rx ry q => h pins s σ H x y v u Q I rx ry (g _ _ _ _ q)
def rEqE : R2 := fun x y H Q => ∃ a b, E.rep H x a ∧ E.rep H y b ∧ Q (.bl (decide (a = b))) H
def rNeE : R2 := fun x y H Q => ∃ a b, E.rep H x a ∧ E.rep H y b ∧ Q (.bl (!decide (a = b))) H
theorem op_eqE (hu : X.A.units + 64 < cLine) : OpR X (compareOp .Eq) (rEqE E) := opR_weak (op_eqD hu) fun x y H Q ⟨a, b, ha, hb, q⟩ => ⟨_, _, E.dp ha, E.dp hb, E.shaped a, E.shaped b, by rw [E.eqv]; exact q⟩
theorem op_neE (hu : X.A.units + 64 < cLine) : OpR X (compareOp .NotEq) (rNeE E) := opR_weak (op_neD hu) fun x y H Q ⟨a, b, ha, hb, q⟩ => ⟨_, _, E.dp ha, E.dp hb, E.shaped a, E.shaped b, by rw [E.eqv]; exact q⟩
def rEqL : R2 := fun x y H Q => ∃ a b xs ys, x = .ref a ∧ y = .ref b ∧ LsV E H a xs ∧ LsV E H b ys ∧ Q (.bl (decide (xs = ys))) H
def rNeL : R2 := fun x y H Q => ∃ a b xs ys, x = .ref a ∧ y = .ref b ∧ LsV E H a xs ∧ LsV E H b ys ∧ Q (.bl (!decide (xs = ys))) H
theorem eqvL (xs ys : List α) : PyData.eqv (.list (xs.map E.d)) (.list (ys.map E.d)) = decide (xs = ys) := by
  simp only [PyData.eqv]
  exact E.eqvAll xs ys
theorem op_eqL (hu : X.A.units + 64 < cLine) : OpR X (compareOp .Eq) (rEqL E) := opR_weak (op_eqD hu) fun x y H Q ⟨a, b, xs, ys, e1, e2, ha, hb, q⟩ => by
  subst e1 e2
  exact ⟨_, _, ha.dp, hb.dp, E.shapedL xs, E.shapedL ys, by rw [eqvL]; exact q⟩
theorem op_neL (hu : X.A.units + 64 < cLine) : OpR X (compareOp .NotEq) (rNeL E) := opR_weak (op_neD hu) fun x y H Q ⟨a, b, xs, ys, e1, e2, ha, hb, q⟩ => by
  subst e1 e2
  exact ⟨_, _, ha.dp, hb.dp, E.shapedL xs, E.shapedL ys, by rw [eqvL]; exact q⟩
def rInL : R2 := fun x y H Q => ∃ p a xs, E.rep H x p ∧ y = .ref a ∧ LsV E H a xs ∧ Q (.bl (decide (p ∈ xs))) H
def rNotInL : R2 := fun x y H Q => ∃ p a xs, E.rep H x p ∧ y = .ref a ∧ LsV E H a xs ∧ Q (.bl (!decide (p ∈ xs))) H
theorem op_inL (hu : X.A.units + 65 < cLine) : OpR X (compareOp .In) (rInL E) := opR_weak (op_inD hu) fun x y H Q ⟨p, a, xs, hp, e, ha, q⟩ => by
  subst e
  exact ⟨_, _, E.dp hp, ha.dp, E.shaped p, E.shapedL xs, by rw [E.anyE]; exact q⟩
theorem op_notInL (hu : X.A.units + 65 < cLine) : OpR X (compareOp .NotIn) (rNotInL E) := opR_weak (op_notInD hu) fun x y H Q ⟨p, a, xs, hp, e, ha, q⟩ => by
  subst e
  exact ⟨_, _, E.dp hp, ha.dp, E.shaped p, E.shapedL xs, by rw [E.anyE]; exact q⟩
/-- in a tuple of them -/
def rInT : R2 := fun x y H Q => ∃ p a us xs, E.rep H x p ∧ y = .ref a ∧ H a = some (.tup us) ∧ Paired (E.rep H) us xs ∧ Q (.bl (decide (p ∈ xs))) H
theorem op_inT (hu : X.A.units + 64 < cLine) : OpR X (compareOp .In) (rInT E) := by
  intro pins s σ H x y v u Q I rx ry h
  obtain ⟨p, a, us, xs, hp, rfl, ha, hs, q⟩ := h
  obtain ⟨as, r1⟩ := Dp.reads I _ x v (E.dp hp) rx
  obtain ⟨bs, r2⟩ := Dp.reads I (.tuple (xs.map E.d)) (.ref a) u (.tup (SqT.of ha) (reps_dp hs)) ry
  refine SeqAt.in_tuple_reads r2 r1 (E.lays xs) (E.lay p) ?_ ⟨.bl _, H, I, rfl, by rw [E.anyE]; exact q⟩
  have := E.deps xs
  omega
theorem op_notInT (hu : X.A.units + 64 < cLine) : OpR X (compareOp .NotIn) (fun x y H Q => ∃ p a us xs, E.rep H x p ∧ y = .ref a ∧ H a = some (.tup us) ∧ Paired (E.rep H) us xs ∧ Q (.bl (!decide (p ∈ xs))) H) := by
  intro pins s σ H x y v u Q I rx ry h
  obtain ⟨p, a, us, xs, hp, rfl, ha, hs, q⟩ := h
  obtain ⟨as, r1⟩ := Dp.reads I _ x v (E.dp hp) rx
  obtain ⟨bs, r2⟩ := Dp.reads I (.tuple (xs.map E.d)) (.ref a) u (.tup (SqT.of ha) (reps_dp hs)) ry
  refine SeqAt.notIn_tuple_reads r2 r1 (E.lays xs) (E.lay p) ?_ ⟨.bl _, H, I, rfl, by rw [E.anyE]; exact q⟩
  have := E.deps xs
  omega
/-- a < b -/
def rLtE : R2 := fun x y H Q => ∃ a b, E.rep H x a ∧ E.rep H y b ∧ Q (.bl (E.less a b)) H
theorem op_ltE (hu : X.A.units + 64 < cLine) : OpR X (compareOp .Lt) (rLtE E) := by
  intro pins s σ H x y v u Q I rx ry h
  obtain ⟨a, b, ha, hb, q⟩ := h
  obtain ⟨as, r1⟩ := Dp.reads I _ x v (E.dp ha) rx
  obtain ⟨bs, r2⟩ := Dp.reads I _ y u (E.dp hb) ry
  have ne : E.d a ≠ .none := by
    obtain ⟨_, _, e⟩ := E.tup a
    rw [e]
    exact fun z => nomatch z
  refine PySem.W.rcLt_alike _ _ X.A s v u _ _ r1 r2 (E.alk a b) ne ?_ X.prog X.w _ _ ?_
  · have := E.dep a
    have := Nat.min_le_left (E.d a).depth (E.d b).depth
    omega
  · rw [E.lt]
    exact ⟨.bl _, H, I, rfl, q⟩
end
end NW

/-! sorted, min, max, list(reversed(..)) of places, sides, triangles. -/
namespace NW
open PySem PySem.Spec PyProof.Rows L2 NK
open PySem.W (alike alikeAll dataLt dataLt_tuple rcLt_alike AllAlike Sortable EachIs dataLe dataLe_eq AlikeAll iter_tupleW cmpIn_lt cmpIn_gt moved_old)

/-! ### sorted -/
section
variable {α : Type} [DecidableEq α] (E : Enc α)
theorem zip_each {R : Value → V × α → Prop} {F : V → α → Prop} : ∀ {us : List V} {its : List Value} {xs : List α}, Vals us its → Paired F us xs → (∀ u v x, RelV u v → F u x → R v (u, x)) → EachIs R its (us.zip xs)
  | _, _, _, .nil, .nil, _ => .nil
  | _, _, _, .cons r rs, .cons f fs, h => .cons (h _ _ _ r f) (zip_each rs fs h)
theorem zip_fst {F : V → α → Prop} : ∀ {us : List V} {xs : List α}, Paired F us xs → (us.zip xs).map (·.1) = us ∧ (us.zip xs).map (·.2) = xs ∧ ∀ p ∈ us.zip xs, F p.1 p.2
  | _, _, .nil => ⟨rfl, rfl, fun p h => by cases h⟩
  | _, _, .cons h r => by
    obtain ⟨e1, e2, e3⟩ := zip_fst r
    refine ⟨by rw [List.zip_cons_cons, List.map_cons, e1], by rw [List.zip_cons_cons, List.map_cons, e2], fun p hp => ?_⟩
    rcases List.mem_cons.mp (by rw [List.zip_cons_cons] at hp; exact hp) with rfl | hp
    · exact h
    · exact e3 p hp
theorem paired_of {F : V → α → Prop} : ∀ l : List (V × α), (∀ p ∈ l, F p.1 p.2) → Paired F (l.map (·.1)) (l.map (·.2))
  | [], _ => .nil
  | p :: l, h => .cons (h p List.mem_cons_self) (paired_of l fun q hq => h q (List.mem_cons_of_mem _ hq))
theorem vals_each {R : Value → V × α → Prop} : ∀ {out : List Value} {bs : List (V × α)}, EachIs R out bs → (∀ v b, R v b → RelV b.1 v) → Vals (bs.map (·.1)) out
  | _, _, .nil, _ => .nil
  | _, _, .cons h t, f => .cons (f _ _ h) (vals_each t f)
def srt (xs : List α) : List α := xs.mergeSort E.le
variable {X : Cx}
def rSortE : List V → Hp → VK → Prop := fun vs H Q => ∃ (a : Addr) (xs : List α), vs = [.ref a] ∧ LsV E H a xs ∧ ∀ p us, H p = none → Paired (E.rep H) us (srt E xs) → Q (.ref p) (upd H p (.lst us))
theorem cr_sortE (hu : X.A.units + 64 < cLine) : CallR X (.builtin "sorted") (rSortE E) := by
  intro pins s σ H vs us Q I r h
  obtain ⟨a, xs, rfl, ⟨ws, ha, hp⟩, q⟩ := h
  obtain ⟨its, rv, hl, hz⟩ := I.list (SqL.of ha)
  rw [Vals.ref1 r]
  obtain ⟨z1, z2, z3⟩ := zip_fst hp
  let enc : V × α → PyData := fun p => E.d p.2
  have hlen : (ws.zip xs).length = ws.length := by rw [← List.length_map (f := (·.1)), z1]
  have e1 : EachIs (fun v (p : V × α) => RelV p.1 v) its (ws.zip xs) := zip_each rv hp fun u v x r _ => r
  have er : EachIs (fun v (p : V × α) => ∃ as, Reads s.heap v (enc p) as) its (ws.zip xs) := zip_each rv hp fun u v x r f => Dp.reads I _ u v (E.dp f) r
  refine PySem.W.sorted_data (enc := enc) hl.isList e1 er (AllAlike.of fun p q => E.alk _ _) (Sortable.tuples fun p => E.tup _) (by rw [hlen]; exact hz) (fun p _ => by have := E.dep p.2; show X.A.units + 2 + (E.d p.2).depth < cLine; omega) fun out ho eo => ?_
  obtain ⟨ep, he'⟩ := PyProof.Rows.sortedAll_at s.heap its out.toArray
  have vo := vals_each eo fun v b h => h
  have e2 : ((ws.zip xs).mergeSort (dataLe false enc)).map (·.2) = srt E xs := by
    have k : ((ws.zip xs).mergeSort (dataLe false enc)).map (·.2) = ((ws.zip xs).map (·.2)).mergeSort E.le := by
      refine List.map_mergeSort fun p _ q _ => ?_
      rw [dataLe_eq]
      show (!dataLt (E.d q.2) (E.d p.2)) = !E.less q.2 p.2
      rw [E.lt]
    rw [k, z2]
    rfl
  have pr : Paired (E.rep H) (((ws.zip xs).mergeSort (dataLe false enc)).map (·.1)) (srt E xs) := by
    rw [← e2]
    exact paired_of _ fun p hp => z3 p (List.mem_mergeSort.mp hp)
  have hlo : (((ws.zip xs).mergeSort (dataLe false enc)).map (·.1)).length ≤ sizeLine := by
    rw [List.length_map, List.length_mergeSort, hlen]; exact hz
  exact ⟨.ref _, upd H (s.heap.objs.size + 1) (.lst _), I.laid (t' := s.toks) (fun _ _ => PyProof.Rows.sortedAll_old) (Nat.le_succ _) ⟨hlo, out, ep, vo, he'⟩, rfl, q _ _ (I.hok.fresh (Nat.le_succ _)) pr⟩
end

/-! ### min, max of arguments -/
section
variable {prog : Program} {w : World} {A : Around} {E : Value → Shared → Prop} {s : Shared}
theorem min_args {a b : Value} {r : List Value} {xs : List PyData} {as : List Addr} {Q : Value → Shared → Prop} (hh : A.handled = none) (hr : ReadsAll s.heap (a :: b :: r) xs as) (ha : AlikeAll xs) (hu : A.units + 1 + PyData.depthAll xs < cLine) (ok : argsOk "min" ⟨a :: b :: r, []⟩) (hz : (a :: b :: r).length ≤ 100)
    (h : ∀ v h' tk, (a :: b :: r)[argBest (fun i j => dataLt (xs.getD i .none) (xs.getD j .none)) (r.length + 1)]? = some v → (∀ b o, s.heap.get? b = some o → h'.get? b = some o) → Q v { s with heap := h', toks := tk }) :
    wpAny (model prog w) A (call (.builtin "min") (a :: b :: r)) Q E s := by
  have hname : (toString "min" ++ toString ".loop" : String) = "min.loop" := by decide
  refine call_function_tree PySem.F.kind_min PySem.F.plain_min PySem.F.entry_min ok ?_
  show wpAny _ A.in1 (Builtin.Builtins.bindParams "min" ["key", "default"] 0 ⟨[], []⟩ >>= _) _ _ s
  refine wpAny_bind (wpAny_of_eq (show Builtin.Builtins.bindParams "min" ["key", "default"] 0 ⟨[], []⟩ = pure [none, none] from rfl) ?_)
  show wpAny _ A.in1 (newTuple (a :: b :: r) >>= _) _ _ s
  have hsz : (a :: b :: r).toArray.size ≤ sizeLine := by rw [List.size_toArray, sizeLine_eq]; omega
  refine wpAny_bind (wpAny_newObj_type ?_ (by exact hsz))
  have hT : (s.heap.push { cls := .type "tuple", data := .seq (a :: b :: r).toArray }).IsTuple s.heap.objs.size (a :: b :: r).toArray := ⟨_, Heap.get?_push_size _ rfl, rfl, 0, rfl⟩
  refine wpAny_bind (iter_tupleW (s := { s with heap := s.heap.push { cls := .type "tuple", data := .seq (a :: b :: r).toArray } }) (A := A.in1) hh hT fun s₂ e W st hfp hw hk => ?_)
  refine wpAny_bind (wpAny_newObj_type ?_)
  have hSf : s₂.heap.objs.size ∉ [_, _] := fun hm => Nat.lt_irrefl _ (hfp _ hm)
  rw [hname]
  have keep0 : ∀ b o, s.heap.get? b = some o → s₂.heap.get? b = some o := fun b o e => hk b o (Heap.get?_push_of_some _ e)
  have hw0 : ∀ b o, s.heap.get? b = some o → b ∉ _ := fun b o e => hw b o (Heap.get?_push_of_some _ e)
  refine wpAny_pure ⟨plainId_quiet PySem.F.plain_min_loop _, codeAny_min_loop_firstH W s.heap hw0 _ (cmpIn_lt (s := s) (vs := (a :: b :: r).toArray) (A := A.in1) (by simpa using hr) ha (by show A.units + 1 + _ < _; exact hu)) s₂.heap.objs.size hSf (fresh_in keep0) _ (by simp)
    (fun b o e => Heap.get?_push_of_some _ (keep0 b o e)) (W.frame 0 s₂ _ s₂.toks st (Nat.le_refl _) fun b _ o e => Heap.get?_push_of_some _ e) (Heap.get?_push_size _ rfl) fun v s' hP hm => ?_⟩
  have m := Moved.drop_new (tk := s₂.toks) hm (Nat.le_refl _)
  obtain ⟨h', tk, rfl, hk'⟩ := moved_old e rfl m
  refine h v h' tk ?_ (fun b o e => hk' b o (Heap.get?_push_of_some _ e))
  simpa using hP
theorem max_args {a b : Value} {r : List Value} {xs : List PyData} {as : List Addr} {Q : Value → Shared → Prop} (hh : A.handled = none) (hr : ReadsAll s.heap (a :: b :: r) xs as) (ha : AlikeAll xs) (hu : A.units + 1 + PyData.depthAll xs < cLine) (ok : argsOk "max" ⟨a :: b :: r, []⟩) (hz : (a :: b :: r).length ≤ 100)
    (h : ∀ v h' tk, (a :: b :: r)[argBest (fun i j => dataLt (xs.getD j .none) (xs.getD i .none)) (r.length + 1)]? = some v → (∀ b o, s.heap.get? b = some o → h'.get? b = some o) → Q v { s with heap := h', toks := tk }) :
    wpAny (model prog w) A (call (.builtin "max") (a :: b :: r)) Q E s := by
  have hname : (toString "max" ++ toString ".loop" : String) = "max.loop" := by decide
  refine call_function_tree PySem.F.kind_max PySem.F.plain_max PySem.F.entry_max ok ?_
  show wpAny _ A.in1 (Builtin.Builtins.bindParams "max" ["key", "default"] 0 ⟨[], []⟩ >>= _) _ _ s
  refine wpAny_bind (wpAny_of_eq (show Builtin.Builtins.bindParams "max" ["key", "default"] 0 ⟨[], []⟩ = pure [none, none] from rfl) ?_)
  show wpAny _ A.in1 (newTuple (a :: b :: r) >>= _) _ _ s
  have hsz : (a :: b :: r).toArray.size ≤ sizeLine := by rw [List.size_toArray, sizeLine_eq]; omega
  refine wpAny_bind (wpAny_newObj_type ?_ (by exact hsz))
  have hT : (s.heap.push { cls := .type "tuple", data := .seq (a :: b :: r).toArray }).IsTuple s.heap.objs.size (a :: b :: r).toArray := ⟨_, Heap.get?_push_size _ rfl, rfl, 0, rfl⟩
  refine wpAny_bind (iter_tupleW (s := { s with heap := s.heap.push { cls := .type "tuple", data := .seq (a :: b :: r).toArray } }) (A := A.in1) hh hT fun s₂ e W st hfp hw hk => ?_)
  refine wpAny_bind (wpAny_newObj_type ?_)
  have hSf : s₂.heap.objs.size ∉ [_, _] := fun hm => Nat.lt_irrefl _ (hfp _ hm)
  rw [hname]
  have keep0 : ∀ b o, s.heap.get? b = some o → s₂.heap.get? b = some o := fun b o e => hk b o (Heap.get?_push_of_some _ e)
  have hw0 : ∀ b o, s.heap.get? b = some o → b ∉ _ := fun b o e => hw b o (Heap.get?_push_of_some _ e)
  refine wpAny_pure ⟨plainId_quiet PySem.F.plain_max_loop _, codeAny_max_loop_firstH W s.heap hw0 _ (cmpIn_gt (s := s) (vs := (a :: b :: r).toArray) (A := A.in1) (by simpa using hr) ha (by show A.units + 1 + _ < _; exact hu)) s₂.heap.objs.size hSf (fresh_in keep0) _ (by simp)
    (fun b o e => Heap.get?_push_of_some _ (keep0 b o e)) (W.frame 0 s₂ _ s₂.toks st (Nat.le_refl _) fun b _ o e => Heap.get?_push_of_some _ e) (Heap.get?_push_size _ rfl) fun v s' hP hm => ?_⟩
  have m := Moved.drop_new (tk := s₂.toks) hm (Nat.le_refl _)
  obtain ⟨h', tk, rfl, hk'⟩ := moved_old e rfl m
  refine h v h' tk ?_ (fun b o e => hk' b o (Heap.get?_push_of_some _ e))
  simpa using hP
end
theorem plD_all {xs : List Pl} : AlikeAll (xs.map plD) := by
  constructor
  · intro x hx y hy
    obtain ⟨a, _, rfl⟩ := List.mem_map.mp hx
    obtain ⟨b, _, rfl⟩ := List.mem_map.mp hy
    exact plD_alk a b
  · intro x hx
    obtain ⟨a, _, rfl⟩ := List.mem_map.mp hx
    exact fun z => nomatch z
theorem args_min3 (a b c : Value) : argsOk "min" ⟨[a, b, c], []⟩ := by unfold argsOk; kernel_rfl
section
variable {X : Cx}
theorem vals3 {x y z : V} {us : List Value} (r : Vals [x, y, z] us) : ∃ u v w', us = [u, v, w'] ∧ RelV x u ∧ RelV y v ∧ RelV z w' := by
  cases r with
  | cons h1 t =>
    obtain ⟨v, w', rfl, h2, h3⟩ := vals2 t
    exact ⟨_, v, w', rfl, h1, h2, h3⟩
theorem cr_min2 (hc : X.calm = true) (hu : X.A.units + 64 < cLine) : CallR X (.builtin "min") (fun xs H Q => ∃ u v a b, xs = [u, v] ∧ PlV H u a ∧ PlV H v b ∧ ∀ z, (z = u ∨ z = v) → PlV H z (mn a b) → Q z H) := by
  intro pins s σ H xs us Q I r h
  obtain ⟨u, v, a, b, rfl, ha, hb, q⟩ := h
  obtain ⟨us, rs⟩ := Dp.readsAll I ([a, b].map plD) _ us (.cons ha.dp (.cons hb.dp .nil)) r
  obtain ⟨u', v', rfl, ru, rv⟩ := vals2 r
  refine min_args (I.ok.hd hc) rs plD_all (by have := ePl.deps [a, b]; show X.A.units + 1 + PyData.depthAll ([a, b].map ePl.d) < cLine; omega) (PySem.F.args_min2 _ _) (by simp) fun z h' tk hz k => ?_
  have e1 : dataLt (plD b) (plD a) = decide (NK.lt b a) := plD_lt b a
  have hz' : (if dataLt (plD b) (plD a) then some v' else some u') = some z := by
    rw [← hz]
    show _ = [u', v'][if dataLt (plD b) (plD a) then 1 else 0]?
    split <;> rfl
  rw [e1] at hz'
  by_cases l : NK.lt b a
  · rw [if_pos (decide_eq_true l)] at hz'
    cases hz'
    exact ⟨v, H, I.kept k, rv, q v (.inr rfl) (by unfold mn; rw [if_pos l]; exact hb)⟩
  · rw [if_neg (by simpa using l)] at hz'
    cases hz'
    exact ⟨u, H, I.kept k, ru, q u (.inl rfl) (by unfold mn; rw [if_neg l]; exact ha)⟩
theorem cr_max2 (hc : X.calm = true) (hu : X.A.units + 64 < cLine) : CallR X (.builtin "max") (fun xs H Q => ∃ u v a b, xs = [u, v] ∧ PlV H u a ∧ PlV H v b ∧ ∀ z, (z = u ∨ z = v) → PlV H z (mx a b) → Q z H) := by
  intro pins s σ H xs us Q I r h
  obtain ⟨u, v, a, b, rfl, ha, hb, q⟩ := h
  obtain ⟨us, rs⟩ := Dp.readsAll I ([a, b].map plD) _ us (.cons ha.dp (.cons hb.dp .nil)) r
  obtain ⟨u', v', rfl, ru, rv⟩ := vals2 r
  refine max_args (I.ok.hd hc) rs plD_all (by have := ePl.deps [a, b]; show X.A.units + 1 + PyData.depthAll ([a, b].map ePl.d) < cLine; omega) (PySem.F.args_max2 _ _) (by simp) fun z h' tk hz k => ?_
  have e1 : dataLt (plD a) (plD b) = decide (NK.lt a b) := plD_lt a b
  have hz' : (if dataLt (plD a) (plD b) then some v' else some u') = some z := by
    rw [← hz]
    show _ = [u', v'][if dataLt (plD a) (plD b) then 1 else 0]?
    split <;> rfl
  rw [e1] at hz'
  by_cases l : NK.lt a b
  · rw [if_pos (decide_eq_true l)] at hz'
    cases hz'
    exact ⟨v, H, I.kept k, rv, q v (.inr rfl) (by unfold mx; rw [if_pos l]; exact hb)⟩
  · rw [if_neg (by simpa using l)] at hz'
    cases hz'
    exact ⟨u, H, I.kept k, ru, q u (.inl rfl) (by unfold mx; rw [if_neg l]; exact ha)⟩
theorem cr_min3 (hc : X.calm = true) (hu : X.A.units + 64 < cLine) : CallR X (.builtin "min") (fun xs H Q => ∃ u v x a b c, xs = [u, v, x] ∧ PlV H u a ∧ PlV H v b ∧ PlV H x c ∧ ∀ z, (z = u ∨ z = v ∨ z = x) → PlV H z (mn (mn a b) c) → Q z H) := by
  intro pins s σ H xs us Q I r h
  obtain ⟨u, v, x, a, b, c, rfl, ha, hb, hc', q⟩ := h
  obtain ⟨us, rs⟩ := Dp.readsAll I ([a, b, c].map plD) _ us (.cons ha.dp (.cons hb.dp (.cons hc'.dp .nil))) r
  obtain ⟨u', v', x', rfl, ru, rv, rx⟩ := vals3 r
  refine min_args (I.ok.hd hc) rs plD_all (by have := ePl.deps [a, b, c]; show X.A.units + 1 + PyData.depthAll ([a, b, c].map ePl.d) < cLine; omega) (args_min3 _ _ _) (by simp) fun z h' tk hz k => ?_
  have e1 : dataLt (plD b) (plD a) = decide (NK.lt b a) := plD_lt b a
  have hz' : (if dataLt (plD b) (plD a) then (if dataLt (plD c) (plD b) then some x' else some v') else if dataLt (plD c) (plD a) then some x' else some u') = some z := by
    rw [← hz]
    have k1 : argBest (fun i j => dataLt (([a, b, c].map plD).getD i .none) (([a, b, c].map plD).getD j .none)) 1 = if dataLt (plD b) (plD a) then 1 else 0 := rfl
    have k2 : argBest (fun i j => dataLt (([a, b, c].map plD).getD i .none) (([a, b, c].map plD).getD j .none)) 2 = if dataLt (plD c) (([a, b, c].map plD).getD (if dataLt (plD b) (plD a) then 1 else 0) .none) then 2 else (if dataLt (plD b) (plD a) then 1 else 0) := rfl
    show _ = [u', v', x'][argBest (fun i j => dataLt (([a, b, c].map plD).getD i .none) (([a, b, c].map plD).getD j .none)) 2]?
    rw [k2]
    cases dataLt (plD b) (plD a) with
    | true =>
      show _ = [u', v', x'][if dataLt (plD c) (plD b) then 2 else 1]?
      cases dataLt (plD c) (plD b) <;> rfl
    | false =>
      show _ = [u', v', x'][if dataLt (plD c) (plD a) then 2 else 0]?
      cases dataLt (plD c) (plD a) <;> rfl
  rw [e1, plD_lt, plD_lt] at hz'
  by_cases l : NK.lt b a
  · rw [if_pos (decide_eq_true l)] at hz'
    have m : mn a b = b := by unfold mn; rw [if_pos l]
    rw [m] at q
    by_cases l2 : NK.lt c b
    · rw [if_pos (decide_eq_true l2)] at hz'
      cases hz'
      exact ⟨x, H, I.kept k, rx, q x (.inr (.inr rfl)) (by unfold mn; rw [if_pos l2]; exact hc')⟩
    · rw [if_neg (by simpa using l2)] at hz'
      cases hz'
      exact ⟨v, H, I.kept k, rv, q v (.inr (.inl rfl)) (by unfold mn; rw [if_neg l2]; exact hb)⟩
  · rw [if_neg (by simpa using l)] at hz'
    have m : mn a b = a := by unfold mn; rw [if_neg l]
    rw [m] at q
    by_cases l2 : NK.lt c a
    · rw [if_pos (decide_eq_true l2)] at hz'
      cases hz'
      exact ⟨x, H, I.kept k, rx, q x (.inr (.inr rfl)) (by unfold mn; rw [if_pos l2]; exact hc')⟩
    · rw [if_neg (by simpa using l2)] at hz'
      cases hz'
      exact ⟨u, H, I.kept k, ru, q u (.inl rfl) (by unfold mn; rw [if_neg l2]; exact ha)⟩
end
end NW

/-! list(reversed(xs)); dicts whose keys are sides. -/
namespace NW
open PySem PySem.Spec PyProof.Rows L2 NK

/-! ### list(reversed(xs)) -/
section
variable {prog : Program} {w : World} {A : Around} {E : Value → Shared → Prop} {s : Shared}
theorem ext_rev {R : Result → Shared → Prop} {it l : Addr} {items : Array Value} (hh : A.handled = none) (hit : s.heap.IsRevIter it l ((items.size : Int) - 1)) (hl : s.heap.IsList l items) (hne : l ≠ it) (hn : items.size ≤ sizeLine) (S : Addr) (hSi : S ≠ it) (hSl : S ≠ l) (res : Value) (c₀ : Nat)
    (hS : s.heap.get? S = some { cls := .type "list", data := .seq #[] c₀ })
    (hR : ∀ h' tk acc c', (∀ b o, b ≠ S → b ≠ it → s.heap.get? b = some o → h'.get? b = some o) → h'.get? S = some { cls := .type "list", dict := none, data := .seq acc c', slots := #[] } → ItemsOf (fun i v => items[items.size - 1 - i]? = some v) acc items.size →
      R (.ok (.ret res)) { s with heap := h', toks := tk }) :
    wpAny (model prog w) A.in1 (Builtin.List.listExtendWith (.ref S) (.ref it) res)
      (fun fin s' => match fin with | .done f => R (.ok f) s' | .again c' => c'.quiet = true ∧ codeAny (model prog w) A c' R s') (fun e s' => R (.error e) s') s := by
  have W := (Walks.listRev (prog := prog) (w := w) (A := A.in1) hh it l hne items).toS
  have hSf : S ∉ [it, l] := by simp only [List.mem_cons, List.not_mem_nil, or_false, not_or]; exact ⟨hSi, hSl⟩
  have hT : s.TypeIs (.ref it) "list_reverseiterator" := hit.typeIs
  have h1 : Builtin.List.listSameRef (.ref S) (.ref it) = false := by simp [Builtin.List.listSameRef, hSi]
  unfold Builtin.List.listExtendWith
  refine wpAny_bind (wpAny_typeOf hT ?_)
  rw [if_neg (by rw [h1]; decide)]
  refine wpAny_bind (wpAny_pyIter_revIter hit ?_)
  refine wpAny_bind (wpAny_holding ?_)
  unfold Builtin.List.listLengthHint
  refine wpAny_bind (wpAny_specialOf hT RT.nolen_lri ?_)
  show wpAny _ A.in1 (specialOf (Value.ref it) (Str.ofString "__length_hint__") >>= _) _ _ _
  refine wpAny_bind (wpAny_specialOf hT RT.hint_lri ?_)
  generalize hid : ("list_reverseiterator.__length_hint__" : String) = id0
  wp_delta
  rw [show splitId id0 = some ("list_reverseiterator", "__length_hint__") from by subst hid; decide +kernel]
  subst hid
  refine wpAny_bind (wpAny_isInstance (b := true) hT (by rw [isSubtype_type]; kernel_rfl) ?_)
  refine wpAny_pure ?_
  rw [if_neg (by decide)]
  have e0 : ((items.size : Nat) : Int) - 1 - ((0 : Nat) : Int) = (items.size : Int) - 1 := by omega
  refine wpAny_pure ⟨plainId_quiet PySem.F.plain_extend_loop _, codeAny_extend_loopS W hn _ hSf _ items.size 0 _ _ _ rfl (Nat.zero_le _) ⟨Nat.zero_le _, by rw [e0]; exact hit, hl⟩ hS (ItemsOf.nil _) fun s' acc' c' hm hS' hacc => ?_⟩
  rw [Moved.eq_with hm]
  refine hR s'.heap s'.toks acc' c' (fun b o hb hb2 e => hm.heap b o (fun hmem => ?_) e) hS' hacc
  rcases List.mem_cons.mp hmem with e' | hmem
  · exact hb e'
  · exact hb2 (List.mem_singleton.mp hmem)
theorem call_list_rev {it l : Addr} {items : Array Value} {Q : Value → Shared → Prop} (hh : A.handled = none) (hit : s.heap.IsRevIter it l ((items.size : Int) - 1)) (hl : s.heap.IsList l items) (hne : l ≠ it) (hn : items.size ≤ sizeLine)
    (hQ : ∀ h' tk acc c', (∀ b o, b ≠ it → s.heap.get? b = some o → h'.get? b = some o) → h'.get? s.heap.objs.size = some { cls := .type "list", dict := none, data := .seq acc c', slots := #[] } → ItemsOf (fun i v => items[items.size - 1 - i]? = some v) acc items.size →
      Q (.ref s.heap.objs.size) { s with heap := h', toks := tk }) :
    wpAny (model prog w) A (call (.type "list") [.ref it]) Q E s := by
  obtain ⟨oi, hoi, _⟩ := id hit
  obtain ⟨ol, hol, _⟩ := id hl
  have hSi : s.heap.objs.size ≠ it := Nat.ne_of_gt (Heap.lt_size hoi)
  have hSl : s.heap.objs.size ≠ l := Nat.ne_of_gt (Heap.lt_size hol)
  refine callType_codes (Q₁ := fun obj s₁ => obj = .ref s.heap.objs.size ∧ s₁ = { s with heap := s.heap.push { cls := .type "list", data := .seq #[] } }) PySem.F.called_list (PySem.F.typeCall_list_1 _) PySem.F.entry_list_init
    (code_list_new _ ⟨rfl, rfl⟩) fun obj s₁ h₁ => ?_
  obtain ⟨rfl, rfl⟩ := h₁
  have hS : (s.heap.push { cls := .type "list", data := .seq #[] }).get? s.heap.objs.size = some { cls := .type "list", data := .seq #[] } := Heap.get?_push_size _ rfl
  refine ⟨⟨_, hS, rfl⟩, PySem.F.args_list_init_2 _ _, ?_⟩
  show wpAny _ _ (do let old ← Builtin.List.listItems (.ref s.heap.objs.size); Builtin.List.listUpdate (.ref s.heap.objs.size) (fun _ => #[]); letGo old.toList.reverse; Builtin.List.listExtendWith (.ref s.heap.objs.size) (.ref it) .none) _ _ _
  refine wpAny_bind ?_
  unfold Builtin.List.listItems
  refine wpAny_bind (wpAny_seqItems (s := { s with heap := s.heap.push { cls := .type "list", data := .seq #[] } }) hS rfl (wpAny_pure ?_))
  show wpAny _ _ (updateSeq s.heap.objs.size (fun _ => #[]) >>= fun _ => letGo (#[] : Array Value).toList.reverse >>= fun _ => Builtin.List.listExtendWith (.ref s.heap.objs.size) (.ref it) .none) _ _ _
  refine wpAny_bind (wpAny_updateSeq (s := { s with heap := s.heap.push { cls := .type "list", data := .seq #[] } }) hS rfl ?_)
  have hS₂ := Heap.get?_update_self (Obj.mapSeq (fun _ => (#[] : Array Value))) hS rfl
  have oth : ∀ b o, s.heap.get? b = some o → ((s.heap.push { cls := .type "list", data := .seq #[] }).update s.heap.objs.size (Obj.mapSeq (fun _ => (#[] : Array Value)))).get? b = some o :=
    fun b o e => (Heap.get?_update_other _ _ (Nat.ne_of_gt (Heap.lt_size e))).trans (Heap.get?_push_of_some _ e)
  refine wpAny_bind (wpAny_letGo ?_)
  refine ext_rev (A := A.in1) hh (hit.at fun o e => oth it o e) (by obtain ⟨o, h1, h2⟩ := hl; exact ⟨o, oth l o h1, h2⟩) hne hn s.heap.objs.size hSi hSl .none _ hS₂ fun h' tk acc c' hk hS' hacc => ?_
  exact ⟨rfl, hQ h' tk acc c' (fun b o hb e => hk b o (Nat.ne_of_lt (Heap.lt_size e)) hb (oth b o e)) hS' hacc⟩
end
section
variable {X : Cx}
def tListRev (K : PySem.W.Frag) (te : TE) : TE := fun σ H Q => te σ H fun v H1 => ∃ (a : Addr) (xs : List V), v = .ref a ∧ SqL K H1 a xs ∧ ∀ q, H1 q = none → Q (.ref q) (upd H1 q (.lst xs.reverse))
theorem pe_listRev {e : Expr} {te : TE} {p p2 pos pos2 : Pos} (hc : X.calm = true) (hg : Gl X "list") (hm : X.mg "list" = none) (hg2 : Gl X "reversed") (hm2 : X.mg "reversed" = none) (he : PE X e te)
    (hs : starEach [e] X.env = (false, eval e X.env) :: starEach [] X.env := by rfl)
    (hs2 : starEach [.Call (.Name "reversed" p2) [e] [] pos2] X.env = (false, eval (.Call (.Name "reversed" p2) [e] [] pos2) X.env) :: starEach [] X.env := by rfl) :
    PE X (.Call (.Name "list" p) [.Call (.Name "reversed" p2) [e] [] pos2] [] pos) (tListRev X.K te) := by
  refine ⟨fun pins s σ H Q I h => ?_⟩
  refine Call_ (ld_blt I hg hm boot_list (PyProof.Rows.callWith_type1 (args_cons (Call_ (ld_blt I hg2 hm2 PyProof.Rows.boot_reversed (PyProof.Rows.callWith_type1 (args_cons (thn (he.run pins s σ H _ I h) fun u s1 ⟨v, H1, I1, r1, q1⟩ => args_nil ?_) hs) hs rfl))) hs2) hs2 rfl))
  obtain ⟨a, xs, ev, hq, q⟩ := q1
  subst ev
  obtain rfl : u = Value.ref a := r1
  obtain ⟨its, rv, p', hz⟩ := I1.list hq
  refine call_reversed_list p'.isList (args_nil ?_)
  have k0 : ∀ b o, s1.heap.get? b = some o → (s1.heap.push (revObj a ((its.toArray.size : Int) - 1))).get? b = some o := fun b o e => Heap.get?_push_of_some _ e
  have I2 : Inv X pins σ H1 { s1 with heap := s1.heap.push (revObj a ((its.toArray.size : Int) - 1)) } := I1.kept (t' := s1.toks) k0
  have fp := I1.fpOk (H' := H1) (b := s1.heap.objs.size) (Nat.le_refl _) (I1.hok.fresh (Nat.le_refl _))
  have hl := p'.isList
  obtain ⟨ol, hol, _⟩ := id hl
  have hne : a ≠ s1.heap.objs.size := Nat.ne_of_lt (Heap.lt_size hol)
  have hn : its.toArray.size ≤ sizeLine := by rw [List.size_toArray, ← rv.length]; exact hz
  refine call_list_rev (s := { s1 with heap := s1.heap.push (revObj a ((its.toArray.size : Int) - 1)) }) (I1.ok.hd hc) ⟨_, Heap.get?_push_size _ rfl, rfl, rfl⟩ (hl.push _) hne hn fun h' tk acc c' hk hS hi => ?_
  have hsz : acc.toList.length ≤ sizeLine := by rw [Array.length_toList, hi.1]; exact hn
  have new : ObjOk X.prog X.w (upd H1 (s1.heap.push (revObj a ((its.toArray.size : Int) - 1))).objs.size (.lst xs.reverse)) h' (s1.heap.push (revObj a ((its.toArray.size : Int) - 1))).objs.size (.lst xs.reverse) :=
    ⟨by rw [List.length_reverse]; exact hz, acc.toList, c', RT.vals_rev rv hi, by rw [Array.toArray_toList]; exact hS⟩
  have I3 := I2.turnedNew (t' := tk) (ch := [s1.heap.objs.size]) (fun b o hb e => hk b o (by simpa using hb) e) (fun b hb => by rw [List.mem_singleton.mp hb]; exact fp) (Nat.le_refl _) new
  exact ⟨.ref (s1.heap.push (revObj a ((its.toArray.size : Int) - 1))).objs.size, _, I3, rfl, q _ (I2.hok.fresh (Nat.le_refl _))⟩
end
end NW

/-! Dicts whose keys are sides: entries (the side, where its tuple stands, the value). -/
namespace NW
open PySem PySem.Spec PyProof.Rows L2 NK
/-- a side as a key -/
def skey (s : Sd) : NestedKey := .tup [.tup [.num s.1.1, .num s.1.2], .tup [.num s.2.1, .num s.2.2]]
theorem skey_inj {s t : Sd} (h : skey s = skey t) : s = t := by
  obtain ⟨⟨a, b⟩, ⟨c, d⟩⟩ := s
  obtain ⟨⟨a', b'⟩, ⟨c', d'⟩⟩ := t
  unfold skey at h
  simp only [NestedKey.tup.injEq, List.cons.injEq, NestedKey.num.injEq, and_true] at h
  simp only [Prod.mk.injEq]
  omega
abbrev Ent := Sd × Addr × V
def rk (p : Ent) (q : NestedKey × Addr × Value) : Prop := q.1 = skey p.1 ∧ q.2.1 = p.2.1 ∧ RelV p.2.2 q.2.2
/-! ### tables of data -/
def lookX (xs : List Ent) (k : Sd) : Option (Addr × V) := (xs.find? fun x => decide (x.1 = k)).map (·.2)
def putX (xs : List Ent) (k : Sd) (a : Addr) (v : V) : List Ent := if (lookX xs k).isSome then xs.map (fun x => if x.1 = k then (x.1, x.2.1, v) else x) else xs ++ [(k, a, v)]
def dropX (xs : List Ent) (k : Sd) : List Ent := xs.filter fun x => decide (x.1 ≠ k)
/-- entries and raw entries -/
theorem rk_key {p : Ent} {q : NestedKey × Addr × Value} (h : rk p q) (k : Sd) : decide (q.1 = skey k) = decide (p.1 = k) := by
  rw [h.1]
  by_cases e : p.1 = k
  · rw [e]; simp
  · rw [decide_eq_false e, decide_eq_false fun z => e (skey_inj z)]
theorem rk_at {xs : List Ent} {ys : List (NestedKey × Addr × Value)} (r : Paired rk xs ys) (k : Sd) : (lookX xs k = none ∧ atKey ys (skey k) = none) ∨ ∃ a v u, lookX xs k = some (a, v) ∧ atKey ys (skey k) = some (a, u) ∧ RelV v u := by
  induction r with
  | nil => exact .inl ⟨rfl, rfl⟩
  | @cons p q ps qs h t ih =>
    have e := rk_key h k
    unfold lookX atKey at ih ⊢
    rw [List.find?_cons, List.find?_cons, e]
    cases hd : decide (p.1 = k) with
    | true => exact .inr ⟨p.2.1, p.2.2, q.2.2, rfl, by rw [← h.2.1]; rfl, h.2.2⟩
    | false => exact ih
theorem rk_put {xs : List Ent} {ys : List (NestedKey × Addr × Value)} (r : Paired rk xs ys) (k : Sd) (a : Addr) {v : V} {u : Value} (rv : RelV v u) : Paired rk (putX xs k a v) (storedH ys (skey k) a u) := by
  have m : ∀ {xs : List Ent} {ys : List (NestedKey × Addr × Value)}, Paired rk xs ys → Paired rk (xs.map fun x => if x.1 = k then (x.1, x.2.1, v) else x) (ys.map (putAt (skey k) u)) := by
    intro xs ys r
    induction r with
    | nil => exact .nil
    | @cons p q ps qs h t ih =>
      refine .cons ?_ ih
      have e := rk_key h k
      unfold putAt
      show rk (if p.1 = k then (p.1, p.2.1, v) else p) (if q.1 = skey k then (q.1, q.2.1, u) else q)
      by_cases z : p.1 = k
      · rw [decide_eq_true z] at e
        rw [if_pos z, if_pos (of_decide_eq_true e)]
        exact ⟨h.1, h.2.1, rv⟩
      · rw [decide_eq_false z] at e
        rw [if_neg z, if_neg (of_decide_eq_false e)]
        exact h
  unfold putX storedH
  rcases rk_at r k with ⟨e1, e2⟩ | ⟨b, w, u', e1, e2, _⟩
  · rw [e1, e2]
    exact Paired.snoc r ⟨rfl, rfl, rv⟩
  · rw [e1, e2]
    exact m r
theorem rk_drop {xs : List Ent} {ys : List (NestedKey × Addr × Value)} (r : Paired rk xs ys) (k : Sd) : Paired rk (dropX xs k) (withoutH ys (skey k)) := by
  unfold dropX withoutH
  induction r with
  | nil => exact .nil
  | @cons p q ps qs h t ih =>
    have e := rk_key h k
    rw [List.filter_cons, List.filter_cons]
    by_cases z : p.1 = k
    · rw [decide_eq_true z] at e
      have e' := of_decide_eq_true e
      rw [if_neg (by simp [z]), if_neg (by simp [e'])]
      exact ih
    · rw [decide_eq_false z] at e
      have e' := of_decide_eq_false e
      rw [if_pos (by simp [z]), if_pos (by simp [e'])]
      exact .cons h ih
/-! ### entries and data -/
def en (H : Hp) (p : Ent) (q : Sd × Pl) : Prop := p.1 = q.1 ∧ SdV H (.ref p.2.1) q.1 ∧ PlV H p.2.2 q.2
theorem en_at {H : Hp} {xs : List Ent} {t : Tab} (r : Paired (en H) xs t) (k : Sd) : (lookX xs k = none ∧ look t k = none) ∨ ∃ a v u, lookX xs k = some (a, v) ∧ look t k = some u ∧ SdV H (.ref a) k ∧ PlV H v u := by
  induction r with
  | nil => exact .inl ⟨rfl, rfl⟩
  | @cons p q ps qs h t ih =>
    unfold lookX look at ih ⊢
    rw [List.find?_cons, List.find?_cons, ← h.1]
    cases hd : decide (p.1 = k) with
    | true => exact .inr ⟨p.2.1, p.2.2, q.2, rfl, rfl, by rw [← of_decide_eq_true hd, h.1]; exact h.2.1, h.2.2⟩
    | false => exact ih
theorem en_put {H : Hp} {xs : List Ent} {t : Tab} (r : Paired (en H) xs t) (k : Sd) {a : Addr} {v : V} {u : Pl} (ha : SdV H (.ref a) k) (hv : PlV H v u) : Paired (en H) (putX xs k a v) (putT t k u) := by
  have m : ∀ {xs : List Ent} {t : Tab}, Paired (en H) xs t → Paired (en H) (xs.map fun x => if x.1 = k then (x.1, x.2.1, v) else x) (t.map fun x => if x.1 = k then (x.1, u) else x) := by
    intro xs ys r
    induction r with
    | nil => exact .nil
    | @cons p q ps qs h t ih =>
      refine .cons ?_ ih
      show en H (if p.1 = k then (p.1, p.2.1, v) else p) (if q.1 = k then (q.1, u) else q)
      by_cases z : p.1 = k
      · rw [if_pos z, if_pos (h.1.symm.trans z)]
        exact ⟨h.1, h.2.1, hv⟩
      · rw [if_neg z, if_neg (fun y => z (h.1.trans y))]
        exact h
  unfold putX putT
  rcases en_at r k with ⟨e1, e2⟩ | ⟨b, w, u', e1, e2, _⟩
  · rw [e1, e2]
    exact Paired.snoc r ⟨rfl, ha, hv⟩
  · rw [e1, e2]
    exact m r
theorem en_drop {H : Hp} {xs : List Ent} {t : Tab} (r : Paired (en H) xs t) (k : Sd) : Paired (en H) (dropX xs k) (dropT t k) := by
  unfold dropX dropT
  induction r with
  | nil => exact .nil
  | @cons p q ps qs h t ih =>
    rw [List.filter_cons, List.filter_cons, ← h.1]
    split
    · exact .cons h ih
    · exact ih
theorem en_keep {H H' : Hp} (k : TupS H H') : ∀ {xs : List Ent} {t : Tab}, Paired (en H) xs t → Paired (en H') xs t
  | _, _, .nil => .nil
  | _, _, .cons h r => .cons ⟨h.1, h.2.1.keep k, h.2.2.keep k⟩ (en_keep k r)
theorem paired_len {α β : Type} {F : α → β → Prop} {l : List α} {m : List β} (h : Paired F l m) : l.length = m.length := Paired.length h

section
variable (P : Program) (w : World)
/-- the raw dict of these entries at d -/
def RawD (d : Addr) (xs : List Ent) (h : Heap) : Prop := xs.length ≤ sizeLine ∧ (d == sysModules) = false ∧
  ∃ ys, Paired rk xs ys ∧ ∃ o es ep, h.get? d = some o ∧ o.ExactDict ∧ o.data = .dict es ep ∧ es.toList = ys.map (entryOfKey (nestedKind P w)) ∧ (ys.map (·.1)).Nodup
def DN (d : Addr) (xs : List Ent) : HO := .ext (RawD P w d xs)
theorem dn_ok {H : Hp} {h : Heap} {d : Addr} {xs : List Ent} (r : RawD P w d xs h) : ObjOk P w H h d (DN P w d xs) := by
  refine ⟨r, ?_, fun h1 h2 k e => ?_⟩
  · obtain ⟨_, _, ys, _, o, es, ep, ho, _⟩ := r
    exact ⟨o, ho⟩
  · obtain ⟨z, y, ys, rel, o, es, ep, ho, rest⟩ := k
    exact ⟨z, y, ys, rel, o, es, ep, e _ ho, rest⟩
/-- a dict of sides, read; the same to be written -/
def DictV (H : Hp) (d : Addr) (t : Tab) : Prop := ∃ xs, Rd H d (DN P w d xs) ∧ Paired (en H) xs t
def DictM (H : Hp) (d : Addr) (t : Tab) : Prop := ∃ xs, H d = some (DN P w d xs) ∧ Paired (en H) xs t
end
theorem DictM.v {P : Program} {w : World} {H : Hp} {d : Addr} {t : Tab} (h : DictM P w H d t) : DictV P w H d t := let ⟨xs, a, b⟩ := h; ⟨xs, .inl a, b⟩
theorem DictV.keep {P : Program} {w : World} {H H' : Hp} {d : Addr} {t : Tab} (h : DictV P w H d t) (k : TupS H H') (e : H' d = H d) : DictV P w H' d t := by
  obtain ⟨xs, a, b⟩ := h
  refine ⟨xs, ?_, en_keep k b⟩
  unfold Rd
  rw [e]
  exact a
theorem DictM.keep {P : Program} {w : World} {H H' : Hp} {d : Addr} {t : Tab} (h : DictM P w H d t) (k : TupS H H') (e : H' d = H d) : DictM P w H' d t := by
  obtain ⟨xs, a, b⟩ := h
  exact ⟨xs, by rw [e]; exact a, en_keep k b⟩

section
variable {X : Cx} {pins : List (Addr × Obj)} {σ : L2.St} {H : Hp} {s : Shared}
theorem pl_nested (I : Inv X pins σ H s) {v : V} {u : Value} {p : Pl} (h : PlV H v p) (r : RelV v u) : NestedIs s.heap (.tup [.num p.1, .num p.2]) u := by
  obtain ⟨a, rfl, e, _⟩ := h
  cases r
  obtain ⟨_, its, rv, o, h1, h2, n, h3⟩ := I.hok a _ e
  obtain ⟨u1, u2, rfl, ⟨t1, rfl⟩, ⟨t2, rfl⟩⟩ := vals2 rv
  exact .tup h1 h2 h3 (by simpa using NestedAll.cons (.int _ _) (.cons (.int _ _) .nil))
theorem sd_nested (I : Inv X pins σ H s) {a : Addr} {k : Sd} (h : SdV H (.ref a) k) : (nestedKind X.prog X.w).is s.heap (skey k) a := by
  obtain ⟨b, u, v, e, h, h1, h2⟩ := h
  cases e
  obtain ⟨_, its, rv, o, g1, g2, n, g3⟩ := I.hok a _ h
  obtain ⟨u1, u2, rfl, r1, r2⟩ := vals2 rv
  refine ⟨.tup g1 g2 g3 (by simpa using NestedAll.cons (pl_nested I h1 r1) (.cons (pl_nested I h2 r2) .nil)), ?_⟩
  simp [skey, NestedKey.depth, NestedKey.depthAll]
theorem dn_rd (I : Inv X pins σ H s) {d : Addr} {xs : List Ent} {t : Tab} (e : Rd H d (DN X.prog X.w d xs)) (r : Paired (en H) xs t) :
    xs.length ≤ sizeLine ∧ (d == sysModules) = false ∧ ∃ ys, Paired rk xs ys ∧ s.heap.DictOfH (nestedKind X.prog X.w) d ys := by
  obtain ⟨⟨z, y, ys, rel, o, es, ep, h1, h2, h3, h4, h5⟩, _⟩ := (show ObjOk X.prog X.w H s.heap d (DN X.prog X.w d xs) from e.ok I.hok)
  refine ⟨z, y, ys, rel, o, es, ep, h1, h2, h3, h4, ?_, h5⟩
  have all : ∀ {xs : List Ent} {ys : List (NestedKey × Addr × Value)} {t : Tab}, Paired rk xs ys → Paired (en H) xs t → ∀ y ∈ ys, (nestedKind X.prog X.w).is s.heap y.1 y.2.1 := by
    intro xs ys t q
    induction q generalizing t with
    | nil => intro _ y hy; cases hy
    | @cons p q ps qs hq tt ih =>
      intro r y hy
      cases r with
      | cons hp rr =>
        rcases List.mem_cons.mp hy with rfl | hy
        · rw [hq.1, hq.2.1, hp.1]
          exact sd_nested I hp.2.1
        · exact ih rr y hy
  exact all rel r
theorem room8 (hu : X.A.units + 64 < cLine) : (nestedKind X.prog X.w).room X.A.in1 := by
  show X.A.units + 1 + 8 < cLine
  omega
end

section
variable {X : Cx} {o i e value : Expr} {pos pos' tpos apos cpos : Pos} {td ty tv : TE}
/-- {} -/
def tDNewN (P : Program) (w : World) : TE := fun _ H Q => ∀ p, H p = none → DictM P w (upd H p (DN P w p [])) p [] → Q (.ref p) (upd H p (DN P w p []))
theorem pe_dnewN : PE X (.Dict [] [] pos) (tDNewN X.prog X.w) := ⟨fun pins s σ H Q I h =>
  wpAny_Dict_empty ⟨.ref s.heap.objs.size, _, I.laid (a := s.heap.objs.size) (o := DN X.prog X.w s.heap.objs.size []) (t' := s.toks) (fun _ _ q => Heap.get?_push_of_some _ q) (Nat.le_refl _)
    (dn_ok X.prog X.w ⟨Nat.zero_le _, beq_eq_false_iff_ne.mpr (Ne.symm (Nat.ne_of_lt I.big)), [], .nil, _, #[], 0, Heap.get?_push_size _ rfl, ⟨rfl, rfl, rfl⟩, rfl, rfl, List.nodup_nil⟩),
    rfl, h _ (I.hok.fresh (Nat.le_refl _)) ⟨[], upd_same, .nil⟩⟩⟩
/-- d[k], there -/
def tDGetN (P : Program) (w : World) (td ty : TE) : TE := fun σ H Q => td σ H fun x H1 => ty σ H1 fun y H2 => ∃ d t k v, x = .ref d ∧ DictV P w H2 d t ∧ SdV H2 y k ∧ look t k = some v ∧ ∀ u, PlV H2 u v → Q u H2
theorem pe_dgetN (hu : X.A.units + 64 < cLine) (ho : PE X o td) (hi : PE X i ty) (hs : NoSl i) : PE X (.Subscript o i pos) (tDGetN X.prog X.w td ty) := by
  refine ⟨fun pins s σ H Q I h => ?_⟩
  refine subD_of PySem.F.slot_dict_getitem.lookup hs (thn (ho.run pins s σ H _ I h) fun u s1 ⟨x, H1, I1, rx, q1⟩ => thn (hi.run pins s1 σ H1 _ I1 q1) fun iv s2 ⟨y, H2, I2, ry, d, t, k, v, ex, ⟨xs, hd, hr⟩, hk, hl, q2⟩ => ?_)
  subst ex
  obtain rfl : u = Value.ref d := rx
  obtain ⟨z, hy, ys, rel, dd⟩ := dn_rd I2 hd hr
  obtain ⟨b, u1, u2, rfl, hb⟩ := id hk
  obtain rfl : iv = Value.ref b := ry
  rcases en_at hr k with ⟨_, e2⟩ | ⟨a, v', u', e1, e2, _, hv⟩
  · rw [hl] at e2; cases e2
  · rw [hl] at e2
    cases e2
    rcases rk_at rel k with ⟨e3, _⟩ | ⟨a', v'', r, e3, e4, rr⟩
    · rw [e1] at e3; cases e3
    · rw [e1] at e3
      cases e3
      exact ⟨dd.typeIs, wpAny_getItem_heap (room8 hu) (sd_nested I2 hk) dd e4 ⟨v', H2, I2.tok _, rr, q2 v' hv⟩⟩
/-- k in d -/
def rDInN (P : Program) (w : World) : R2 := fun x y H Q => ∃ d t k, y = .ref d ∧ DictV P w H d t ∧ SdV H x k ∧ Q (.bl (look t k).isSome) H
theorem op_dinN (hu : X.A.units + 64 < cLine) : OpR X (compareOp .In) (rDInN X.prog X.w) := by
  intro pins s σ H x y v u Q I rx ry h
  obtain ⟨d, t, k, rfl, ⟨xs, hd, hr⟩, hk, q⟩ := h
  obtain rfl : u = Value.ref d := ry
  obtain ⟨z, hy, ys, rel, dd⟩ := dn_rd I hd hr
  obtain ⟨b, u1, u2, rfl, hb⟩ := id hk
  obtain rfl : v = Value.ref b := rx
  refine wpAny_in_heap (room8 hu) (sd_nested I hk) hy dd ⟨.bl (look t k).isSome, H, I.tok _, ?_, q⟩
  rcases en_at hr k with ⟨e1, e2⟩ | ⟨a, v', u', e1, e2, _, hv⟩ <;> rcases rk_at rel k with ⟨e3, e4⟩ | ⟨a', v'', r, e3, e4, rr⟩
  · rw [e2, e4]; rfl
  · rw [e1] at e3; cases e3
  · rw [e1] at e3; cases e3
  · rw [e2, e4]; rfl
/-- d[k] = v -/
def sDPutN (P : Program) (w : World) (td ty tv : TE) : TS := fun D σ H => tv σ H fun v H1 => td σ H1 fun x H2 => ty σ H2 fun y H3 => ∃ d t k p, x = .ref d ∧ DictM P w H3 d t ∧ SdV H3 y k ∧ PlV H3 v p ∧ t.length < 1000 ∧ ∀ o, DictM P w (upd H3 d o) d (putT t k p) → D.nx σ (upd H3 d o)
theorem put_len (xs : List Ent) (k : Sd) (a : Addr) (v : V) : (putX xs k a v).length ≤ xs.length + 1 := by
  unfold putX
  split
  · rw [List.length_map]; omega
  · rw [List.length_append]; simp
theorem upd_tups {H : Hp} {d : Addr} {o o' : HO} (h : H d = some o) (n : ∀ xs, o ≠ .tup xs) : TupS H (upd H d o') := fun b xs e => by
  rw [upd_ne (fun z => ?_)]
  · exact e
  · subst z; rw [h] at e; exact n xs (Option.some.inj e)
theorem ps_dputN (hu : X.A.units + 64 < cLine) (ho : PE X o td) (hi : PE X i ty) (hv : PE X value tv) (hs : swapsWith value (some (.Subscript o i pos')) pos.line X.env = pure false) :
    PS X (.Assign [.Subscript o i pos'] value pos) (sDPutN X.prog X.w td ty tv) := by
  refine ⟨fun pins s σ H D I h => ?_⟩
  refine wpAny_Assign_Subscript (thn (hv.run pins s σ H _ I h) fun r s1 ⟨v, H1, I1, rv, q1⟩ => thn (ho.run pins s1 σ H1 _ I1 q1) fun u s2 ⟨x, H2, I2, rx, q2⟩ => thn (hi.run pins s2 σ H2 _ I2 q2) fun iv s3 ⟨y, H3, I3, ry, d, t, k, p, ex, ⟨xs, hd, hr⟩, hk, hp, ht, q3⟩ => ?_) hs
  subst ex
  obtain rfl : u = Value.ref d := rx
  obtain ⟨z, hy, ys, rel, dd⟩ := dn_rd I3 (.inl hd) hr
  obtain ⟨b, u1, u2, rfl, hb⟩ := id hk
  obtain rfl : iv = Value.ref b := ry
  have hz : ys.length ≤ sizeLine := by rw [← paired_len rel]; exact z
  have hl : (putX xs k b v).length ≤ sizeLine := by
    have := put_len xs k b v
    rw [paired_len hr] at this
    rw [sizeLine_eq]
    omega
  refine wpAny_setItem_heap (hsz := hz) (room8 hu) (sd_nested I3 hk) dd fun h' dd' hs' => ?_
  obtain ⟨q, es, ep, g1, g2, g3, g4, _, g5⟩ := dd'
  have I4 := d_write (t' := s3.toks + (nestedKind X.prog X.w).draws (skey k)) (ob := DN X.prog X.w d (putX xs k b v)) I3 (by rw [hd]; exact True.intro) hs' ⟨q, g1⟩ (dn_ok X.prog X.w ⟨hl, hy, _, rk_put rel k b rv, q, es, ep, g1, g2, g3, g4, g5⟩)
  have tp : TupS H3 (upd H3 d (DN X.prog X.w d (putX xs k b v))) := upd_tups hd fun _ z => nomatch z
  exact ⟨σ, _, I4, q3 _ ⟨_, upd_same, en_keep tp (en_put hr k hk hp)⟩⟩
/-- d.pop(k), there -/
def tDPopN (P : Program) (w : World) (td ty : TE) : TE := fun σ H Q => td σ H fun x H1 => ∃ d, x = .ref d ∧ (∃ t, DictV P w H1 d t) ∧ ty σ H1 fun y H2 => ∃ t k v, DictM P w H2 d t ∧ SdV H2 y k ∧ look t k = some v ∧
  ∀ o u, DictM P w (upd H2 d o) d (dropT t k) → PlV (upd H2 d o) u v → Q u (upd H2 d o)
theorem pe_dpopN (hu : X.A.units + 64 < cLine) (ho : PE X o td) (he : PE X e ty) (m : M1 X o "pop" apos e cpos) : PE X (.Call (.Attribute o "pop" apos) [e] [] cpos) (tDPopN X.prog X.w td ty) := by
  refine ⟨fun pins s σ H Q I h => ?_⟩
  refine wpAny_Call_method m.base m.few m.line PySem.F.plainAttrs_dict PySem.F.slot_dict_pop PySem.F.type_dict_pop (thn (ho.run pins s σ H _ I h) fun u s1 ⟨x, H1, I1, rx, d, ex, ⟨t0, xs0, hd0, hr0⟩, q1⟩ => ?_)
  subst ex
  obtain rfl : u = Value.ref d := rx
  obtain ⟨_, _, ys0, _, dd0⟩ := dn_rd I1 hd0 hr0
  refine ⟨dd0.typeIs, fun b q => ?_, ?_⟩
  · cases q
    obtain ⟨ob, _, _, g1, g2, _⟩ := dd0
    exact ⟨ob, g1, g2.2.1⟩
  rw [m.trees]
  refine Calls.callWith_builtin rfl (Calls.evalArgs_plain (Calls.spliced_cons (thn (he.run pins s1 σ H1 _ I1 q1) fun iv s2 ⟨y, H2, I2, ry, t, k, v, ⟨xs, hd, hr⟩, hk, hl, q2⟩ => Calls.spliced_nil ?_)))
  obtain ⟨z, hy, ys, rel, dd⟩ := dn_rd I2 (.inl hd) hr
  obtain ⟨b, u1, u2, rfl, hb⟩ := id hk
  obtain rfl : iv = Value.ref b := ry
  have hz : ys.length ≤ sizeLine := by rw [← paired_len rel]; exact z
  rcases en_at hr k with ⟨_, e2⟩ | ⟨a, v', u', e1, e2, _, hv⟩
  · rw [hl] at e2; cases e2
  · rw [hl] at e2
    cases e2
    rcases rk_at rel k with ⟨e3, _⟩ | ⟨a', v'', r, e3, e4, rr⟩
    · rw [e1] at e3; cases e3
    · rw [e1] at e3
      cases e3
      refine call_pop_heap (more := []) (.inl rfl) (PySem.F.args_dict_pop_2 _ _) (hsz := hz) (room8 hu) (sd_nested I2 hk) hy dd e4 fun h' dd' hs' => ?_
      obtain ⟨q, es, ep, g1, g2, g3, g4, _, g5⟩ := dd'
      have hlen : (dropX xs k).length ≤ sizeLine := Nat.le_trans (List.length_filter_le _ _) z
      have I4 := d_write (t' := s2.toks + (nestedKind X.prog X.w).draws (skey k)) (ob := DN X.prog X.w d (dropX xs k)) I2 (by rw [hd]; exact True.intro) hs' ⟨q, g1⟩ (dn_ok X.prog X.w ⟨hlen, hy, _, rk_drop rel k, q, es, ep, g1, g2, g3, g4, g5⟩)
      have tp : TupS H2 (upd H2 d (DN X.prog X.w d (dropX xs k))) := upd_tups hd fun _ z => nomatch z
      exact ⟨v', _, I4, rr, q2 _ v' ⟨_, upd_same, en_keep tp (en_drop hr k)⟩ (hv.keep tp)⟩
end
end NW

/-! Walks over a dict of sides: its keys, its items. -/
namespace NW
open PySem PySem.Spec PyProof.Rows L2 NK
section
variable {X : Cx} {pins : List (Addr × Obj)} {σ : L2.St} {H : Hp} {s : Shared} {d : Addr} {o : Obj}
theorem frzN {xs : List Ent} (I : Inv X pins σ H s) (h : H d = some (.frz o (DN X.prog X.w d xs))) :
    (d == sysModules) = false ∧ s.heap.get? d = some o ∧ o.ExactDict ∧ ∃ (es : Array DictEntry) (ep : Nat), o.data = .dict es ep ∧ es.size = xs.length ∧
      ∀ (i : Nat) (p : Ent), xs[i]? = some p → ∃ en : DictEntry, es[i]? = some en ∧ en.key = .ref p.2.1 ∧ RelV p.2.2 en.val := by
  obtain ⟨hd, ⟨z, hs, ys, rel, o', es, ep, ho, hx, hdt, he, _⟩, _⟩ := I.hok d _ h
  rw [hd] at ho
  cases ho
  have l1 : es.size = ys.length := size_of_entries he
  have l2 : xs.length = ys.length := paired_len rel
  refine ⟨hs, hd, hx, es, ep, hdt, by omega, fun i p e => ?_⟩
  obtain ⟨b, hb, e1, e2, e3⟩ := paired_get rel e
  have q := entry_at he i
  rw [hb] at q
  exact ⟨_, q, by show Value.ref b.2.1 = _; rw [e2], e3⟩
end
section
variable (P : Program) (w : World)
def ItkN (d : Addr) (o : Obj) (xs : List Ent) : It :=
  ⟨fun i H => H d = some (.frz o (DN P w d xs)) ∧ i < xs.length, fun i H x H' => H' = H ∧ ∃ p, xs[i]? = some p ∧ x = .ref p.2.1, fun i H => H d = some (.frz o (DN P w d xs)) ∧ xs.length ≤ i⟩
def ItiN (d : Addr) (o : Obj) (xs : List Ent) : It :=
  ⟨fun i H => H d = some (.frz o (DN P w d xs)) ∧ i < xs.length, fun i H x H' => ∃ T p, xs[i]? = some p ∧ x = .ref T ∧ H T = none ∧ H' = upd H T (.tup [.ref p.2.1, p.2.2]), fun i H => H d = some (.frz o (DN P w d xs)) ∧ xs.length ≤ i⟩
end
section
variable {P : Program} {w : World} {K : PySem.W.Frag} {tg : Expr} {d : Addr} {o : Obj} {es : Array DictEntry} {ep : Nat}
theorem turn_keysN {xs : List Ent} (it : Addr) (hod : o.data = .dict es ep) : Turn P w K tg (ItkN P w d o xs) [it] it (fun i h => h.IsKeyIter it d i xs.length ep) where
  mem := by simp
  obj := fun i h st b hb => by
    have e : b = it := by simpa using hb
    subst e
    obtain ⟨oi, e, c, dd⟩ := st
    exact ⟨oi, e, fun v z => by rw [dd] at z; cases z⟩
  keep := fun i h h' st k => st.at fun oi e => k it (by simp) oi e
  item := by
    intro X hP hw hK hc i pins s σ H E I hf st hg
    subst hP hw hK
    obtain ⟨hd, hi⟩ := hg
    obtain ⟨f0, f1, f2, f3, f4, f5⟩ := hf it (by simp)
    obtain ⟨hs, hgd, hx, es', ep', hdt, hsz, ent⟩ := frzN I hd
    obtain ⟨rfl, rfl⟩ := dict_ep hod hdt
    obtain ⟨p, hp⟩ : ∃ p, xs[i]? = some p := ⟨xs[i], List.getElem?_eq_getElem hi⟩
    obtain ⟨en, hen, hkey, _⟩ := ent i p hp
    refine next_key_item st hgd hdt hsz hen fun h' st' sb => ?_
    have I1 : Inv X pins σ H { s with heap := h' } := I.turned (t' := s.toks) (fun b ob hb e => (sb.2 b hb).trans e) f0 f1 f3 f4 f5
    obtain ⟨oi, e, c, dd⟩ := id st'
    exact ⟨en.key, rfl, go_of (s := { s with heap := h' }) e c dd (by decide) ⟨.ref p.2.1, H, I1, hkey, ⟨rfl, p, hp, rfl⟩, st', fun b hb => (hf b hb).1⟩⟩
  done := by
    intro X hP hw hK hc i pins s σ H E I hf st hg
    subst hP hw hK
    obtain ⟨hd, hi⟩ := hg
    obtain ⟨f0, f1, f2, f3, f4, f5⟩ := hf it (by simp)
    obtain ⟨hs, hgd, hx, es', ep', hdt, hsz, ent⟩ := frzN I hd
    obtain ⟨rfl, rfl⟩ := dict_ep hod hdt
    exact next_key_end (I.ok.hd hc) st hgd hdt hsz hi fun h' eb => ⟨rfl, I.turned (t' := s.toks) (fun b ob hb e => eb b ob hb e) f0 f1 f3 f4 f5⟩
  self := fun A i s Q E st h => by
    refine wpAny_pyIter_slot st.typeIs F.slot_dict_keyiterator_iter (wpAny_call_entry F.slot_dict_keyiterator_iter st.typeIs F.entry_dict_keyiterator_iter ?_ (F.args_dict_keyiterator_iter_1 _))
    show wpAny _ _ (ret (.ref it)) _ _ s
    exact wpAny_pure ⟨_, rfl, "dict_keyiterator", _, st.typeIs, F.slot_dict_keyiterator_next.lookup, h⟩
theorem turn_itemsN {xs : List Ent} {elts : List Expr} {kk : Nat} {tpos : Pos} (it : Addr) (hod : o.data = .dict es ep) :
    Turn P w K (.Tuple elts kk tpos) (ItiN P w d o xs) [it] it (fun i h => ∃ ok ov, IsItemIter h it d i xs.length ep ok ov) where
  mem := by simp
  obj := fun i h st b hb => by
    have e : b = it := by simpa using hb
    subst e
    obtain ⟨ok, ov, e⟩ := st
    exact ⟨_, e, fun v z => nomatch z⟩
  keep := fun i h h' st k => let ⟨ok, ov, e⟩ := st; ⟨ok, ov, k it (by simp) _ e⟩
  item := by
    intro X hP hw hK hc i pins s σ H E I hf st hg
    subst hP hw hK
    obtain ⟨hd, hi⟩ := hg
    obtain ⟨hs, hgd, hx, es', ep', hdt, hsz, ent⟩ := frzN I hd
    obtain ⟨rfl, rfl⟩ := dict_ep hod hdt
    obtain ⟨p, hp⟩ : ∃ p, xs[i]? = some p := ⟨xs[i], List.getElem?_eq_getElem hi⟩
    obtain ⟨en, hen, hkey, rv⟩ := ent i p hp
    obtain ⟨ok, ov, he⟩ := st
    rw [← hsz] at he
    have hi' : i < es'.size := by rw [hsz]; exact hi
    obtain ⟨_, hen'⟩ := Array.getElem?_eq_some_iff.mp hen
    have hlt : it < s.heap.objs.size := Heap.lt_size he
    refine DT.nextI he ⟨o, hgd, hx, hdt⟩ hi' fun h' ho hT hz hk => ?_
    rw [hen'] at ho hT
    refine ⟨_, rfl, wpAny_letOwnedTupleGo_items (s := { s with heap := h' }) ho fun h'' he' sb => ?_⟩
    have hT2 : h''.get? s.heap.objs.size = some { cls := .type "tuple", data := .seq #[en.key, en.val] } := (sb.2 _ (Nat.ne_of_gt hlt)).trans hT
    have new : ObjOk X.prog X.w (upd H s.heap.objs.size (.tup [.ref p.2.1, p.2.2])) h'' s.heap.objs.size (.tup [.ref p.2.1, p.2.2]) :=
      ⟨by show 2 ≤ sizeLine; decide, [en.key, en.val], .cons hkey (.cons rv .nil), ⟨_, hT2, rfl, _, rfl⟩⟩
    have I1 : Inv X pins σ (upd H s.heap.objs.size (.tup [.ref p.2.1, p.2.2])) { s with heap := h'' } :=
      I.turnedNew (t' := s.toks) (ch := [it]) (fun b ob hb e => (sb.2 b (by simpa using hb)).trans (hk b ob (by simpa using hb) e)) hf (Nat.le_refl _) new
    refine ⟨.ref s.heap.objs.size, _, I1, rfl, ⟨_, p, hp, rfl, I.hok.fresh (Nat.le_refl _), rfl⟩, ⟨en.key, en.val, ?_⟩, fun b hb => ?_⟩
    · rw [← hsz]; exact he'
    · have e : b = it := by simpa using hb
      rw [e, upd_ne (Nat.ne_of_lt hlt)]
      exact (hf it (by simp)).1
  done := by
    intro X hP hw hK hc i pins s σ H E I hf st hg
    subst hP hw hK
    obtain ⟨hd, hi⟩ := hg
    obtain ⟨f0, f1, f2, f3, f4, f5⟩ := hf it (by simp)
    obtain ⟨hs, hgd, hx, es', ep', hdt, hsz, ent⟩ := frzN I hd
    obtain ⟨rfl, rfl⟩ := dict_ep hod hdt
    obtain ⟨ok, ov, he⟩ := st
    rw [← hsz] at he
    exact DT.endI (I.ok.hd hc) he ⟨o, hgd, hx, hdt⟩ (by rw [hsz]; exact hi) fun h' eb => ⟨rfl, I.turned (t' := s.toks) (fun b ob hb e => eb b ob hb e) f0 f1 f3 f4 f5⟩
  self := fun A i s Q E st h => let ⟨_, _, e⟩ := st; PySem.W.kcp_self e h
end
section
variable {X : Cx} {tg e : Expr} {td : TE} {apos cpos : Pos}
def iKeysN (P : Program) (w : World) (td : TE) : TI := fun σ H R => td σ H fun x H1 => ∃ d o xs, x = .ref d ∧ H1 d = some (.frz o (DN P w d xs)) ∧ R (ItkN P w d o xs) H1
def iItemsN (P : Program) (w : World) (td : TE) : TI := fun σ H R => td σ H fun x H1 => ∃ d o xs, x = .ref d ∧ H1 d = some (.frz o (DN P w d xs)) ∧ R (ItiN P w d o xs) H1
theorem pi_keysN (he : PE X e td) : PI X tg e (iKeysN X.prog X.w td) := by
  refine ⟨fun pins s σ H R I h => ?_⟩
  refine thn (he.run pins s σ H _ I h) fun u s1 ⟨x, H1, I1, rx, d, o, xs, ex, hd, q⟩ => ?_
  subst ex
  obtain rfl : u = Value.ref d := rx
  obtain ⟨hs, hgd, hx, es, ep, hdt, hsz, ent⟩ := frzN I1 hd
  refine iter_keys hs hgd hx hdt (pi_one (tk := s1.toks) I1 _ (turn_keysN _ hdt) ⟨_, Heap.get?_push_size _ rfl, rfl, ?_⟩ q)
  rw [hsz] <;> rfl
theorem pi_itemsN {elts : List Expr} {kk : Nat} {tpos : Pos} (he : PE X e td) (hbase : attributeBase e "items" X.env (eval e X.env) = eval e X.env := by rfl) (hline : (apos.endLine == cpos.line) = true := by rfl) :
    PI X (.Tuple elts kk tpos) (.Call (.Attribute e "items" apos) [] [] cpos) (iItemsN X.prog X.w td) := by
  refine ⟨fun pins s σ H R I h => ?_⟩
  refine wpAny_Call_method (T := "dict") (id := "dict.items") hbase rfl hline F.plainAttrs_dict F.slot_dict_items F.type_dict_items (thn (he.run pins s σ H _ I h) fun u s1 ⟨x, H1, I1, rx, d, o, xs, ex, hd, q⟩ => ?_)
  subst ex
  obtain rfl : u = Value.ref d := rx
  obtain ⟨hs, hgd, hx, es, ep, hdt, hsz, ent⟩ := frzN I1 hd
  refine ⟨⟨o, hgd, hx.1⟩, fun b q => (by cases q; exact ⟨o, hgd, hx.2.1⟩), ?_⟩
  have I2 : Inv X pins σ H1 { s1 with heap := s1.heap.push { cls := .type "dict_items", data := .fields #[.ref d] } } := I1.kept (t' := s1.toks) fun b ob q => Heap.get?_push_of_some _ q
  have fin : wpAny (model X.prog X.w) X.A (pyIter (.ref s1.heap.objs.size)) (PIE X pins σ (.Tuple elts kk tpos) R) X.xe { s1 with heap := s1.heap.push { cls := .type "dict_items", data := .fields #[.ref d] } } := by
    refine DT.iterI (s := { s1 with heap := s1.heap.push { cls := .type "dict_items", data := .fields #[.ref d] } }) ⟨_, Heap.get?_push_size _ rfl, rfl, rfl⟩ (DT.Raw.push ⟨o, hgd, hx, hdt⟩ _) (pi_one (tk := s1.toks) I2 _ (turn_itemsN _ hdt) ⟨.none, .none, ?_⟩ q)
    rw [← hsz]
    exact Heap.get?_push_size _ rfl
  show wpAny _ _ (callWith cpos (.builtin "dict.items") [.ref d] [] []) _ X.xe s1
  exact method_meetsIn F.slot_dict_items F.entry_dict_items rfl (PySem.evalArgs_none ⟨rfl, ⟨o, hgd, hx.1⟩, F.args_dict_items_1 _, _, DT.meetsItems (es := es) (ep := ep) hs, ⟨o, hgd, hx, hdt⟩, fin⟩)
end
end NW

/-! height, ring, spoils, laid, in_order. -/
namespace NW
open PySem PySem.Spec PyProof.Rows L2 NK
/-- a def as its callers have it -/
structure Cal (P : Program) (w : World) (K : PySem.W.Frag) (mg : Str → Option Value) (base : Heap) (k : Nat) (x : Str) (ps : List Str) (sp : Sp) where
  f : Addr
  fd : FuncData
  ok : FnOk P w K mg base CX0 k f fd ps sp
  g : mg x = some (.ref f)
  kp : PySem.W.keepIn K (.ref f) = true
  b : Binds K fd ps []
theorem Same.tups {H H' : Hp} (s : Same H H') : TupS H H' := fun b _ e => s b _ e
theorem new_same {H : Hp} {p : Addr} {o : HO} (h : H p = none) : Same H (upd H p o) := fun b x e => by
  have n : b ≠ p := fun z => by rw [z, h] at e; cases e
  rw [upd_ne n, e]
theorem same_rfl (H : Hp) : Same H H := fun _ _ e => e
theorem PlV.same {H H' : Hp} {v : V} {p : Pl} (h : PlV H v p) (s : Same H H') : PlV H' v p := h.keep (Same.tups s)
theorem LsV.same {α : Type} [DecidableEq α] {E : Enc α} {H H' : Hp} {a : Addr} {xs : List α} (h : LsV E H a xs) (s : Same H H') : LsV E H' a xs := let ⟨us, h1, h2⟩ := h; ⟨us, s _ _ h1, reps_keep (Same.tups s) h2⟩
theorem sgn_bd (n : Int) : (sgn n).natAbs < 2 ^ 2 := by
  unfold sgn
  split
  · decide
  · split <;> decide
theorem height_bd {a d : Pl} (ha : Bd a) (hd : Bd d) : (height a d).natAbs < 2 ^ 403 := by
  have h := bd_sub ha hd
  unfold height
  exact add_lt (mul_lt h.1 h.1) (mul_lt h.2 h.2)
abbrev sRing : Stmt := topS 9
abbrev sSpoils : Stmt := topS 10
abbrev sLaid : Stmt := topS 16
abbrev sInOrder : Stmt := topS 21
section
variable {P : Program} {w : World} {K : PySem.W.Frag} {mg : Str → Option Value} {base : Heap}
theorem scHeight : FnScope ["a", "d"] ["a", "d"] (defScope sHeight) := ⟨rfl, rfl, rfl, by decide +kernel, rfl, by decide +kernel, by decide +kernel⟩
def spHeight : Sp := fun vs H Q _ => ∃ (va vd : V) (a d : Pl), vs = [va, vd] ∧ PlV H va a ∧ PlV H vd d ∧ Q (.int (height a d)) H
theorem ok_height {f : Addr} {fd : FuncData} (F : Fun K "height" "height" sHeight f fd) : FnOk P w K mg base CX0 1 f fd ["a", "d"] spHeight := by
  refine F.ok scHeight (fun vs H Q E h => ?_) (fun cdv A outer s H vs Q E hr h => ?_)
  · obtain ⟨va, vd, a, d, rfl, _⟩ := h
    rfl
  · obtain ⟨va, vd, a, d, rfl, ha, hd, q⟩ := h
    have b := bd_sub ha.bd hd.bd
    refine ⟨_, pss_one (ps_ret (pe_op op_add
      (pe_op op_mulX (pe_op op_sub (pe_p0 (pv 0)) (pe_p0 (pv 1))) (pe_op op_sub (pe_p0 (pv 0)) (pe_p0 (pv 1))))
      (pe_op op_mulX (pe_op op_sub (pe_p1 (pv 0)) (pe_p1 (pv 1))) (pe_op op_sub (pe_p1 (pv 0)) (pe_p1 (pv 1)))))), ?_⟩
    refine ⟨_, rfl, a, ha, _, rfl, d, hd, _, _, rfl, rfl, _, rfl, a, ha, _, rfl, d, hd, _, _, rfl, rfl, _, _, rfl, rfl, mul_x b.1 b.1 (by decide), ?_⟩
    refine ⟨_, rfl, a, ha, _, rfl, d, hd, _, _, rfl, rfl, _, rfl, a, ha, _, rfl, d, hd, _, _, rfl, rfl, _, _, rfl, rfl, mul_x b.2 b.2 (by decide), _, _, rfl, rfl, q⟩
theorem scRing : FnScope ["a", "b", "c", "d", "hand", "bowl"] ["a", "b", "c", "d"] (defScope sRing) := ⟨rfl, rfl, rfl, by decide +kernel, rfl, by decide +kernel, by decide +kernel⟩
def spRing : Sp := fun vs H Q _ => ∃ (va vb vc vd : V) (a b c d : Pl), vs = [va, vb, vc, vd] ∧ PlV H va a ∧ PlV H vb b ∧ PlV H vc c ∧ PlV H vd d ∧ tw a b c ≠ 0 ∧ Q (.int (ring a b c d)) H
theorem sgn_ne {n : Int} (h : n ≠ 0) : sgn n ≠ 0 := by
  unfold sgn
  split
  · decide
  · rw [if_pos (by omega)]; decide
theorem ok_ring {f : Addr} {fd : FuncData} (F : Fun K "ring" "ring" sRing f fd) (cT : Cal P w K mg base 2 "turn" ["a", "b", "c"] spTurn) (cH : Cal P w K mg base 1 "height" ["a", "d"] spHeight)
    (c2 : Cal P w K mg base 1 "twice" ["a", "b", "c"] spTwice) (cS : Cal P w K mg base 1 "sign_of" ["number"] spSign) : FnOk P w K mg base CX0 3 f fd ["a", "b", "c", "d"] spRing := by
  refine F.ok scRing (fun vs H Q E h => ?_) (fun cdv A outer s H vs Q E hr h => ?_)
  · obtain ⟨va, vb, vc, vd, a, b, c, d, rfl, _⟩ := h
    rfl
  · obtain ⟨va, vb, vc, vd, a, b, c, d, rfl, ha, hb, hc, hd, nz, q⟩ := h
    have r1 := hr.mono (show 1 ≤ 2 by decide)
    refine ⟨_, pss_cons (ps_set (i := 4) scRing.nd rfl (.inl rfl) (pe_call cT.ok hr (by rfl) cT.g cT.kp cT.b .nil pass0 (pa_cons (pv 0) (pa_cons (pv 1) (pa_cons (pv 2) pa_nil)))))
      (pss_cons (ps_if (pt_cmpR op_eq (pv 4) pe_int (nomark _)) (pss_one ps_never) pss_nil)
      (pss_cons (ps_set (i := 5) scRing.nd rfl (.inl rfl) (pe_op op_add (pe_op op_add
          (pe_op op_mulX (pe_call cH.ok r1 (by rfl) cH.g cH.kp cH.b .nil pass0 (pa_cons (pv 0) (pa_cons (pv 3) pa_nil))) (pe_call c2.ok r1 (by rfl) c2.g c2.kp c2.b .nil pass0 (pa_cons (pv 3) (pa_cons (pv 1) (pa_cons (pv 2) pa_nil)))))
          (pe_op op_mulX (pe_call cH.ok r1 (by rfl) cH.g cH.kp cH.b .nil pass0 (pa_cons (pv 1) (pa_cons (pv 3) pa_nil))) (pe_call c2.ok r1 (by rfl) c2.g c2.kp c2.b .nil pass0 (pa_cons (pv 3) (pa_cons (pv 2) (pa_cons (pv 0) pa_nil))))))
          (pe_op op_mulX (pe_call cH.ok r1 (by rfl) cH.g cH.kp cH.b .nil pass0 (pa_cons (pv 2) (pa_cons (pv 3) pa_nil))) (pe_call c2.ok r1 (by rfl) c2.g c2.kp c2.b .nil pass0 (pa_cons (pv 3) (pa_cons (pv 0) (pa_cons (pv 1) pa_nil)))))))
      (pss_one (ps_ret (pe_op op_mulX (pv 4) (pe_call cS.ok r1 (by rfl) cS.g cS.kp cS.b .nil pass0 (pa_cons (pv 5) pa_nil))))))), ?_⟩
    refine ⟨_, rfl, _, rfl, _, rfl, va, vb, vc, a, b, c, rfl, ha, hb, hc, ?_⟩
    refine ⟨_, rfl, rfl, _, rfl, ite2 (fun e => ?_) (fun e => ?_)⟩
    · exact (sgn_ne nz (V.int.inj (of_decide_eq_true e))).elim
    · refine ⟨_, rfl, _, rfl, va, vd, a, d, rfl, ha, hd, ?_⟩
      refine ⟨_, rfl, _, rfl, _, rfl, vd, vb, vc, d, b, c, rfl, hd, hb, hc, _, _, rfl, rfl, mul_x (height_bd ha.bd hd.bd) (tw_bd hd.bd hb.bd hc.bd) (by decide), ?_⟩
      refine ⟨_, rfl, _, rfl, vb, vd, b, d, rfl, hb, hd, ?_⟩
      refine ⟨_, rfl, _, rfl, _, rfl, vd, vc, va, d, c, a, rfl, hd, hc, ha, _, _, rfl, rfl, mul_x (height_bd hb.bd hd.bd) (tw_bd hd.bd hc.bd ha.bd) (by decide), _, _, rfl, rfl, ?_⟩
      refine ⟨_, rfl, _, rfl, vc, vd, c, d, rfl, hc, hd, ?_⟩
      refine ⟨_, rfl, _, rfl, _, rfl, vd, va, vb, d, a, b, rfl, hd, ha, hb, _, _, rfl, rfl, mul_x (height_bd hc.bd hd.bd) (tw_bd hd.bd ha.bd hb.bd) (by decide), _, _, rfl, rfl, ?_⟩
      refine ⟨_, rfl, _, rfl, bowl a b c d, rfl, _, _, rfl, rfl, mul_x (sgn_bd _) (sgn_bd _) (by decide), q⟩
/-! ### laid, in_order -/
theorem scLaid : FnScope ["a", "b", "c"] ["a", "b", "c"] (defScope sLaid) := ⟨rfl, rfl, rfl, by decide +kernel, rfl, by decide +kernel, by decide +kernel⟩
def spLaid : Sp := fun vs H Q _ => ∃ (va vb vc : V) (a b c : Pl), vs = [va, vb, vc] ∧ PlV H va a ∧ PlV H vb b ∧ PlV H vc c ∧ ∀ t ws, H t = none → TrV (upd H t (.tup ws)) (.ref t) (laidT a b c) → Q (.ref t) (upd H t (.tup ws))
theorem tr_new {H : Hp} {t : Addr} {u v x : V} {a b c : Pl} (ht : H t = none) (ha : PlV H u a) (hb : PlV H v b) (hc : PlV H x c) : TrV (upd H t (.tup [u, v, x])) (.ref t) (a, b, c) :=
  ⟨t, u, v, x, rfl, upd_same, ha.same (new_same ht), hb.same (new_same ht), hc.same (new_same ht)⟩
theorem sd_new {H : Hp} {t : Addr} {u v : V} {a b : Pl} (ht : H t = none) (ha : PlV H u a) (hb : PlV H v b) : SdV (upd H t (.tup [u, v])) (.ref t) (a, b) :=
  ⟨t, u, v, rfl, upd_same, ha.same (new_same ht), hb.same (new_same ht)⟩
theorem pt_weak {X : Cx} {e : Expr} {t t' : TT} (h : PT X e t) (f : ∀ σ H Q, t' σ H Q → t σ H Q) : PT X e t' := ⟨fun pins s σ H Q I hw => h.run pins s σ H Q I (f _ _ _ hw)⟩
def VarP (σ : L2.St) (H : Hp) (i : Nat) (p : Pl) : Prop := ∃ v, σ[i]? = some (some v) ∧ PlV H v p
def tLt2 (i j k l : Nat) : TT := fun σ H Q => ∃ a b c d, VarP σ H i a ∧ VarP σ H j b ∧ VarP σ H k c ∧ VarP σ H l d ∧ Q (decide (lt a b ∧ lt c d)) H
theorem pt_lt2 {X : Cx} {i j k l : Nat} {e1 e2 e3 e4 : Expr} {p1 p2 p3} (hu : X.A.units + 64 < cLine) (h1 : PE X e1 (tVar i)) (h2 : PE X e2 (tVar j)) (h3 : PE X e3 (tVar k)) (h4 : PE X e4 (tVar l)) :
    PT X (.BoolOp .And [.Compare e1 [.Lt] [e2] p1, .Compare e3 [.Lt] [e4] p2] p3) (tLt2 i j k l) :=
  pt_weak (PW.pt (pw_and (pt_cmpR (op_ltE ePl hu) h1 h2 (nomark _)) (pw_and1 (pt_cmpR (op_ltE ePl hu) h3 h4 (nomark _))))) fun σ H Q ⟨a, b, c, d, ⟨va, ea, ha⟩, ⟨vb, eb, hb⟩, ⟨vc, ec, hc⟩, ⟨vd, ed, hd⟩, q⟩ => by
    refine ⟨va, ea, vb, eb, a, b, ha, hb, _, rfl, ite2 (fun k1 => ?_) (fun k1 => ?_)⟩
    · have k1 : lt a b := of_decide_eq_true k1
      refine ⟨vc, ec, vd, ed, c, d, hc, hd, _, rfl, ?_⟩
      have e : decide (lt a b ∧ lt c d) = decide (lt c d) := decide_eq_decide.mpr ⟨(·.2), fun h => ⟨k1, h⟩⟩
      rw [e] at q
      exact q
    · have e : decide (lt a b ∧ lt c d) = false := decide_eq_false fun h => k1 (decide_eq_true h.1)
      rw [e] at q
      exact q
theorem ok_laid {f : Addr} {fd : FuncData} (F : Fun K "laid" "laid" sLaid f fd) : FnOk P w K mg base CX0 1 f fd ["a", "b", "c"] spLaid := by
  refine F.ok scLaid (fun vs H Q E h => ?_) (fun cdv A outer s H vs Q E hr h => ?_)
  · obtain ⟨va, vb, vc, a, b, c, rfl, _⟩ := h
    rfl
  · obtain ⟨va, vb, vc, a, b, c, rfl, ha, hb, hc, q⟩ := h
    refine ⟨_, pss_cons (ps_if (pt_lt2 hr.units (pv 1) (pv 0) (pv 1) (pv 2))
        (pss_one (ps_ret (pe_tup (pa_cons (pv 1) (pa_cons (pv 2) (pa_cons (pv 0) pa_nil)))))) pss_nil)
      (pss_cons (ps_if (pt_lt2 hr.units (pv 2) (pv 0) (pv 2) (pv 1))
        (pss_one (ps_ret (pe_tup (pa_cons (pv 2) (pa_cons (pv 0) (pa_cons (pv 1) pa_nil)))))) pss_nil)
      (pss_one (ps_ret (pe_tup (pa_cons (pv 0) (pa_cons (pv 1) (pa_cons (pv 2) pa_nil))))))), ?_⟩
    unfold laidT at q
    refine ⟨b, a, b, c, ⟨_, rfl, hb⟩, ⟨_, rfl, ha⟩, ⟨_, rfl, hb⟩, ⟨_, rfl, hc⟩, ite2 (fun e1 => ?_) (fun e1 => ?_)⟩
    · rw [if_pos (of_decide_eq_true e1)] at q
      exact ⟨_, rfl, _, rfl, _, rfl, by show 3 ≤ sizeLine; decide, fun t ht => q t _ ht (tr_new ht hb hc ha)⟩
    · rw [if_neg (by simpa using e1)] at q
      refine ⟨c, a, c, b, ⟨_, rfl, hc⟩, ⟨_, rfl, ha⟩, ⟨_, rfl, hc⟩, ⟨_, rfl, hb⟩, ite2 (fun e2 => ?_) (fun e2 => ?_)⟩
      · rw [if_pos (of_decide_eq_true e2)] at q
        exact ⟨_, rfl, _, rfl, _, rfl, by show 3 ≤ sizeLine; decide, fun t ht => q t _ ht (tr_new ht hc ha hb)⟩
      · rw [if_neg (by simpa using e2)] at q
        exact ⟨_, rfl, _, rfl, _, rfl, by show 3 ≤ sizeLine; decide, fun t ht => q t _ ht (tr_new ht ha hb hc)⟩
theorem scInOrder : FnScope ["a", "b"] ["a", "b"] (defScope sInOrder) := ⟨rfl, rfl, rfl, by decide +kernel, rfl, by decide +kernel, by decide +kernel⟩
def spInOrder : Sp := fun vs H Q _ => ∃ (va vb : V) (a b : Pl), vs = [va, vb] ∧ PlV H va a ∧ PlV H vb b ∧ ∀ t ws, H t = none → SdV (upd H t (.tup ws)) (.ref t) (inOrd a b) → Q (.ref t) (upd H t (.tup ws))
theorem ok_in_order {f : Addr} {fd : FuncData} (F : Fun K "in_order" "in_order" sInOrder f fd) : FnOk P w K mg base CX0 1 f fd ["a", "b"] spInOrder := by
  refine F.ok scInOrder (fun vs H Q E h => ?_) (fun cdv A outer s H vs Q E hr h => ?_)
  · obtain ⟨va, vb, a, b, rfl, _⟩ := h
    rfl
  · obtain ⟨va, vb, a, b, rfl, ha, hb, q⟩ := h
    refine ⟨_, pss_cons (ps_if (pt_cmpR (op_ltE ePl hr.units) (pv 0) (pv 1) (nomark _)) (pss_one (ps_ret (pe_tup (pa_cons (pv 0) (pa_cons (pv 1) pa_nil))))) pss_nil)
      (pss_one (ps_ret (pe_tup (pa_cons (pv 1) (pa_cons (pv 0) pa_nil))))), ?_⟩
    unfold inOrd at q
    refine ⟨_, rfl, _, rfl, a, b, ha, hb, _, rfl, ite2 (fun e1 => ?_) (fun e1 => ?_)⟩
    · rw [if_pos (of_decide_eq_true e1)] at q
      exact ⟨_, rfl, _, rfl, by show 2 ≤ sizeLine; decide, fun t ht => q t _ ht (sd_new ht ha hb)⟩
    · rw [if_neg (fun z => e1 (decide_eq_true z))] at q
      exact ⟨_, rfl, _, rfl, by show 2 ≤ sizeLine; decide, fun t ht => q t _ ht (sd_new ht hb ha)⟩
end
end NW

/-! comprehensions that pick, maps; spoils. -/
namespace NW
open PySem PySem.Spec PyProof.Rows L2 NK
theorem Same.seqT {K : PySem.W.Frag} {H H' : Hp} {a : Addr} {xs : List V} (e : Same H H') (h : SqT K H a xs) : SqT K H' a xs := by
  rcases h with (h | ⟨o, h⟩) | h
  · exact .inl (.inl (e _ _ h))
  · exact .inl (.inr ⟨o, e _ _ h⟩)
  · exact .inr h
theorem dT {p : Prop} {i : Decidable p} (h : @decide p i = true) : p := of_decide_eq_true h
theorem dY {p : Prop} {i : Decidable p} (h : p) : @decide p i = true := decide_eq_true h
theorem dN {p : Prop} {i : Decidable p} (h : ¬ @decide p i = true) : ¬ p := fun k => h (decide_eq_true k)
theorem dE {p : Prop} {i j : Decidable p} : @decide p i = @decide p j := by congr
theorem small {n : Nat} (h : n ≤ 5000) : n < sizeLine := by rw [sizeLine_eq]; omega
theorem small' {n : Nat} (h : n ≤ 5000) : n ≤ sizeLine := by rw [sizeLine_eq]; omega
theorem paired_same {α : Type} [DecidableEq α] {E : Enc α} {H H' : Hp} {us : List V} {xs : List α} (s : Same H H') (h : Paired (E.rep H) us xs) : Paired (E.rep H') us xs := reps_keep (Same.tups s) h
theorem paired_len' {α : Type} {F : V → α → Prop} : ∀ {us : List V} {xs : List α}, Paired F us xs → us.length = xs.length
  | _, _, .nil => rfl
  | _, _, .cons _ r => by rw [List.length_cons, List.length_cons, paired_len' r]
theorem paired_snoc {α : Type} {F : V → α → Prop} {u : V} {x : α} (h : F u x) : ∀ {us : List V} {xs : List α}, Paired F us xs → Paired F (us ++ [u]) (xs ++ [x])
  | _, _, .nil => .cons h .nil
  | _, _, .cons k r => .cons k (paired_snoc h r)
theorem paired_app {α : Type} {F : V → α → Prop} {vs : List V} {ys : List α} (h : Paired F vs ys) : ∀ {us : List V} {xs : List α}, Paired F us xs → Paired F (us ++ vs) (xs ++ ys)
  | _, _, .nil => h
  | _, _, .cons k r => .cons k (paired_app h r)
theorem same_at {H0 H : Hp} {D : Addr} {o' : HO} (s : Same H0 H) (n : H0 D = none) : Same H0 (upd H D o') := fun b x e => by
  have k : b ≠ D := fun z => by rw [z, n] at e; cases e
  rw [upd_ne k]
  exact s b x e
/-- what a walk that picks keeps -/
def Pick {α : Type} [DecidableEq α] (E : Enc α) (H1 : Hp) (D : Addr) (us : List V) (xs : List α) (f : α → Bool) (i : Nat) (H : Hp) : Prop :=
  Same H1 H ∧ ∃ ws, H D = some (.lst ws) ∧ Paired (E.rep H) ws ((xs.take i).filter f) ∧ ws.length ≤ i
theorem wipe_set (σ : L2.St) (j : Nat) (u : Option V) : wipe (List.set (wipe σ [j]) j u) [j] = wipe σ [j] := by
  show ((σ.set j none).set j u).set j none = σ.set j none
  rw [List.set_set, List.set_set]
theorem var_set {σ : L2.St} {j : Nat} (h : j < σ.length) (u : V) : (List.set (wipe σ [j]) j (some u))[j]? = some (some u) := by
  have : j < (wipe σ [j]).length := by show j < (σ.set j none).length; rw [List.length_set]; exact h
  rw [List.getElem?_set_self this]
section
variable {α : Type} [DecidableEq α] {E : Enc α} {K : PySem.W.Frag} {a : Addr} {us : List V} {xs : List α} {σ : L2.St} {H1 : Hp} {D : Addr} {Qd : Hp → Prop} {tt : TT} {j : Nat}
theorem pick_step {f : α → Bool} (hP : Paired (E.rep H1) us xs) (hj : j < σ.length) (hD : H1 D = none) (hl : us.length ≤ 1000)
    (turn : ∀ x u H R, x ∈ xs → Same H1 H → E.rep H u x → (∀ H', Same H H' → R (f x) H') → tt ((wipe σ [j]).set j (some u)) H R) {i : Nat} {u : V} {H : Hp} (hu : us[i]? = some u) (I : Pick E H1 D us xs f i H) {N : Hp → Prop} (hN : ∀ H, Pick E H1 D us xs f (i + 1) H → N H) :
    gName j u (wipe σ [j]) H fun σ2 H2 => wipe σ2 [j] = wipe σ [j] ∧ tt σ2 H2 fun b H3 => if b = true then tVar j σ2 H3 fun y H4 => ∃ acc, H4 D = some (.lst acc) ∧ acc.length < sizeLine ∧ N (upd H4 D (.lst (acc ++ [y]))) else N H3 := by
  obtain ⟨sm, ws, hw, hp, lw⟩ := I
  obtain ⟨x, hx, r⟩ := reps_get hP hu
  have hi : i < xs.length := (List.getElem?_eq_some_iff.mp hx).1
  have r' : E.rep H u x := E.keep r (Same.tups sm)
  have tk : xs.take (i + 1) = xs.take i ++ [x] := by rw [List.take_add_one, hx]; rfl
  refine ⟨wipe_set _ _ _, turn x u H _ (List.mem_of_getElem? hx) sm r' fun H' s' => ?_⟩
  have hw' := s' _ _ hw
  by_cases h : f x = true
  · rw [h]
    refine iteT ⟨u, var_set hj u, ws, hw', small (by have := paired_len' hP; omega), hN _ ⟨same_at (sm.trans s') hD, _, upd_same, ?_, by rw [List.length_append]; simp; omega⟩⟩
    have tp : TupS H' (upd H' D (.lst (ws ++ [u]))) := upd_tups hw' fun _ z => nomatch z
    rw [tk, List.filter_append, List.filter_cons, if_pos h, List.filter_nil]
    exact paired_snoc (E.keep (E.keep r' (Same.tups s')) tp) (reps_keep tp (paired_same s' hp))
  · have h : f x = false := by simpa using h
    rw [h]
    refine iteF (hN _ ⟨sm.trans s', ws, hw', ?_, by omega⟩)
    rw [tk, List.filter_append, List.filter_cons, if_neg (by rw [h]; simp), List.filter_nil, List.append_nil]
    exact paired_same s' hp
theorem pick_start {f : α → Bool} (hD : H1 D = none) : Pick E H1 D us xs f 0 (upd H1 D (.lst [])) := ⟨new_same hD, [], upd_same, .nil, Nat.le_refl _⟩
theorem pick_end {f : α → Bool} {H : Hp} (hP : Paired (E.rep H1) us xs) (I : Pick E H1 D us xs f us.length H) : Same H1 H ∧ ∃ ws, H D = some (.lst ws) ∧ Paired (E.rep H) ws (xs.filter f) := by
  obtain ⟨sm, ws, hw, hp, _⟩ := I
  rw [paired_len' hP, List.take_length] at hp
  exact ⟨sm, ws, hw, hp⟩
/-- [x for x in (a list) if ..] -/
theorem lcF_list (f : α → Bool) (hS : SqL K H1 a us) (hP : Paired (E.rep H1) us xs) (hD : H1 D = none) (hl : us.length ≤ 1000) (hj : j < σ.length)
    (turn : ∀ x u H R, x ∈ xs → Same H1 H → E.rep H u x → (∀ H', Same H H' → R (f x) H') → tt ((wipe σ [j]).set j (some u)) H R)
    (fin : ∀ H' ws, Same H1 H' → H' D = some (.lst ws) → Paired (E.rep H') ws (xs.filter f) → Qd H') :
    ∃ W : Nat → Nat → Hp → Prop, (∃ m, W 0 m (upd H1 D (.lst []))) ∧ ∀ (i m : Nat) (H : Hp), W i m H → (Itl K a).stop i H ∧ Qd H ∨ (Itl K a).go i H ∧ ∃ Nx : Hp → Prop, (∀ H', Nx H' → ∃ m', m' < m ∧ W (i + 1) m' H') ∧ ∀ (x : V) (H' : Hp), (Itl K a).yld i H x H' →
      gName j x (wipe σ [j]) H' fun σ2 H2 => wipe σ2 [j] = wipe σ [j] ∧ tt σ2 H2 fun b H3 => if b = true then tVar j σ2 H3 fun y H4 => ∃ acc, H4 D = some (.lst acc) ∧ acc.length < sizeLine ∧ Nx (upd H4 D (.lst (acc ++ [y]))) else Nx H3 :=
  lc_list (K := K) (a := a) (xs := us) (Qd := Qd) (Pick E H1 D us xs f) (pick_start hD) (fun i H _ I => I.1.seq hS) (fun i u H hu I => pick_step hP hj hD hl turn hu I fun _ h => h)
    (fun H I => let ⟨sm, ws, hw, hp⟩ := pick_end hP I; fin H ws sm hw hp)
theorem lcF_tup (f : α → Bool) (hS : SqT K H1 a us) (hP : Paired (E.rep H1) us xs) (hD : H1 D = none) (hl : us.length ≤ 1000) (hj : j < σ.length)
    (turn : ∀ x u H R, x ∈ xs → Same H1 H → E.rep H u x → (∀ H', Same H H' → R (f x) H') → tt ((wipe σ [j]).set j (some u)) H R)
    (fin : ∀ H' ws, Same H1 H' → H' D = some (.lst ws) → Paired (E.rep H') ws (xs.filter f) → Qd H') :
    ∃ W : Nat → Nat → Hp → Prop, (∃ m, W 0 m (upd H1 D (.lst []))) ∧ ∀ (i m : Nat) (H : Hp), W i m H → (Itt K a).stop i H ∧ Qd H ∨ (Itt K a).go i H ∧ ∃ Nx : Hp → Prop, (∀ H', Nx H' → ∃ m', m' < m ∧ W (i + 1) m' H') ∧ ∀ (x : V) (H' : Hp), (Itt K a).yld i H x H' →
      gName j x (wipe σ [j]) H' fun σ2 H2 => wipe σ2 [j] = wipe σ [j] ∧ tt σ2 H2 fun b H3 => if b = true then tVar j σ2 H3 fun y H4 => ∃ acc, H4 D = some (.lst acc) ∧ acc.length < sizeLine ∧ Nx (upd H4 D (.lst (acc ++ [y]))) else Nx H3 :=
  lc_tup (K := K) (a := a) (xs := us) (Qd := Qd) (Pick E H1 D us xs f) (pick_start hD) (fun i H _ I => Same.seqT I.1 hS) (fun i u H hu I => pick_step hP hj hD hl turn hu I fun _ h => h)
    (fun H I => let ⟨sm, ws, hw, hp⟩ := pick_end hP I; fin H ws sm hw hp)
end
section
variable {P : Program} {w : World} {K : PySem.W.Frag} {mg : Str → Option Value} {base : Heap}
theorem mn_or (a b : Pl) : mn a b = a ∨ mn a b = b := by unfold mn; split; exact .inr rfl; exact .inl rfl
theorem filt2 {a b c : Pl} (h1 : a ≠ b) (h2 : b ≠ c) (h3 : c ≠ a) : ∃ x y, [a, b, c].filter (fun p => decide (p ≠ mn (mn a b) c)) = [x, y] := by
  have m : mn (mn a b) c = a ∨ mn (mn a b) c = b ∨ mn (mn a b) c = c := by
    rcases mn_or (mn a b) c with k | k
    · rcases mn_or a b with k2 | k2
      · exact .inl (k.trans k2)
      · exact .inr (.inl (k.trans k2))
    · exact .inr (.inr k)
  rcases m with m | m | m <;> rw [m]
  · exact ⟨b, c, by simp [h1.symm, h3]⟩
  · exact ⟨a, c, by simp [h1, h2.symm]⟩
  · exact ⟨a, b, by simp [h2, h3.symm]⟩
abbrev nSpoils : List Str := ["a", "b", "c", "d", "where", "least", "one", "other", "p"]
theorem scSpoils : FnScope nSpoils ["a", "b", "c", "d"] (defScope sSpoils) := ⟨rfl, rfl, rfl, by decide +kernel, rfl, by decide +kernel, by decide +kernel⟩
def spSpoils : Sp := fun vs H Q _ => ∃ (va vb vc vd : V) (a b c d : Pl), vs = [va, vb, vc, vd] ∧ PlV H va a ∧ PlV H vb b ∧ PlV H vc c ∧ PlV H vd d ∧ tw a b c ≠ 0 ∧ ∀ H', Same H H' → Q (.bl (spoils a b c d)) H'
theorem ok_spoils {f : Addr} {fd : FuncData} (F : Fun K "spoils" "spoils" sSpoils f fd) (cR : Cal P w K mg base 3 "ring" ["a", "b", "c", "d"] spRing) (cT : Cal P w K mg base 2 "turn" ["a", "b", "c"] spTurn) (mm : mg "min" = none) : FnOk P w K mg base CX0 4 f fd ["a", "b", "c", "d"] spSpoils := by
  refine F.ok scSpoils (fun vs H Q E h => ?_) (fun cdv A outer s H vs Q E hr h => ?_)
  · obtain ⟨va, vb, vc, vd, a, b, c, d, rfl, _⟩ := h
    rfl
  · obtain ⟨va, vb, vc, vd, a, b, c, d, rfl, ha, hb, hc, hd, nz, q⟩ := h
    have r2 := hr.mono (show 2 ≤ 3 by decide)
    refine ⟨_, pss_cons (ps_set (i := 4) scSpoils.nd rfl (.inl rfl) (pe_call cR.ok hr (by rfl) cR.g cR.kp cR.b .nil pass0 (pa_cons (pv 0) (pa_cons (pv 1) (pa_cons (pv 2) (pa_cons (pv 3) pa_nil))))))
      (pss_cons (ps_if (PW.pt (pw_or (pt_cmpR op_ne (pv 4) pe_int (nomark _)) (pw_or1 (pt_cmpR (op_inT ePl hr.units) (pv 3) (pe_tup (pa_cons (pv 0) (pa_cons (pv 1) (pa_cons (pv 2) pa_nil)))) (by rfl)))))
        (pss_one (ps_ret (pe_cmpR op_eq (pv 4) pe_int (nomark _)))) pss_nil)
      (pss_cons (ps_set (i := 5) scSpoils.nd rfl (.inr rfl) (pe_callB (cr_min3 rfl hr.units) (by rfl) mm (by decide +kernel) (pa_cons (pv 0) (pa_cons (pv 1) (pa_cons (pv 2) pa_nil)))))
      (pss_cons (ps_if (pt_cmpR (op_ltE ePl hr.units) (pv 3) (pv 5) (nomark _)) (pss_one (ps_ret pe_bl)) pss_nil)
      (pss_cons (ps_asg (pe_lc (own := [("p", 8)]) (g := gName 8) (by rfl) scSpoils.nd (pi_tup (pe_tup (pa_cons (pv 0) (pa_cons (pv 1) (pa_cons (pv 2) pa_nil))))) (blkOk_by (N := nSpoils) (sc := defScope sSpoils) (by decide +kernel)) (fun _ _ _ _ _ => pg_name (i := 8) scSpoils.nd rfl (Or.inl rfl))
            (fun _ _ _ _ _ => pts_one (pt_cmpR (op_neE ePl hr.units) (pv 8) (pv 5) (nomark _))) (fun _ _ _ _ _ => pv 8))
          (pg_unl rfl (pgs_cons (pg_name (i := 6) scSpoils.nd rfl (.inl rfl)) (pgs_cons (pg_name (i := 7) scSpoils.nd rfl (.inl rfl)) pgs_nil))))
      (pss_one (ps_ret (pe_cmpR op_lt (pe_op op_mulX (pe_call cT.ok r2 (by rfl) cT.g cT.kp cT.b .nil pass0 (pa_cons (pv 6) (pa_cons (pv 7) (pa_cons (pv 5) pa_nil)))) (pe_call cT.ok r2 (by rfl) cT.g cT.kp cT.b .nil pass0 (pa_cons (pv 6) (pa_cons (pv 7) (pa_cons (pv 3) pa_nil))))) pe_int (nomark _)))))))), ?_⟩
    refine ⟨_, rfl, _, rfl, _, rfl, _, rfl, va, vb, vc, vd, a, b, c, d, rfl, ha, hb, hc, hd, nz, ?_⟩
    have H0 : ∀ {H'}, Same H H' → PlV H' va a ∧ PlV H' vb b ∧ PlV H' vc c ∧ PlV H' vd d := fun s => ⟨ha.same s, hb.same s, hc.same s, hd.same s⟩
    -- where != 0 or d in (a, b, c)
    have q1 : ring a b c d ≠ 0 ∨ d ∈ [a, b, c] → spoils a b c d = decide (ring a b c d = 1) := fun h => by unfold spoils; rw [if_pos (by simpa using h)]
    have one : decide (V.int (ring a b c d) = V.int 1) = decide (ring a b c d = 1) := decide_eq_decide.mpr ⟨V.int.inj, fun h => by rw [h]⟩
    refine ⟨_, rfl, rfl, _, rfl, ite2 (fun e => ?_) (fun e => ?_)⟩
    · have e : ring a b c d ≠ 0 := fun z => by rw [z] at e; simp at e
      rw [q1 (.inl e), ← one] at q
      exact ⟨_, rfl, rfl, q H (Same.refl H)⟩
    have e : ring a b c d = 0 := V.int.inj (by simpa using e)
    refine ⟨_, rfl, _, rfl, _, rfl, _, rfl, by show 3 ≤ sizeLine; decide, fun t ht => ?_⟩
    have s1 : Same H (upd H t (.tup [va, vb, vc])) := new_same ht
    obtain ⟨ha1, hb1, hc1, hd1⟩ := H0 s1
    refine ⟨d, t, _, [a, b, c], hd1, rfl, upd_same, .cons ha1 (.cons hb1 (.cons hc1 .nil)), _, rfl, ite2 (fun e2 => ?_) (fun e2 => ?_)⟩
    · rw [q1 (.inr (dT e2)), ← one] at q
      exact ⟨_, rfl, rfl, q _ s1⟩
    have e2 : d ∉ [a, b, c] := dN e2
    have q2 : spoils a b c d = spoilsRest a b c d := by unfold spoils; rw [if_neg (by simp at e2; simp [e, e2])]
    rw [q2] at q
    unfold spoilsRest at q
    generalize upd H t (.tup [va, vb, vc]) = H1 at s1 ha1 hb1 hc1 hd1 ⊢
    -- least
    refine ⟨_, rfl, _, rfl, _, rfl, va, vb, vc, a, b, c, rfl, ha1, hb1, hc1, fun z _ hz => ?_⟩
    refine ⟨_, rfl, _, rfl, d, _, hd1, hz, _, rfl, ite2 (fun e3 => ?_) (fun e3 => ?_)⟩
    · rw [if_pos (of_decide_eq_true e3)] at q
      exact q _ s1
    rw [if_neg (fun k => e3 (decide_eq_true k))] at q
    -- one, other
    obtain ⟨x, y, exy⟩ := filt2 (tw_ne nz).1 (tw_ne nz).2.1 (tw_ne nz).2.2
    rw [exy] at q
    refine ⟨_, rfl, _, rfl, _, rfl, by show 3 ≤ sizeLine; decide, fun T hT => ⟨T, rfl, ⟨_, SqT.of upd_same⟩, fun D hD => ?_⟩⟩
    have s2 : Same H1 (upd H1 T (.tup [va, vb, vc])) := new_same hT
    refine lcF_tup (j := 8) (E := ePl) (xs := [a, b, c]) (fun p => decide (p ≠ mn (mn a b) c)) (SqT.of upd_same) (.cons (ha1.same s2) (.cons (hb1.same s2) (.cons (hc1.same s2) .nil))) hD (by simp) ?_ (fun p u H2 R hp sm hu k => ?_) (fun H2 ws sm hw hp => ?_)
    · exact (by decide : 8 < 9)
    · have hz2 : PlV H2 z _ := (hz.same s2).same sm
      refine ⟨_, rfl, _, rfl, p, _, hu, hz2, _, rfl, ?_⟩
      have : (!decide (p = mn (mn a b) c)) = decide (p ≠ mn (mn a b) c) := by simp
      rw [this]
      exact k H2 (Same.refl H2)
    · rw [exy] at hp
      have sm2 := s2.trans sm
      match ws, hp with
      | [u, v], .cons hu (.cons hv .nil) =>
        refine ⟨D, [u, v], rfl, SqL.of hw, rfl, u, [v], rfl, v, [], rfl, rfl, ?_⟩
        have hz2 := hz.same sm2
        refine ⟨_, rfl, _, rfl, _, rfl, u, v, z, x, y, _, rfl, hu, hv, hz2, _, rfl, _, rfl, _, rfl, u, v, vd, x, y, d, rfl, hu, hv, hd1.same sm2, _, _, rfl, rfl, mul_x (sgn_bd _) (sgn_bd _) (by decide), _, _, rfl, rfl, ?_⟩
        exact q _ (s1.trans sm2)
end
end NW

/-! thread. -/
namespace NW
open PySem PySem.Spec PyProof.Rows L2 NK
theorem atI_end {α : Type} {us : List α} {k : Nat} {v : α} (h0 : 0 < k) (hk : k ≤ us.length) (h : us[us.length - k]? = some v) : atI us (-(k : Int)) = some v := by
  unfold atI
  have e : ixN us.length (-(k : Int)) = some (us.length - k) := by
    unfold ixN
    rw [if_neg (by omega), if_pos (by omega)]
    congr 1
    omega
  rw [e]
  exact h
theorem paired_drop {α : Type} {F : V → α → Prop} : ∀ {us : List V} {xs : List α}, Paired F us xs → Paired F us.dropLast xs.dropLast
  | _, _, .nil => .nil
  | _, _, .cons _ .nil => .nil
  | _, _, .cons h (.cons h2 r) => .cons h (paired_drop (.cons h2 r))
theorem at_end1 {F : V → Pl → Prop} {us : List V} {y : Pl} {r : List Pl} (h : Paired F us (y :: r).reverse) : ∃ u, us[us.length - 1]? = some u ∧ F u y ∧ 1 ≤ us.length := by
  have hl := paired_len' h
  rw [List.reverse_cons, List.length_append, List.length_reverse] at hl
  simp only [List.length_cons, List.length_nil] at hl
  have hx : (y :: r).reverse[us.length - 1]? = some y := by
    rw [List.reverse_cons, List.getElem?_append_right (by rw [List.length_reverse]; omega), List.length_reverse, show us.length - 1 - r.length = 0 by omega]
    rfl
  obtain ⟨u, h1, h2⟩ := reps_get' h hx
  exact ⟨u, h1, h2, by omega⟩
theorem at_end2 {F : V → Pl → Prop} {us : List V} {y x : Pl} {r : List Pl} (h : Paired F us (y :: x :: r).reverse) : ∃ u, us[us.length - 2]? = some u ∧ F u x ∧ 2 ≤ us.length := by
  have hl := paired_len' h
  rw [List.length_reverse] at hl
  simp only [List.length_cons] at hl
  have hx : (y :: x :: r).reverse[us.length - 2]? = some x := by
    rw [List.reverse_cons, List.reverse_cons, List.append_assoc, List.getElem?_append_right (by rw [List.length_reverse]; omega), List.length_reverse, show us.length - 2 - r.length = 0 by omega]
    rfl
  obtain ⟨u, h1, h2⟩ := reps_get' h hx
  exact ⟨u, h1, h2, by omega⟩
def popT : List Pl → Pl → Bool
  | y :: x :: _, p => decide (tw x y p < 0)
  | _, _ => false
theorem popS_T {st : List Pl} {p : Pl} (h : popT st p = true) : ∃ y x r, st = y :: x :: r ∧ popS st p = popS (x :: r) p := by
  match st, h with
  | y :: x :: r, h => exact ⟨y, x, r, rfl, by rw [popS, if_pos (of_decide_eq_true h)]⟩
theorem popS_F {st : List Pl} {p : Pl} (h : popT st p = false) : popS st p = st := by
  match st, h with
  | [], _ => rfl
  | [y], _ => rfl
  | y :: x :: r, h => rw [popS, if_neg (of_decide_eq_false h)]
theorem popS_len (p : Pl) : ∀ st : List Pl, (popS st p).length ≤ st.length
  | [] => Nat.le_refl _
  | [y] => Nat.le_refl _
  | y :: x :: r => by
    rw [popS]
    split
    · have := popS_len p (x :: r)
      simp only [List.length_cons] at this ⊢
      omega
    · exact Nat.le_refl _
theorem threadS_snoc (st xs : List Pl) (p : Pl) : threadS st (xs ++ [p]) = p :: popS (threadS st xs) p := by unfold threadS; rw [List.foldl_append]; rfl
theorem threadS_len (xs : List Pl) : ∀ st, (threadS st xs).length ≤ st.length + xs.length := by
  induction xs with
  | nil => intro st; exact Nat.le_refl _
  | cons p xs ih =>
    intro st
    have h := ih (p :: popS st p)
    have := popS_len p st
    show (threadS (p :: popS st p) xs).length ≤ _
    simp only [List.length_cons] at h ⊢
    omega
abbrev sThread : Stmt := topS 12
/-- the list at a place, its length -/
def lstLen (H : Hp) (l : Addr) : Nat := match H l with
  | some (.lst us) => us.length
  | _ => 0
section
variable {P : Program} {w : World} {K : PySem.W.Frag} {mg : Str → Option Value} {base : Heap}
abbrev nThread : List Str := ["row", "found", "p"]
theorem scThread : FnScope nThread ["row"] (defScope sThread) := ⟨rfl, rfl, rfl, by decide +kernel, rfl, by decide +kernel, by decide +kernel⟩
def spThread : Sp := fun vs H Q _ => ∃ (a : Addr) (xs : List Pl), vs = [.ref a] ∧ LsV ePl H a xs ∧ xs.length ≤ 900 ∧ ∀ H' l, Same H H' → H l = none → LsV ePl H' l (thread xs) → Q (.ref l) H'
def tTh : TT := fun σ H Q => ∃ l us st p, σ[1]? = some (some (.ref l)) ∧ H l = some (.lst us) ∧ Paired (PlV H) us st.reverse ∧ VarP σ H 2 p ∧ Q (popT st p) H
theorem ok_thread {f : Addr} {fd : FuncData} (F : Fun K "thread" "thread" sThread f fd) (cT : Cal P w K mg base 2 "turn" ["a", "b", "c"] spTurn) (ml : mg "len" = none) : FnOk P w K mg base CX0 3 f fd ["row"] spThread := by
  refine F.ok scThread (fun vs H Q E h => ?_) (fun cdv A outer s H vs Q E hr h => ?_)
  · obtain ⟨a, xs, rfl, _⟩ := h
    rfl
  · obtain ⟨a, xs, rfl, hA, hlen, q⟩ := h
    refine ⟨_, pss_cons (ps_set (i := 1) scThread.nd rfl (.inl rfl) (pe_lst pa_nil))
      (pss_cons (ps_for PassesOwn.never rfl (pi_list (pv 0)) (pg_name (i := 2) scThread.nd rfl (Or.inl rfl))
        (pss_cons (ps_while PassesOwn.never (pt_weak (t' := tTh) (PW.pt (pw_and (pt_cmpR op_gt (pe_callB call_len_seq (by rfl) ml PySem.boot_len (pa_cons (pv 1) pa_nil)) pe_int (nomark _))
              (pw_and1 (pt_cmpR op_lt (pe_call cT.ok hr (by rfl) cT.g cT.kp cT.b .nil pass0 (pa_cons (pe_ix ix_list (pv 1) (pe_un un_neg pe_int) (fun _ _ => rfl)) (pa_cons (pe_ix ix_list (pv 1) (pe_un un_neg pe_int) (fun _ _ => rfl)) (pa_cons (pv 2) pa_nil)))) pe_int (nomark _))))) ?_)
            (pss_one (ps_expr (pe_bm0 PySem.F.plainAttrs_list PySem.F.slot_list_pop PySem.F.type_list_pop mt_pop (pv 1)))))
        (pss_one (ps_expr (pe_bm PySem.F.plainAttrs_list PySem.F.slot_list_append PySem.F.type_list_append mt_append (pv 1) (pa_cons (pv 2) pa_nil))))))
      (pss_one (ps_ret (pv 1)))), ?_⟩
    · rintro σ H Q ⟨l, us, st, p, e1, hl, hp, ⟨vp, e2, r2⟩, k⟩
      refine ⟨_, e1, l, us, rfl, .inl (SqL.of hl), _, _, rfl, rfl, _, rfl, ite2 (fun h => ?_) (fun h => ?_)⟩
      · match st, hp, k with
        | y :: x :: r, hp, k =>
          obtain ⟨u1, g1, f1, n1⟩ := at_end1 hp
          obtain ⟨u2, g2, f2, n2⟩ := at_end2 hp
          refine ⟨_, e1, _, rfl, l, us, _, u2, rfl, rfl, SqL.of hl, atI_end (k := 2) (by omega) n2 g2, _, e1, _, rfl, l, us, _, u1, rfl, rfl, SqL.of hl, atI_end (k := 1) (by omega) n1 g1, _, e2, u2, u1, vp, x, y, p, rfl, f2, f1, r2, _, _, rfl, rfl, _, rfl, ?_⟩
          have e : decide (turn x y p < 0) = decide (tw x y p < 0) := by
            refine decide_eq_decide.mpr ?_
            unfold turn sgn
            split
            · omega
            · split <;> omega
          rw [e]
          exact k
        | [y], hp, _ => exfalso; have : us.length = 1 := paired_len' hp; have h := of_decide_eq_true h; omega
        | [], hp, _ => exfalso; have : us.length = 0 := paired_len' hp; have h := of_decide_eq_true h; omega
      · match st, hp, k with
        | y :: x :: r, hp, _ => exfalso; have : us.length = r.length + 2 := (by have := paired_len' hp; rw [List.length_reverse] at this; exact this); exact h (decide_eq_true (by omega))
        | [y], hp, k => exact k
        | [], hp, k => exact k
    · refine ⟨Nat.zero_le _, fun l nl => ?_⟩
      obtain ⟨us, ha, hp⟩ := hA
      have s1 : Same H (upd H l (.lst [])) := new_same nl
      refine ⟨_, rfl, a, rfl, ⟨_, SqL.of (s1 _ _ ha)⟩, for_list (xs := us) (fun i σ H3 => ∃ y, σ = [some (.ref a), some (.ref l), y] ∧ Same H H3 ∧ LsV ePl H3 l (threadS [] (xs.take i)).reverse) ⟨none, rfl, s1, _, upd_same, .nil⟩
        (fun i σ H3 _ ⟨y, _, sm, _⟩ => SqL.of (sm _ _ ha)) (fun i u σ H3 hu ⟨y, es, sm, hL⟩ => ?_) (fun σ H3 ⟨y, es, sm, hL⟩ => ?_)⟩
      · subst es
        obtain ⟨p, hx, r⟩ := reps_get hp hu
        have r3 : PlV H3 u p := PlV.same r sm
        obtain ⟨ws, hw, hwp⟩ := hL
        refine while_by (fun σ H' => σ = [some (.ref a), some (.ref l), some u] ∧ Same H H' ∧ ∃ (ws : List V) (st : List Pl), H' l = some (.lst ws) ∧ Paired (PlV H') ws st.reverse ∧ popS st p = popS (threadS [] (xs.take i)) p ∧ st.length ≤ i) (fun σ H' => lstLen H' l)
          ⟨rfl, sm, ws, threadS [] (xs.take i), hw, hwp, rfl, ?_⟩ (fun σ H4 ⟨es, sm4, ws4, st, hw4, hp4, epop, hst⟩ => ?_) (fun σ H Q Q' hq ⟨l, us, st, p, e1, hl, hp, hv, k⟩ => ⟨l, us, st, p, e1, hl, hp, hv, hq _ _ k⟩)
        · have := threadS_len (xs.take i) []
          rw [List.length_take] at this
          simp at this
          omega
        · subst es
          refine ⟨l, ws4, st, p, rfl, hw4, hp4, ⟨u, rfl, PlV.same r sm4⟩, ite2 (fun h => ?_) (fun h => ?_)⟩
          · obtain ⟨y, x, r', est, ep⟩ := popS_T h
            subst est
            obtain ⟨u1, g1, f1, n1⟩ := at_end1 hp4
            refine ⟨_, rfl, .inl ⟨rfl, _, SqL.of hw4⟩, l, ws4, u1, rfl, rfl, hw4, g1, ⟨rfl, same_at sm4 nl, ws4.dropLast, x :: r', upd_same, ?_, by rw [← ep]; exact epop, by simp at hst ⊢; omega⟩, ?_⟩
            · have := reps_keep (E := ePl) (upd_tups (o' := .lst ws4.dropLast) hw4 fun _ z => nomatch z) (paired_drop hp4)
              rw [List.reverse_cons, List.dropLast_concat] at this
              exact this
            · unfold lstLen
              rw [upd_same, hw4]
              simp only [List.length_dropLast]
              omega
          · have ep := popS_F (by simpa using h : popT st p = false)
            refine ⟨_, rfl, .inl ⟨rfl, _, SqL.of hw4⟩, _, rfl, l, _, _, rfl, rfl, hw4, small ?_, ?_⟩
            · have := paired_len' hp4
              rw [List.length_reverse] at this
              have hi : i < us.length := (List.getElem?_eq_some_iff.mp hu).1
              have := paired_len' hp
              omega
            · refine ⟨some u, rfl, same_at sm4 nl, ws4 ++ [u], upd_same, ?_⟩
              have tp := upd_tups (o' := .lst (ws4 ++ [u])) hw4 fun _ z => nomatch z
              have tk : xs.take (i + 1) = xs.take i ++ [p] := by rw [List.take_add_one, hx]; rfl
              rw [tk, threadS_snoc, ← epop, ep, List.reverse_cons]
              exact reps_keep (E := ePl) tp (paired_snoc (PlV.same r sm4) hp4)
      · subst es
        rw [paired_len' hp, List.take_length] at hL
        exact ⟨_, rfl, q H3 l sm nl hL⟩
end
end NW

/-! outline, rim. -/
namespace NW
open PySem PySem.Spec PyProof.Rows L2 NK
theorem srt_ePl (xs : List Pl) : srt ePl xs = srtP xs := rfl
theorem srt_eTr (xs : List Tri) : srt eTr xs = srtT xs := rfl
theorem cutV_init (us : List V) : cutV us none (some (-1)) = us.dropLast := by
  unfold cutV
  have e1 : HT.sIx us.length 0 none = 0 := rfl
  have e2 : HT.sIx us.length us.length (some (-1)) = us.length - 1 := by
    show (if (-1 : Int) < 0 then ((-1 : Int) + (us.length : Int)).toNat else min (-1 : Int).toNat us.length) = _
    rw [if_pos (by decide)]
    omega
  rw [e1, e2, List.drop_zero, Nat.sub_zero, List.dropLast_eq_take]
theorem LsV.len {α : Type} [DecidableEq α] {E : Enc α} {H : Hp} {a : Addr} {xs : List α} {us : List V} (h : LsV E H a xs) (e : H a = some (.lst us)) : us.length = xs.length := by
  obtain ⟨ws, h1, h2⟩ := h
  rw [h1] at e
  have e := HO.lst.inj (Option.some.inj e)
  subst e
  exact paired_len' h2
theorem srtP_len (xs : List Pl) : (srtP xs).length = xs.length := (srtBy_perm lt xs).length_eq
theorem srtT_len (xs : List Tri) : (srtT xs).length = xs.length := (srtBy_perm ltT xs).length_eq
theorem thread_len (xs : List Pl) : (thread xs).length ≤ xs.length := by
  unfold thread
  have := threadS_len xs []
  rw [List.length_reverse]
  simpa using this
theorem paired_rev {α : Type} {F : V → α → Prop} : ∀ {us : List V} {xs : List α}, Paired F us xs → Paired F us.reverse xs.reverse
  | _, _, .nil => .nil
  | _, _, .cons h r => by
    rw [List.reverse_cons, List.reverse_cons]
    exact paired_snoc h (paired_rev r)
theorem ixl {X : Cx} {K : PySem.W.Frag} (h : X.K = K) : IxR X (rIxL K) := h ▸ ix_list
theorem ixt {X : Cx} {K : PySem.W.Frag} (h : X.K = K) : IxR X (rIxT K) := h ▸ ix_tup
abbrev sOutline : Stmt := topS 13
abbrev sRim : Stmt := topS 14
section
variable {P : Program} {w : World} {K : PySem.W.Frag} {mg : Str → Option Value} {base : Heap}
abbrev nOutline : List Str := ["places", "row", "there", "back"]
theorem scOutline : FnScope nOutline ["places"] (defScope sOutline) := ⟨rfl, rfl, rfl, by decide +kernel, rfl, by decide +kernel, by decide +kernel⟩
def spOutline : Sp := fun vs H Q _ => ∃ (a : Addr) (xs : List Pl), vs = [.ref a] ∧ LsV ePl H a xs ∧ xs.length ≤ 900 ∧ ∀ H' l, Same H H' → H l = none → LsV ePl H' l (outlineP xs) → Q (.ref l) H'
theorem ok_outline {f : Addr} {fd : FuncData} (F : Fun K "outline" "outline" sOutline f fd) (cT : Cal P w K mg base 3 "thread" ["row"] spThread) (ms : mg "sorted" = none) (ml : mg "len" = none) (mi : mg "list" = none) (mr : mg "reversed" = none) : FnOk P w K mg base CX0 4 f fd ["places"] spOutline := by
  refine F.ok scOutline (fun vs H Q E h => ?_) (fun cdv A outer s H vs Q E hr h => ?_)
  · obtain ⟨a, xs, rfl, _⟩ := h
    rfl
  · obtain ⟨a, xs, rfl, hA, hlen, q⟩ := h
    refine ⟨_, pss_cons (ps_set (i := 1) scOutline.nd rfl (.inl rfl) (pe_callB (cr_sortE ePl hr.units) (by rfl) ms (by decide +kernel) (pa_cons (pv 0) pa_nil)))
      (pss_cons (ps_if (pt_cmpR op_lt (pe_callB call_len_seq (by rfl) ml PySem.boot_len (pa_cons (pv 1) pa_nil)) pe_int (nomark _)) (pss_one (ps_ret (pv 1))) pss_nil)
      (pss_cons (ps_set (i := 2) scOutline.nd rfl (.inl rfl) (pe_call cT.ok hr (by rfl) cT.g cT.kp cT.b .nil pass0 (pa_cons (pv 1) pa_nil)))
      (pss_cons (ps_set (i := 3) scOutline.nd rfl (.inl rfl) (pe_call cT.ok hr (by rfl) cT.g cT.kp cT.b .nil pass0 (pa_cons (pe_listRev rfl (by rfl) mi (by rfl) mr (pv 1)) pa_nil)))
      (pss_one (ps_ret (pe_op op_cat (pe_slice sl_list (pv 2) po_none (po_some (pe_un un_neg pe_int))) (pe_slice sl_list (pv 3) po_none (po_some (pe_un un_neg pe_int))))))))), ?_⟩
    refine ⟨_, rfl, a, xs, rfl, hA, fun r us nr hp => ?_⟩
    rw [srt_ePl] at hp
    have s1 : Same H (upd H r (.lst us)) := new_same nr
    have hR : LsV ePl (upd H r (.lst us)) r (srtP xs) := ⟨us, upd_same, paired_same s1 hp⟩
    have hlr : us.length = (srtP xs).length := paired_len' hp
    have hl2 := srtP_len xs
    generalize eH1 : upd H r (.lst us) = H1 at s1 hR ⊢
    have hr1 : H1 r = some (.lst us) := by rw [← eH1]; exact upd_same
    unfold outlineP at q
    refine ⟨_, rfl, r, us, rfl, .inl (SqL.of hr1), _, _, rfl, rfl, _, rfl, ite2 (fun e => ?_) (fun e => ?_)⟩
    · have e := of_decide_eq_true e
      simp only [if_pos (show (srtP xs).length < 2 by omega)] at q
      exact ⟨_, rfl, q H1 r s1 nr hR⟩
    · have e : ¬ (us.length : Int) < 2 := dN e
      simp only [if_neg (show ¬ (srtP xs).length < 2 by omega)] at q
      refine ⟨_, rfl, r, srtP xs, rfl, hR, by omega, fun H2 t1 s2 n1 h1 => ?_⟩
      refine ⟨_, rfl, r, us, rfl, SqL.of (s2 _ _ hr1), fun b nb => ?_⟩
      have s3 : Same H2 (upd H2 b (.lst us.reverse)) := new_same nb
      refine ⟨b, (srtP xs).reverse, rfl, ⟨us.reverse, upd_same, paired_same ((s1.trans s2).trans s3) (paired_rev hp)⟩, by rw [List.length_reverse]; omega, fun H3 t2 s4 n2 h2 => ?_⟩
      have h1' := h1.same (s3.trans s4)
      obtain ⟨u1, g1, p1⟩ := h1'
      obtain ⟨u2, g2, p2⟩ := h2
      refine ⟨_, rfl, _, rfl, _, rfl, t1, u1, rfl, SqL.of g1, fun c nc => ?_⟩
      have s5 : Same H3 (upd H3 c (.lst (cutV u1 none (some (-1))))) := new_same nc
      refine ⟨_, rfl, _, rfl, _, rfl, t2, u2, rfl, SqL.of (s5 _ _ g2), fun d nd => ?_⟩
      have s6 : Same (upd H3 c (.lst (cutV u1 none (some (-1))))) (upd (upd H3 c (.lst (cutV u1 none (some (-1))))) d (.lst (cutV u2 none (some (-1))))) := new_same nd
      refine ⟨c, d, _, _, rfl, rfl, s6 _ _ upd_same, upd_same, ?_, fun z nz => ?_⟩
      · have k1 := cutV_length u1 none (some (-1))
        have k2 := cutV_length u2 none (some (-1))
        have k3 := paired_len' p1
        have k4 := paired_len' p2
        have k5 := thread_len (srtP xs)
        have k6 := thread_len (srtP xs).reverse
        rw [List.length_reverse] at k6
        exact small' (by omega)
      · have s7 := new_same (o := .lst (cutV u1 none (some (-1)) ++ cutV u2 none (some (-1)))) nz
        have sA := (s5.trans s6).trans s7
        have sB := ((s1.trans s2).trans (s3.trans s4)).trans (s5.trans s6)
        refine q _ z (sB.trans s7) (sB.free nz) ⟨_, upd_same, ?_⟩
        have pz := paired_same sA (paired_app (paired_drop p2) (paired_drop p1))
        rw [← cutV_init u1, ← cutV_init u2] at pz
        exact pz
abbrev nRim : List Str := ["places", "row", "k"]
theorem scRim : FnScope nRim ["places"] (defScope sRim) := ⟨rfl, rfl, rfl, by decide +kernel, rfl, by decide +kernel, by decide +kernel⟩
def spRim : Sp := fun vs H Q _ => ∃ (a : Addr) (xs : List Pl), vs = [.ref a] ∧ LsV ePl H a xs ∧ xs.length ≤ 400 ∧ ∀ H' l, Same H H' → H l = none → LsV eSd H' l (rimP xs) → Q (.ref l) H'
theorem edges_get : ∀ (l : List Pl) (i : Nat) (x y : Pl), l[i]? = some x → l[i + 1]? = some y → (edges l)[i]? = some (x, y)
  | [], _, _, _, h, _ => by simp at h
  | [_], 0, _, _, _, h => by simp at h
  | [_], i + 1, _, _, h, _ => by simp at h
  | a :: b :: r, 0, x, y, h, h2 => by
    have e1 : a = x := Option.some.inj h
    have e2 : b = y := Option.some.inj h2
    rw [← e1, ← e2]
    rfl
  | a :: b :: r, i + 1, x, y, h, h2 => edges_get (b :: r) i x y h h2
theorem edges_len : ∀ l : List Pl, (edges l).length = l.length - 1
  | [] => rfl
  | [_] => rfl
  | x :: y :: r => by
    show (edges (y :: r)).length + 1 = (y :: r).length + 1 - 1
    rw [edges_len (y :: r)]
    simp
theorem rimL_len {o : List Pl} (h : 2 ≤ o.length) : (rimL o).length = o.length := by
  unfold rimL
  rw [dif_pos h, List.length_cons, edges_len]
  omega
theorem rimL_get {o : List Pl} (h : 2 ≤ o.length) {i : Nat} {y : Pl} (hy : o[i]? = some y) : ∃ x, (rimL o)[i]? = some (x, y) ∧ (i = 0 → o[o.length - 1]? = some x) ∧ (0 < i → o[i - 1]? = some x) := by
  have hi : i < o.length := (List.getElem?_eq_some_iff.mp hy).1
  unfold rimL
  rw [dif_pos h]
  cases i with
  | zero =>
    refine ⟨o.getLast (by intro e; simp [e] at h), ?_, fun _ => ?_, fun h => absurd h (by omega)⟩
    · rw [List.getElem?_cons_zero]
      have : o[0]'(by omega) = y := by rw [List.getElem?_eq_getElem (by omega)] at hy; exact Option.some.inj hy
      rw [this]
    · rw [← List.getLast?_eq_getElem?, List.getLast?_eq_some_getLast]
  | succ i =>
    refine ⟨o[i]'(by omega), ?_, fun h => absurd h (by omega), fun _ => by rw [Nat.add_sub_cancel, List.getElem?_eq_getElem]⟩
    rw [List.getElem?_cons_succ]
    exact edges_get o i _ _ (List.getElem?_eq_getElem (by omega)) hy
theorem outline_len (xs : List Pl) : (outlineP xs).length ≤ 2 * xs.length := by
  unfold outlineP
  have h := srtP_len xs
  have k1 := thread_len (srtP xs)
  have k2 := thread_len (srtP xs).reverse
  rw [List.length_reverse] at k2
  simp only
  split
  · omega
  · rw [List.length_append, List.length_dropLast, List.length_dropLast]
    omega
theorem ok_rim {f : Addr} {fd : FuncData} (F : Fun K "rim" "rim" sRim f fd) (cO : Cal P w K mg base 4 "outline" ["places"] spOutline) (ml : mg "len" = none) (mr : mg "range" = none) : FnOk P w K mg base CX0 5 f fd ["places"] spRim := by
  refine F.ok scRim (fun vs H Q E h => ?_) (fun cdv A outer s H vs Q E hr h => ?_)
  · obtain ⟨a, xs, rfl, _⟩ := h
    rfl
  · obtain ⟨a, xs, rfl, hA, hlen, q⟩ := h
    refine ⟨_, pss_cons (ps_set (i := 1) scRim.nd rfl (.inr rfl) (pe_call cO.ok hr (by rfl) cO.g cO.kp cO.b .nil pass0 (pa_cons (pv 0) pa_nil)))
      (pss_cons (ps_if (pt_cmpR op_lt (pe_callB call_len_seq (by rfl) ml PySem.boot_len (pa_cons (pv 1) pa_nil)) pe_int (nomark _)) (pss_one (ps_ret (pe_lst pa_nil))) pss_nil)
      (pss_one (ps_ret (pe_lc (own := [("k", 2)]) (g := gName 2) (by rfl) scRim.nd (pi_range1 (by rfl) mr (pa_cons (pe_callB call_len_seq (by rfl) ml PySem.boot_len (pa_cons (pv 1) pa_nil)) pa_nil)) (blkOk_by (N := nRim) (sc := defScope sRim) (by decide +kernel)) (fun _ _ _ _ _ => pg_name (i := 2) scRim.nd rfl (Or.inl rfl))
            (fun _ _ _ _ _ => pts_nil) (fun _ _ _ _ _ => pe_tup (pa_cons (pe_ix (ixl (K := K) rfl) (pv 1) (pe_op op_sub (pv 2) pe_int) (fun _ _ => rfl)) (pa_cons (pe_ix (ixl (K := K) rfl) (pv 1) (pv 2) (fun _ _ => rfl)) pa_nil))))))), ?_⟩
    refine ⟨_, rfl, a, xs, rfl, hA, by omega, fun H1 o s1 no hO => ?_⟩
    have ol := outline_len xs
    unfold rimP at q
    generalize outlineP xs = O at q hO ol
    obtain ⟨us, ho, hp⟩ := hO
    have hl := paired_len' hp
    refine ⟨_, rfl, o, us, rfl, .inl (SqL.of ho), _, _, rfl, rfl, _, rfl, ite2 (fun e => ?_) (fun e => ?_)⟩
    · have e := of_decide_eq_true e
      refine ⟨Nat.zero_le _, fun l nl => q _ l (s1.trans (new_same nl)) (s1.free nl) ⟨[], upd_same, ?_⟩⟩
      unfold rimL
      rw [dif_neg (by omega)]
      exact .nil
    · have e : ¬ (us.length : Int) < 2 := dN e
      have l2 : 2 ≤ O.length := by omega
      refine ⟨_, rfl, o, us, rfl, .inl (SqL.of ho), _, rfl, by omega, by omega, fun D nD => ?_⟩
      refine lc_range (lo := 0) (fun i H => Same H1 H ∧ ∃ ws, H D = some (.lst ws) ∧ Paired (SdV H) ws ((rimL O).take i)) ⟨new_same nD, [], upd_same, .nil⟩ (fun i H2 hi ⟨sm, ws, hw, hpw⟩ => ?_) (fun H2 ⟨sm, ws, hw, hpw⟩ => ?_)
      · have hi : i < us.length := by omega
        obtain ⟨v, hv⟩ : ∃ v, us[i]? = some v := ⟨us[i], List.getElem?_eq_getElem hi⟩
        obtain ⟨y, hy, ry⟩ := reps_get hp hv
        obtain ⟨x, hg, h0, h1⟩ := rimL_get l2 hy
        have ho2 := sm _ _ ho
        obtain ⟨u, hu, rx⟩ : ∃ u, atI us ((0 : Int) + (i : Int) - 1) = some u ∧ ePl.rep H1 u x := by
          by_cases hz : i = 0
          · obtain ⟨u, hu, r⟩ := reps_get' hp (h0 hz)
            refine ⟨u, ?_, r⟩
            subst hz
            exact atI_end (k := 1) (by omega) (by omega) (by rw [hl]; exact hu)
          · obtain ⟨u, hu, r⟩ := reps_get' hp (h1 (by omega))
            refine ⟨u, ?_, r⟩
            rw [show (0 : Int) + (i : Int) - 1 = ((i - 1 : Nat) : Int) by omega]
            exact atI_nat hu
        have hv' : atI us ((0 : Int) + (i : Int)) = some v := by rw [Int.zero_add]; exact atI_nat hv
        refine ⟨rfl, ?_⟩
        refine ⟨_, rfl, _, rfl, _, _, rfl, rfl, o, us, _, u, rfl, rfl, SqL.of ho2, hu, _, rfl, _, rfl, o, us, _, v, rfl, rfl, SqL.of ho2, hv', by show 2 ≤ sizeLine; decide, fun t nt => ?_⟩
        have st : Same H2 (upd H2 t (.tup [u, v])) := new_same nt
        refine ⟨ws, st _ _ hw, small ?_, same_at (sm.trans st) nD, _, upd_same, ?_⟩
        · have := paired_len' hpw
          rw [List.length_take] at this
          omega
        · have tk : (rimL O).take (i + 1) = (rimL O).take i ++ [(x, y)] := by rw [List.take_add_one, hg]; rfl
          rw [tk]
          have tp := upd_tups (o' := .lst (ws ++ [.ref t])) (st _ _ hw) fun _ z => nomatch z
          exact reps_keep (E := eSd) tp (paired_snoc (sd_new nt (PlV.same rx sm) (PlV.same ry sm)) (paired_same (E := eSd) st hpw))
      · rw [show (us.length : Int).toNat = (rimL O).length by rw [rimL_len l2]; omega, List.take_length] at hpw
        exact q H2 D (s1.trans sm) (s1.free nD) ⟨ws, hw, hpw⟩
end
end NW

/-! swept. -/
namespace NW
open PySem PySem.Spec PyProof.Rows L2 NK
/-- all but one object stands -/
def Sx (l : Addr) (H H' : Hp) : Prop := ∀ b o, H b = some o → b ≠ l → H' b = some o
theorem Sx.of {l : Addr} {H H' : Hp} (s : Same H H') : Sx l H H' := fun b o e _ => s b o e
theorem Sx.then {l : Addr} {H H' H'' : Hp} (s : Sx l H H') (t : Same H' H'') : Sx l H H'' := fun b o e n => t b o (s b o e n)
theorem Sx.trans {l : Addr} {H H' H'' : Hp} (s : Sx l H H') (t : Sx l H' H'') : Sx l H H'' := fun b o e n => t b o (s b o e n) n
theorem Sx.upd (l : Addr) (H : Hp) (o : HO) : Sx l H (upd H l o) := fun b x e n => by rw [upd_ne n, e]
theorem Sx.tups {l : Addr} {H H' : Hp} (s : Sx l H H') {us : List V} (h : H l = some (.lst us)) : TupS H H' := fun b xs e => s b _ e fun z => by subst z; rw [h] at e; cases e
theorem Sx.same {l : Addr} {H0 H H' : Hp} (s : Sx l H H') (t : Same H0 H) (n : H0 l = none) : Same H0 H' := fun b o e => s b o (t b o e) fun z => by subst z; rw [n] at e; cases e
theorem rim_len (xs : List Pl) : (rimP xs).length ≤ 2 * xs.length := by
  have h := outline_len xs
  unfold rimP
  by_cases l2 : 2 ≤ (outlineP xs).length
  · rw [rimL_len l2]; exact h
  · unfold rimL; rw [dif_neg l2]; exact Nat.zero_le _
theorem newTris_len (row : List Pl) (p : Pl) : (newTris row p).length ≤ 2 * row.length := Nat.le_trans (List.length_filterMap_le _ _) (rim_len row)
theorem sweepN_len (row : List Pl) : ∀ k, (sweepN row k).length ≤ k * (2 * row.length)
  | 0 => by simp [sweepN]
  | k + 1 => by
    rw [sweepN_succ, List.length_append]
    have h1 := sweepN_len row k
    have h2 := newTris_len (row.take k) (row.getD k (0, 0))
    have h3 : (row.take k).length ≤ row.length := by rw [List.length_take]; omega
    have : (k + 1) * (2 * row.length) = k * (2 * row.length) + 2 * row.length := Nat.succ_mul _ _
    omega
theorem cutV_take (us : List V) (k : Nat) : cutV us none (some (k : Int)) = us.take k := by
  unfold cutV
  have e1 : HT.sIx us.length 0 none = 0 := rfl
  rw [e1, HT.sIx_nat, List.drop_zero, Nat.sub_zero]
  by_cases h : k ≤ us.length
  · rw [Nat.min_eq_left h]
  · rw [Nat.min_eq_right (by omega), List.take_length, List.take_of_length_le (by omega)]
theorem paired_take {α : Type} {F : V → α → Prop} : ∀ {us : List V} {xs : List α} (k : Nat), Paired F us xs → Paired F (us.take k) (xs.take k)
  | _, _, 0, _ => .nil
  | _, _, k + 1, .nil => .nil
  | _, _, k + 1, .cons h r => .cons h (paired_take k r)
abbrev sSwept : Stmt := topS 17
section
variable {P : Program} {w : World} {K : PySem.W.Frag} {mg : Str → Option Value} {base : Heap}
abbrev nSwept : List Str := ["places", "row", "found", "k", "a", "b"]
theorem scSwept : FnScope nSwept ["places"] (defScope sSwept) := ⟨rfl, rfl, rfl, by decide +kernel, rfl, by decide +kernel, by decide +kernel⟩
def spSwept : Sp := fun vs H Q _ => ∃ (a : Addr) (xs : List Pl), vs = [.ref a] ∧ LsV ePl H a xs ∧ xs.length ≤ 16 ∧ ∀ H' l, Same H H' → H l = none → LsV eTr H' l (sweptP xs) → Q (.ref l) H'
def seenT (p : Pl) (s : Sd) : Option Tri := if tw s.1 s.2 p < 0 then some (laidT s.2 s.1 p) else none
theorem turn_lt (a b c : Pl) : decide (turn a b c < 0) = decide (tw a b c < 0) := by
  refine decide_eq_decide.mpr ?_
  unfold turn sgn
  split
  · omega
  · split <;> omega
theorem ok_swept {f : Addr} {fd : FuncData} (F : Fun K "swept" "swept" sSwept f fd) (cR : Cal P w K mg base 5 "rim" ["places"] spRim) (cT : Cal P w K mg base 2 "turn" ["a", "b", "c"] spTurn) (cL : Cal P w K mg base 1 "laid" ["a", "b", "c"] spLaid)
    (ms : mg "sorted" = none) (ml : mg "len" = none) (mr : mg "range" = none) : FnOk P w K mg base CX0 6 f fd ["places"] spSwept := by
  refine F.ok scSwept (fun vs H Q E h => ?_) (fun cdv A outer s H vs Q E hr h => ?_)
  · obtain ⟨a, xs, rfl, _⟩ := h
    rfl
  · obtain ⟨a, xs, rfl, hA, hlen, q⟩ := h
    have r2 := hr.mono (show 2 ≤ 5 by decide)
    have r1 := hr.mono (show 1 ≤ 5 by decide)
    refine ⟨_, pss_cons (ps_set (i := 1) scSwept.nd rfl (.inl rfl) (pe_callB (cr_sortE ePl hr.units) (by rfl) ms (by decide +kernel) (pa_cons (pv 0) pa_nil)))
      (pss_cons (ps_set (i := 2) scSwept.nd rfl (.inl rfl) (pe_lst pa_nil))
      (pss_cons (ps_for PassesOwn.never rfl (pi_range1 (by rfl) mr (pa_cons (pe_callB call_len_seq (by rfl) ml PySem.boot_len (pa_cons (pv 1) pa_nil)) pa_nil)) (pg_name (i := 3) scSwept.nd rfl (Or.inl rfl))
        (pss_one (ps_for PassesOwn.never rfl (pi_list (pe_call cR.ok hr (by rfl) cR.g cR.kp cR.b .nil pass0 (pa_cons (pe_slice sl_list (pv 1) po_none (po_some (pv 3))) pa_nil)))
            (pg_tup rfl (pgs_cons (pg_name (i := 4) scSwept.nd rfl (.inl rfl)) (pgs_cons (pg_name (i := 5) scSwept.nd rfl (.inl rfl)) pgs_nil)))
          (pss_one (ps_if (pt_cmpR op_lt (pe_call cT.ok r2 (by rfl) cT.g cT.kp cT.b .nil pass0 (pa_cons (pv 4) (pa_cons (pv 5) (pa_cons (pe_ix ix_list (pv 1) (pv 3) (fun _ _ => rfl)) pa_nil)))) pe_int (nomark _))
            (pss_one (ps_expr (pe_bm PySem.F.plainAttrs_list PySem.F.slot_list_append PySem.F.type_list_append mt_append (pv 2) (pa_cons (pe_call cL.ok r1 (by rfl) cL.g cL.kp cL.b .nil pass0 (pa_cons (pv 5) (pa_cons (pv 4) (pa_cons (pe_ix ix_list (pv 1) (pv 3) (fun _ _ => rfl)) pa_nil)))) pa_nil)))) pss_nil)))))
      (pss_one (ps_ret (pe_callB (cr_sortE eTr hr.units) (by rfl) ms (by decide +kernel) (pa_cons (pv 2) pa_nil)))))), ?_⟩
    refine ⟨_, rfl, a, xs, rfl, hA, fun r us nr hp => ?_⟩
    rw [srt_ePl] at hp
    have s1 : Same H (upd H r (.lst us)) := new_same nr
    have hrow : Paired (PlV (upd H r (.lst us))) us (srtP xs) := paired_same (E := ePl) s1 hp
    have hl2 := srtP_len xs
    have hl3 := paired_len' hp
    generalize eH1 : upd H r (.lst us) = H1 at s1 hrow ⊢
    have hr1 : H1 r = some (.lst us) := by rw [← eH1]; exact upd_same
    generalize eR : srtP xs = row at hrow hl2 hl3
    refine ⟨Nat.zero_le _, fun l nl => ?_⟩
    have nr1 : r ≠ l := fun z => by rw [← z, hr1] at nl; cases nl
    have nlH : H l = none := s1.free nl
    have s2 : Same H1 (upd H1 l (.lst [])) := new_same nl
    refine ⟨_, rfl, r, us, rfl, .inl (SqL.of (s2 _ _ hr1)), _, rfl, by omega, by omega, ?_⟩
    refine for_range (fun k σ H3 => ∃ y3 y4 y5, σ = [some (.ref a), some (.ref r), some (.ref l), y3, y4, y5] ∧ Same H1 H3 ∧ LsV eTr H3 l (sweepN row k)) ⟨none, none, none, rfl, s2, [], upd_same, .nil⟩
      (fun k σ H3 hk ⟨y3, y4, y5, es, sm, hL⟩ => ?_) (fun σ H3 ⟨y3, y4, y5, es, sm, hL⟩ => ?_)
    · subst es
      have hk : k < us.length := by omega
      obtain ⟨vp, hvp⟩ : ∃ v, us[k]? = some v := ⟨us[k], List.getElem?_eq_getElem hk⟩
      obtain ⟨p, hp1, rp⟩ := reps_get hrow hvp
      have hvp' : atI us ((0 : Int) + (k : Int)) = some vp := by rw [Int.zero_add]; exact atI_nat hvp
      have gD : row.getD k (0, 0) = p := by rw [List.getD_eq_getElem?_getD, hp1]; rfl
      refine ⟨_, rfl, _, rfl, _, rfl, r, us, rfl, SqL.of (sm _ _ hr1), fun c nc => ?_⟩
      have s3 : Same H3 (upd H3 c (.lst (cutV us none (some (0 + (k : Int)))))) := new_same nc
      have hc : LsV ePl (upd H3 c (.lst (cutV us none (some (0 + (k : Int)))))) c (row.take k) := by
        refine ⟨_, upd_same, ?_⟩
        have e : cutV us none (some (0 + (k : Int))) = us.take k := by rw [Int.zero_add]; exact cutV_take us k
        have := paired_same (E := ePl) (sm.trans s3) (paired_take k hrow)
        rw [← e] at this
        exact this
      refine ⟨c, row.take k, rfl, hc, by rw [List.length_take]; omega, fun H4 o s4 no hO => ?_⟩
      obtain ⟨ws, ho, hpo⟩ := hO
      have hll := hL.same (s3.trans s4)
      have lo : o ≠ l := fun z => by
        obtain ⟨_, q1, _⟩ := hL
        have := s3 _ _ q1
        rw [← z, no] at this
        cases this
      have sm4 : Same H1 H4 := (sm.trans s3).trans s4
      have rl := rim_len (row.take k)
      rw [List.length_take] at rl
      refine ⟨o, rfl, ⟨_, SqL.of ho⟩, for_list (xs := ws) (fun i σ H5 => ∃ y4 y5, σ = [some (.ref a), some (.ref r), some (.ref l), some (.int (0 + (k : Int))), y4, y5] ∧ Same H1 H5 ∧ H5 o = some (.lst ws) ∧ Paired (SdV H5) ws (rimP (row.take k)) ∧ LsV eTr H5 l (sweepN row k ++ ((rimP (row.take k)).take i).filterMap (seenT p)))
        ⟨y4, y5, rfl, sm4, ho, hpo, by simpa using hll⟩ (fun i σ H5 _ ⟨_, _, _, _, h, _⟩ => SqL.of h) (fun i u σ H5 hu ⟨y4, y5, es, sm5, ho5, hp5, hL5⟩ => ?_) (fun σ H5 ⟨y4, y5, es, sm5, ho5, hp5, hL5⟩ => ?_)⟩
      · subst es
        obtain ⟨sd, hsd, t, va, vb, rfl, ht, ra, rb⟩ := reps_get hp5 hu
        have rp5 : PlV H5 vp p := PlV.same rp sm5
        have hr5 := sm5 _ _ hr1
        have tk : (rimP (row.take k)).take (i + 1) = (rimP (row.take k)).take i ++ [sd] := by rw [List.take_add_one, hsd]; rfl
        refine ⟨t, [va, vb], rfl, SqT.of ht, rfl, va, [vb], rfl, vb, [], rfl, rfl, ?_⟩
        refine ⟨_, rfl, _, rfl, _, rfl, _, rfl, r, us, _, vp, rfl, rfl, SqL.of hr5, hvp', va, vb, vp, sd.1, sd.2, p, rfl, ra, rb, rp5, _, _, rfl, rfl, _, rfl, ?_⟩
        rw [turn_lt, tk, List.filterMap_append]
        obtain ⟨tsl, htl, hpt⟩ := hL5
        refine ite2 (fun e => ?_) (fun e => ?_)
        · have e := of_decide_eq_true e
          have es : seenT p sd = some (laidT sd.2 sd.1 p) := if_pos e
          refine ⟨_, rfl, .inl ⟨rfl, _, SqL.of htl⟩, _, rfl, _, rfl, _, rfl, _, rfl, r, us, _, vp, rfl, rfl, SqL.of hr5, hvp', vb, va, vp, sd.2, sd.1, p, rfl, rb, ra, rp5, fun z wz nz hz => ?_⟩
          have s6 : Same H5 (upd H5 z (.tup wz)) := new_same nz
          have htl6 := s6 _ _ htl
          have sx : Sx l (upd H5 z (.tup wz)) (upd (upd H5 z (.tup wz)) l (.lst (tsl ++ [.ref z]))) := Sx.upd _ _ _
          have tp := sx.tups htl6
          refine ⟨l, tsl, _, rfl, rfl, htl6, small ?_, some va, some vb, rfl, sx.same (sm5.trans s6) nl, sx _ _ (s6 _ _ ho5) lo, reps_keep (E := eSd) tp (paired_same (E := eSd) s6 hp5), _, upd_same, ?_⟩
          · have h1 := paired_len' hpt
            have h2 := sweepN_len row k
            have h3 : k * (2 * row.length) ≤ 16 * (2 * 16) := Nat.mul_le_mul (by omega) (by omega)
            have h4 := List.length_filterMap_le (seenT p) ((rimP (row.take k)).take i)
            rw [List.length_take] at h4
            rw [List.length_append] at h1
            omega
          · rw [List.filterMap_cons, es, List.filterMap_nil, ← List.append_assoc]
            exact reps_keep (E := eTr) tp (paired_snoc hz (paired_same (E := eTr) s6 hpt))
        · have es : seenT p sd = none := if_neg (dN e)
          rw [List.filterMap_cons, es, List.filterMap_nil, List.append_nil]
          exact ⟨some va, some vb, rfl, sm5, ho5, hp5, tsl, htl, hpt⟩
      · subst es
        rw [paired_len' hpo, List.take_length] at hL5
        refine ⟨_, y4, y5, rfl, sm5, ?_⟩
        rw [sweepN_succ, gD]
        exact hL5
    · subst es
      rw [show (us.length : Int).toNat = row.length by omega] at hL
      refine ⟨_, rfl, l, _, rfl, hL, fun z wz nz hz => ?_⟩
      have s8 : Same H3 (upd H3 z (.lst wz)) := new_same nz
      refine q _ z ((s1.trans sm).trans s8) ((s1.trans sm).free nz) ⟨wz, upd_same, ?_⟩
      unfold sweptP
      rw [eR]
      exact paired_same (E := eTr) s8 hz
end
end NW

/-! far_corners, cover_of, has_two, is_wrong, cut_over. -/
namespace NW
open PySem PySem.Spec PyProof.Rows L2 NK
section
variable {P : Program} {w : World} {H H' : Hp} {d : Addr} {t : Tab}
theorem DictM.same (h : DictM P w H d t) (s : Same H H') : DictM P w H' d t := let ⟨xs, e, p⟩ := h; ⟨xs, s _ _ e, en_keep (Same.tups s) p⟩
theorem DictV.same (h : DictV P w H d t) (s : Same H H') : DictV P w H' d t := by
  obtain ⟨xs, e, p⟩ := h
  refine ⟨xs, ?_, en_keep (Same.tups s) p⟩
  rcases e with e | ⟨o, e⟩
  · exact .inl (s _ _ e)
  · exact .inr ⟨o, s _ _ e⟩
theorem Sx.tupsD (s : Sx d H H') (h : DictM P w H d t) : TupS H H' := by
  obtain ⟨xs, e, _⟩ := h
  exact fun b zs k => s b _ k fun z => by subst z; rw [e] at k; cases k
theorem put_len' (t : Tab) (k : Sd) (v : Pl) : (putT t k v).length ≤ t.length + 1 := by
  unfold putT
  split
  · rw [List.length_map]; omega
  · rw [List.length_append]; simp
/-- one store -/
theorem put_read {k : Sd} {p : Pl} {vp u v : V} (hd : DictM P w H d t) (hu : PlV H u k.1) (hv : PlV H v k.2) (hp : PlV H vp p) (hl : t.length < 1000) {R : Hp → Prop} (next : ∀ H', Sx d H H' → DictM P w H' d (putT t k p) → R H') :
    ∀ T, H T = none → ∃ d' t' k' p', V.ref d = .ref d' ∧ DictM P w (upd H T (.tup [u, v])) d' t' ∧ SdV (upd H T (.tup [u, v])) (.ref T) k' ∧ PlV (upd H T (.tup [u, v])) vp p' ∧ t'.length < 1000 ∧ ∀ o, DictM P w (upd (upd H T (.tup [u, v])) d' o) d' (putT t' k' p') → R (upd (upd H T (.tup [u, v])) d' o) := fun T nT => by
  have s := new_same (o := .tup [u, v]) nT
  exact ⟨d, t, k, p, rfl, hd.same s, sd_new nT hu hv, hp.same s, hl, fun o hD => next _ ((Sx.of s).trans (Sx.upd _ _ _)) hD⟩
end
abbrev sFar : Stmt := topS 19
abbrev sCoverOf : Stmt := topS 20
abbrev sHasTwo : Stmt := topS 22
abbrev sIsWrong : Stmt := topS 23
abbrev sCutOver : Stmt := topS 24
theorem far_len (L : List Tri) : ∀ t : Tab, (L.foldl far3 t).length ≤ t.length + 3 * L.length := by
  induction L with
  | nil => intro t; simp
  | cons x L ih =>
    intro t
    have h := ih (far3 t x)
    have h1 := put_len' (putT (putT t (x.1, x.2.1) x.2.2) (x.2.1, x.2.2) x.1) (x.2.2, x.1) x.2.1
    have h2 := put_len' (putT t (x.1, x.2.1) x.2.2) (x.2.1, x.2.2) x.1
    have h3 := put_len' t (x.1, x.2.1) x.2.2
    rw [List.foldl_cons, List.length_cons]
    unfold far3 at h ⊢
    omega
section
variable {P : Program} {w : World} {K : PySem.W.Frag} {mg : Str → Option Value} {base : Heap}
abbrev nFar : List Str := ["cover", "far", "a", "b", "c"]
theorem scFar : FnScope nFar ["cover"] (defScope sFar) := ⟨rfl, rfl, rfl, by decide +kernel, rfl, by decide +kernel, by decide +kernel⟩
def spFar (P : Program) (w : World) : Sp := fun vs H Q _ => ∃ (a : Addr) (L : List Tri), vs = [.ref a] ∧ LsV eTr H a L ∧ L.length ≤ 300 ∧ ∀ H' d, Same H H' → H d = none → DictM P w H' d (farP L) → Q (.ref d) H'
theorem ok_far {f : Addr} {fd : FuncData} (F : Fun K "far_corners" "far_corners" sFar f fd) : FnOk P w K mg base CX0 1 f fd ["cover"] (spFar P w) := by
  refine F.ok scFar (fun vs H Q E h => ?_) (fun cdv A outer s H vs Q E hr h => ?_)
  · obtain ⟨a, xs, rfl, _⟩ := h
    rfl
  · obtain ⟨a, L, rfl, ⟨us, ha, hp⟩, hlen, q⟩ := h
    refine ⟨_, pss_cons (ps_set (i := 1) scFar.nd rfl (.inl rfl) pe_dnewN)
      (pss_cons (ps_for PassesOwn.never rfl (pi_list (pv 0)) (pg_tup rfl (pgs_cons (pg_name (i := 2) scFar.nd rfl (.inl rfl)) (pgs_cons (pg_name (i := 3) scFar.nd rfl (.inl rfl)) (pgs_cons (pg_name (i := 4) scFar.nd rfl (.inl rfl)) pgs_nil))))
        (pss_cons (ps_dputN hr.units (pv 1) (pe_tup (pa_cons (pv 2) (pa_cons (pv 3) pa_nil))) (pv 4) (by rfl))
        (pss_cons (ps_dputN hr.units (pv 1) (pe_tup (pa_cons (pv 3) (pa_cons (pv 4) pa_nil))) (pv 2) (by rfl))
        (pss_one (ps_dputN hr.units (pv 1) (pe_tup (pa_cons (pv 4) (pa_cons (pv 2) pa_nil))) (pv 3) (by rfl))))))
      (pss_one (ps_ret (pv 1)))), ?_⟩
    refine fun d nd hd => ?_
    refine ⟨_, rfl, a, rfl, ⟨_, SqL.of (new_same nd _ _ ha)⟩, for_list (xs := us) (fun i σ H3 => ∃ y2 y3 y4, σ = [some (.ref a), some (.ref d), y2, y3, y4] ∧ Same H H3 ∧ DictM P w H3 d ((L.take i).foldl far3 [])) ⟨none, none, none, rfl, new_same nd, hd⟩
      (fun i σ H3 _ ⟨_, _, _, _, sm, _⟩ => SqL.of (sm _ _ ha)) (fun i u σ H3 hu ⟨y2, y3, y4, es, sm, hD⟩ => ?_) (fun σ H3 ⟨y2, y3, y4, es, sm, hD⟩ => ?_)⟩
    · subst es
      have hi : i < us.length := (List.getElem?_eq_some_iff.mp hu).1
      have hl := paired_len' hp
      obtain ⟨x, hx, rx⟩ := reps_get hp hu
      obtain ⟨T, va, vb, vc, rfl, hT, ra, rb, rc⟩ := TrV.keep rx (Same.tups sm)
      have fl := far_len (L.take i) []
      rw [List.length_take, List.length_nil] at fl
      refine ⟨T, [va, vb, vc], rfl, SqT.of hT, rfl, va, _, rfl, vb, _, rfl, vc, [], rfl, rfl, ?_⟩
      refine ⟨_, rfl, _, rfl, _, rfl, _, rfl, by show 2 ≤ sizeLine; decide, put_read (k := (x.1, x.2.1)) hD ra rb rc (by omega) fun H4 sx4 hD4 => ?_⟩
      have t4 := sx4.tupsD hD
      have l4 := put_len' ((L.take i).foldl far3 []) (x.1, x.2.1) x.2.2
      refine ⟨_, rfl, _, rfl, _, rfl, _, rfl, by show 2 ≤ sizeLine; decide, put_read (k := (x.2.1, x.2.2)) hD4 (rb.keep t4) (rc.keep t4) (ra.keep t4) (by omega) fun H5 sx5 hD5 => ?_⟩
      have t5 := sx5.tupsD hD4
      have l5 := put_len' (putT ((L.take i).foldl far3 []) (x.1, x.2.1) x.2.2) (x.2.1, x.2.2) x.1
      refine ⟨_, rfl, _, rfl, _, rfl, _, rfl, by show 2 ≤ sizeLine; decide, put_read (k := (x.2.2, x.1)) hD5 ((rc.keep t4).keep t5) ((ra.keep t4).keep t5) ((rb.keep t4).keep t5) (by omega) fun H6 sx6 hD6 => ?_⟩
      have tk : L.take (i + 1) = L.take i ++ [x] := by rw [List.take_add_one, hx]; rfl
      refine ⟨some va, some vb, some vc, rfl, ((sx4.trans sx5).trans sx6).same sm nd, ?_⟩
      rw [tk, List.foldl_append]
      exact hD6
    · subst es
      rw [paired_len' hp, List.take_length] at hD
      exact ⟨_, rfl, q H3 d sm nd hD⟩
end
end NW

/-! cover_of, has_two, is_wrong, cut_over. -/
namespace NW
open PySem PySem.Spec PyProof.Rows L2 NK
section
variable {X : Cx}
/-- s[0], s[1] of a side -/
def tSd0 (te : TE) : TE := fun σ H Q => te σ H fun v H1 => ∃ s, SdV H1 v s ∧ ∀ u, PlV H1 u s.1 → Q u H1
def tSd1 (te : TE) : TE := fun σ H Q => te σ H fun v H1 => ∃ s, SdV H1 v s ∧ ∀ u, PlV H1 u s.2 → Q u H1
theorem pe_s0 {i : Nat} {x : Str} {pos : Pos} {k pos2 pos3} (h : PE X (.Name x pos) (tVar i)) : PE X (.Subscript (.Name x pos) (.Constant (.int 0) k pos2) pos3) (tSd0 (tVar i)) :=
  pe_weak (pe_ix ix_tup h pe_int (fun _ _ => rfl)) fun σ H Q ⟨v, hv, s, ⟨a, u, z, e, ha, hu, _⟩, q⟩ => ⟨v, hv, a, _, 0, u, e, rfl, SqT.of ha, atI_nat (j := 0) rfl, q u hu⟩
theorem pe_s1 {i : Nat} {x : Str} {pos : Pos} {k pos2 pos3} (h : PE X (.Name x pos) (tVar i)) : PE X (.Subscript (.Name x pos) (.Constant (.int 1) k pos2) pos3) (tSd1 (tVar i)) :=
  pe_weak (pe_ix ix_tup h pe_int (fun _ _ => rfl)) fun σ H Q ⟨v, hv, s, ⟨a, u, z, e, ha, _, hz⟩, q⟩ => ⟨v, hv, a, _, 1, z, e, rfl, SqT.of ha, atI_nat (j := 1) rfl, q z hz⟩
end
section
variable {P : Program} {w : World} {d : Addr} {o : Obj} {xs : List Ent} {g : TG} {tb : TS} {D : Ends} {σ : L2.St} {H : Hp}
/-- a walk over the items of a dict that is locked -/
theorem for_itemsN (Pv : Nat → L2.St → Hp → Prop) (h0 : Pv 0 σ H) (hl : ∀ i σ H, Pv i σ H → H d = some (.frz o (DN P w d xs)))
    (hs : ∀ i p T σ H, xs[i]? = some p → Pv i σ H → H T = none → g (.ref T) σ (upd H T (.tup [.ref p.2.1, p.2.2])) fun σ2 H2 => tb { D with nx := Pv (i + 1), ct := Pv (i + 1), bk := D.nx } σ2 H2) (hd : ∀ σ H, Pv xs.length σ H → D.nx σ H) :
    ∃ W : Nat → Nat → L2.St → Hp → Prop, (∃ m, W 0 m σ H) ∧ ∀ i m σ H, W i m σ H →
      ((ItiN P w d o xs).stop i H ∧ D.nx σ H) ∨ ((ItiN P w d o xs).go i H ∧ ∃ N : L2.St → Hp → Prop, (∀ σ' H', N σ' H' → ∃ m', m' < m ∧ W (i + 1) m' σ' H') ∧ ∀ x H', (ItiN P w d o xs).yld i H x H' → g x σ H' fun σ2 H2 => tb { D with nx := N, ct := N, bk := D.nx } σ2 H2) := by
  refine ⟨fun i m σ H => m = xs.length - i ∧ i ≤ xs.length ∧ Pv i σ H, ⟨xs.length, by simp, Nat.zero_le _, h0⟩, ?_⟩
  rintro i m σ H ⟨rfl, hi, p⟩
  by_cases hlt : i < xs.length
  · refine .inr ⟨⟨hl i σ H p, hlt⟩, Pv (i + 1), fun σ' H' p' => ⟨xs.length - (i + 1), by omega, rfl, hlt, p'⟩, fun x H' ⟨T, pp, e, ex, nT, eH⟩ => ?_⟩
    subst ex eH
    exact hs i pp T σ H e p nT
  · have e : i = xs.length := by omega
    subst e
    exact .inl ⟨⟨hl _ σ H p, Nat.le_refl _⟩, hd σ H p⟩
end
section
variable {P : Program} {w : World} {K : PySem.W.Frag} {mg : Str → Option Value} {base : Heap}
abbrev nCoverOf : List Str := ["far", "cover", "side", "c"]
theorem scCoverOf : FnScope nCoverOf ["far"] (defScope sCoverOf) := ⟨rfl, rfl, rfl, by decide +kernel, rfl, by decide +kernel, by decide +kernel⟩
def spCoverOf (P : Program) (w : World) : Sp := fun vs H Q _ => ∃ (d : Addr) (t : Tab), vs = [.ref d] ∧ DictM P w H d t ∧ t.length ≤ 1000 ∧ ∀ H' l, Same H H' → H l = none → LsV eTr H' l (coverP t) → Q (.ref l) H'
theorem ok_cover_of {f : Addr} {fd : FuncData} (F : Fun K "cover_of" "cover_of" sCoverOf f fd) (ms : mg "sorted" = none) : FnOk P w K mg base CX0 1 f fd ["far"] (spCoverOf P w) := by
  refine F.ok scCoverOf (fun vs H Q E h => ?_) (fun cdv A outer s H vs Q E hr h => ?_)
  · obtain ⟨d, t, rfl, _⟩ := h
    rfl
  · obtain ⟨d, t, rfl, ⟨xs, hd, hp⟩, hlen, q⟩ := h
    refine ⟨_, pss_cons (ps_set (i := 1) scCoverOf.nd rfl (.inl rfl) (pe_lst pa_nil))
      (pss_cons (ps_lock (ps_for PassesOwn.never rfl (pi_itemsN (pv 0)) (pg_tup rfl (pgs_cons (pg_name (i := 2) scCoverOf.nd rfl (.inl rfl)) (pgs_cons (pg_name (i := 3) scCoverOf.nd rfl (.inl rfl)) pgs_nil)))
        (pss_one (ps_if (PW.pt (pw_and (pt_cmpR (op_ltE ePl hr.units) (pe_s0 (pv 2)) (pe_s1 (pv 2)) (nomark _)) (pw_and1 (pt_cmpR (op_ltE ePl hr.units) (pe_s0 (pv 2)) (pv 3) (nomark _)))))
          (pss_one (ps_expr (pe_bm PySem.F.plainAttrs_list PySem.F.slot_list_append PySem.F.type_list_append mt_append (pv 1) (pa_cons (pe_tup (pa_cons (pe_s0 (pv 2)) (pa_cons (pe_s1 (pv 2)) (pa_cons (pv 3) pa_nil)))) pa_nil)))) pss_nil))))
      (pss_one (ps_ret (pe_callB (cr_sortE eTr hr.units) (by rfl) ms (by decide +kernel) (pa_cons (pv 1) pa_nil))))), ?_⟩
    refine ⟨Nat.zero_le _, fun l nl => ?_⟩
    have s1 : Same H (upd H l (.lst [])) := new_same nl
    have hd1 := s1 _ _ hd
    refine ⟨d, _, hd1, True.intro, fun od => ?_⟩
    generalize eH1 : upd H l (.lst []) = H1 at s1 hd1 ⊢
    have hl1 : H1 l = some (.lst []) := by rw [← eH1]; exact upd_same
    have ld : l ≠ d := fun z => by rw [z, hd] at nl; cases nl
    have tp1 : TupS H1 (upd H1 d (.frz od (DN P w d xs))) := upd_tups hd1 fun _ z => nomatch z
    have hpl : Paired (en (upd H1 d (.frz od (DN P w d xs)))) xs t := en_keep tp1 (en_keep (Same.tups s1) hp)
    refine ⟨_, rfl, d, od, xs, rfl, upd_same, ?_⟩
    have fin : ∀ H3, Same H (upd H3 d (DN P w d xs)) → LsV eTr H3 l (t.filterMap triOf) → H3 d = some (.frz od (DN P w d xs)) → H3 d = some (.frz od (DN P w d xs)) ∧ LsV eTr (upd H3 d (DN P w d xs)) l (t.filterMap triOf) := fun H3 _ h e => by
      refine ⟨e, ?_⟩
      obtain ⟨us, h1, h2⟩ := h
      exact ⟨us, by rw [upd_ne ld]; exact h1, reps_keep (upd_tups e fun _ z => nomatch z) h2⟩
    refine for_itemsN (P := P) (w := w) (fun i σ H3 => ∃ y2 y3, σ = [some (.ref d), some (.ref l), y2, y3] ∧ H3 d = some (.frz od (DN P w d xs)) ∧ Same H (upd H3 d (DN P w d xs)) ∧ Paired (en H3) xs t ∧ LsV eTr H3 l ((t.take i).filterMap triOf)) ?_
      (fun i σ H3 ⟨_, _, _, h, _⟩ => h) (fun i p T σ H3 hp3 ⟨y2, y3, es, hd3, sm3, hen, hL⟩ nT => ?_) (fun σ H3 ⟨y2, y3, es, hd3, sm3, hen, hL⟩ => ?_)
    · refine ⟨none, none, rfl, upd_same, fun b o e => ?_, hpl, [], by rw [upd_ne ld]; exact hl1, .nil⟩
      by_cases z : b = d
      · subst z; rw [upd_same]; exact hd.symm.trans e
      · rw [upd_ne z, upd_ne z]; exact s1 _ _ e
    · subst es
      obtain ⟨⟨k, c⟩, hy, ek, rk, rc⟩ := paired_get hen hp3
      simp only at ek rk rc
      have sT : Same H3 (upd H3 T (.tup [.ref p.2.1, p.2.2])) := new_same nT
      have tk : t.take (i + 1) = t.take i ++ [(k, c)] := by rw [List.take_add_one, hy]; rfl
      have rk4 := rk.keep (Same.tups sT)
      have rc4 := rc.same sT
      have dT : d ≠ T := fun z => by rw [← z, hd3] at nT; cases nT
      generalize eH4 : upd H3 T (.tup [.ref p.2.1, p.2.2]) = H4 at sT rk4 rc4 ⊢
      have hT4 : H4 T = some (.tup [.ref p.2.1, p.2.2]) := by rw [← eH4]; exact upd_same
      have sm4 : Same H (upd H4 d (DN P w d xs)) := fun b o e => by
        have := sm3 b o e
        by_cases z : b = d
        · subst z; rw [upd_same] at this ⊢; exact this
        · rw [upd_ne z] at this ⊢; exact sT _ _ this
      have hen4 := en_keep (Same.tups sT) hen
      have hL4 := hL.same sT
      have no : triOf (k, c) = none → ∃ y2 y3, [some (V.ref d), some (.ref l), some (.ref p.2.1), some p.2.2] = [some (.ref d), some (.ref l), y2, y3] ∧ H4 d = some (.frz od (DN P w d xs)) ∧ Same H (upd H4 d (DN P w d xs)) ∧ Paired (en H4) xs t ∧ LsV eTr H4 l ((t.take (i + 1)).filterMap triOf) := fun e => by
        refine ⟨_, _, rfl, sT _ _ hd3, sm4, hen4, ?_⟩
        rw [tk, List.filterMap_append, List.filterMap_cons, e, List.filterMap_nil, List.append_nil]
        exact hL4
      refine ⟨T, [.ref p.2.1, p.2.2], rfl, SqT.of hT4, rfl, .ref p.2.1, _, rfl, p.2.2, [], rfl, rfl, ?_⟩
      refine ⟨_, rfl, k, rk4, fun u1 hu1 => ⟨_, rfl, k, rk4, fun u2 hu2 => ⟨k.1, k.2, hu1, hu2, _, rfl, ite2 (fun e1 => ?_) (fun e1 => ?_)⟩⟩⟩
      · refine ⟨_, rfl, k, rk4, fun u3 hu3 => ⟨_, rfl, k.1, c, hu3, rc4, _, rfl, ite2 (fun e2 => ?_) (fun e2 => ?_)⟩⟩
        · have et : triOf (k, c) = some (k.1, k.2, c) := if_pos ⟨NW.dT e1, NW.dT e2⟩
          obtain ⟨us, hus, hpu⟩ := hL4
          refine ⟨_, rfl, .inl ⟨rfl, _, SqL.of hus⟩, _, rfl, k, rk4, fun u4 hu4 => ⟨_, rfl, k, rk4, fun u5 hu5 => ⟨_, rfl, by show 3 ≤ sizeLine; decide, fun z nz => ?_⟩⟩⟩
          have s6 := new_same (o := .tup [u4, u5, p.2.2]) nz
          have hus6 := s6 _ _ hus
          have sx : Sx l (upd H4 z (.tup [u4, u5, p.2.2])) (upd (upd H4 z (.tup [u4, u5, p.2.2])) l (.lst (us ++ [.ref z]))) := Sx.upd _ _ _
          have tp := sx.tups hus6
          refine ⟨l, us, _, rfl, rfl, hus6, small ?_, some (.ref p.2.1), some p.2.2, rfl, sx _ _ (s6 _ _ (sT _ _ hd3)) ld.symm, fun b o e => ?_, en_keep tp (en_keep (Same.tups s6) hen4), us ++ [.ref z], upd_same, ?_⟩
          · have h1 := paired_len' hpu
            have h2 := List.length_filterMap_le triOf (t.take i)
            rw [List.length_take] at h2
            omega
          · have := sm4 b o e
            by_cases zd : b = d
            · subst zd; rw [upd_same] at this ⊢; exact this
            · rw [upd_ne zd] at this ⊢
              exact sx _ _ (s6 _ _ this) fun zl => by subst zl; rw [e] at nl; cases nl
          · rw [tk, List.filterMap_append, List.filterMap_cons, et, List.filterMap_nil]
            exact reps_keep (E := eTr) tp (paired_snoc (tr_new nz hu4 hu5 rc4) (paired_same (E := eTr) s6 hpu))
        · exact no (if_neg fun h => dN e2 h.2)
      · exact no (if_neg fun h => dN e1 h.1)
    · subst es
      have : xs.length = t.length := paired_len hp
      rw [this, List.take_length] at hL
      obtain ⟨e, hL'⟩ := fin H3 sm3 hL hd3
      refine ⟨e, _, rfl, l, _, rfl, hL', fun z wz nz hz => ?_⟩
      exact q _ z (sm3.trans (new_same nz)) (sm3.free nz) ⟨wz, upd_same, paired_same (E := eTr) (new_same nz) hz⟩
/-! ### has_two -/
def hasTwoB (t : Tab) (s : Sd) : Bool := decide (lt s.1 s.2) && ((look t s).isSome && (look t (s.2, s.1)).isSome)
abbrev nHasTwo : List Str := ["far", "side"]
theorem scHasTwo : FnScope nHasTwo ["far", "side"] (defScope sHasTwo) := ⟨rfl, rfl, rfl, by decide +kernel, rfl, by decide +kernel, by decide +kernel⟩
def spHasTwo (P : Program) (w : World) : Sp := fun vs H Q _ => ∃ (d : Addr) (t : Tab) (v : V) (s : Sd), vs = [.ref d, v] ∧ DictV P w H d t ∧ SdV H v s ∧ ∀ H', Same H H' → Q (.bl (hasTwoB t s)) H'
theorem ok_has_two {f : Addr} {fd : FuncData} (F : Fun K "has_two" "has_two" sHasTwo f fd) : FnOk P w K mg base CX0 1 f fd ["far", "side"] (spHasTwo P w) := by
  refine F.ok scHasTwo (fun vs H Q E h => ?_) (fun cdv A outer s H vs Q E hr h => ?_)
  · obtain ⟨d, t, v, s, rfl, _⟩ := h
    rfl
  · obtain ⟨d, t, v, sd, rfl, hd, hs, q⟩ := h
    refine ⟨_, pss_one (ps_ret (pe_and (pe_cmpR (op_ltE ePl hr.units) (pe_s0 (pv 1)) (pe_s1 (pv 1)) (nomark _)) (pe_and (pe_cmpR (op_dinN hr.units) (pv 1) (pv 0) (by rfl))
      (pe_one (pe_cmpR (op_dinN hr.units) (pe_tup (pa_cons (pe_s1 (pv 1)) (pa_cons (pe_s0 (pv 1)) pa_nil))) (pv 0) (by rfl)))))), ?_⟩
    unfold hasTwoB at q
    refine ⟨_, rfl, sd, hs, fun u1 hu1 => ⟨_, rfl, sd, hs, fun u2 hu2 => ⟨sd.1, sd.2, hu1, hu2, _, rfl, ite2 (fun e1 => ?_) (fun e1 => ?_)⟩⟩⟩
    · have e1' : decide (lt sd.1 sd.2) = true := e1
      rw [e1', Bool.true_and] at q
      refine ⟨_, rfl, _, rfl, d, t, sd, rfl, hd, hs, _, rfl, ite2 (fun e2 => ?_) (fun e2 => ?_)⟩
      · rw [e2, Bool.true_and] at q
        refine ⟨_, rfl, sd, hs, fun u3 hu3 => ⟨_, rfl, sd, hs, fun u4 hu4 => ⟨by show 2 ≤ sizeLine; decide, fun T nT => ?_⟩⟩⟩
        have sT := new_same (o := .tup [u3, u4]) nT
        exact ⟨_, rfl, d, t, (sd.2, sd.1), rfl, hd.same sT, sd_new nT hu3 hu4, q _ sT⟩
      · have e2 : (look t sd).isSome = false := by simpa using e2
        rw [e2] at q
        exact q _ (Same.refl H)
    · have e1' : decide (lt sd.1 sd.2) = false := by simpa using dN e1
      rw [e1'] at q
      exact q _ (Same.refl H)
end
end NW

/-! is_wrong, cut_over. -/
namespace NW
open PySem PySem.Spec PyProof.Rows L2 NK
theorem wrong_no {t : Tab} {s : Sd} (e : hasTwoB t s = false) : isWrong t s = false := by
  unfold hasTwoB at e
  unfold isWrong
  cases e1 : look t s with
  | none => rfl
  | some c =>
    cases e2 : look t (s.2, s.1) with
    | none => rfl
    | some c' =>
      rw [e1, e2] at e
      have : decide (lt s.1 s.2) = false := by simpa using e
      show (decide (lt s.1 s.2) && _) = false
      rw [this]; rfl
section
variable {P : Program} {w : World} {K : PySem.W.Frag} {mg : Str → Option Value} {base : Heap}
abbrev nIsWrong : List Str := ["far", "side"]
theorem scIsWrong : FnScope nIsWrong ["far", "side"] (defScope sIsWrong) := ⟨rfl, rfl, rfl, by decide +kernel, rfl, by decide +kernel, by decide +kernel⟩
def spIsWrong (P : Program) (w : World) : Sp := fun vs H Q _ => ∃ (d : Addr) (t : Tab) (v : V) (s : Sd), vs = [.ref d, v] ∧ DictV P w H d t ∧ SdV H v s ∧ (∀ c, look t s = some c → tw s.1 s.2 c ≠ 0) ∧ ∀ H', Same H H' → Q (.bl (isWrong t s)) H'
theorem ok_is_wrong {f : Addr} {fd : FuncData} (F : Fun K "is_wrong" "is_wrong" sIsWrong f fd) (cH : Cal P w K mg base 1 "has_two" ["far", "side"] (spHasTwo P w)) (cS : Cal P w K mg base 4 "spoils" ["a", "b", "c", "d"] spSpoils) : FnOk P w K mg base CX0 5 f fd ["far", "side"] (spIsWrong P w) := by
  refine F.ok scIsWrong (fun vs H Q E h => ?_) (fun cdv A outer s H vs Q E hr h => ?_)
  · obtain ⟨d, t, v, s, rfl, _⟩ := h
    rfl
  · obtain ⟨d, t, v, sd, rfl, hd, hs, nz, q⟩ := h
    refine ⟨_, pss_cons (ps_if (pt_not (pt_val (pe_call cH.ok (hr.mono (show 1 ≤ 4 by decide)) (by rfl) cH.g cH.kp cH.b .nil pass0 (pa_cons (pv 0) (pa_cons (pv 1) pa_nil))))) (pss_one (ps_ret pe_bl)) pss_nil)
      (pss_one (ps_ret (pe_call cS.ok hr (by rfl) cS.g cS.kp cS.b .nil pass0 (pa_cons (pe_s0 (pv 1)) (pa_cons (pe_s1 (pv 1)) (pa_cons (pe_dgetN hr.units (pv 0) (pv 1) (fun _ _ => rfl)) (pa_cons (pe_dgetN hr.units (pv 0) (pe_tup (pa_cons (pe_s1 (pv 1)) (pa_cons (pe_s0 (pv 1)) pa_nil))) (fun _ _ => rfl)) pa_nil))))))), ?_⟩
    refine ⟨_, rfl, _, rfl, d, t, v, sd, rfl, hd, hs, fun H1 s1 => ⟨_, rfl, ?_⟩⟩
    cases e : hasTwoB t sd with
    | false =>
      refine iteT ?_
      rw [wrong_no e] at q
      exact q _ s1
    | true =>
      refine iteF ?_
      unfold isWrong at q
      unfold hasTwoB at e
      rw [Bool.and_eq_true, Bool.and_eq_true] at e
      obtain ⟨e0, e1, e2⟩ := e
      obtain ⟨c, hc⟩ := Option.isSome_iff_exists.mp e1
      obtain ⟨c', hc'⟩ := Option.isSome_iff_exists.mp e2
      rw [hc, hc'] at q
      simp only [e0, Bool.true_and] at q
      have hs1 := hs.keep (Same.tups s1)
      have hd1 := hd.same s1
      refine ⟨_, rfl, sd, hs1, fun u1 hu1 => ⟨_, rfl, sd, hs1, fun u2 hu2 => ⟨_, rfl, _, rfl, d, t, sd, c, rfl, hd1, hs1, hc, fun u3 hu3 => ⟨_, rfl, _, rfl, sd, hs1, fun u4 hu4 => ⟨_, rfl, sd, hs1, fun u5 hu5 => ⟨by show 2 ≤ sizeLine; decide, fun T nT => ?_⟩⟩⟩⟩⟩⟩
      have sT := new_same (o := .tup [u4, u5]) nT
      refine ⟨d, t, (sd.2, sd.1), c', rfl, hd1.same sT, sd_new nT hu4 hu5, hc', fun u6 hu6 => ?_⟩
      exact ⟨u1, u2, u3, u6, sd.1, sd.2, c, c', rfl, hu1.same sT, hu2.same sT, hu3.same sT, hu6, nz c hc, fun H' s' => q H' ((s1.trans sT).trans s')⟩
/-! ### cut_over -/
abbrev nCutOver : List Str := ["far", "side", "a", "b", "c", "d"]
theorem scCutOver : FnScope nCutOver ["far", "side"] (defScope sCutOver) := ⟨rfl, rfl, rfl, by decide +kernel, rfl, by decide +kernel, by decide +kernel⟩
def spCutOver (P : Program) (w : World) : Sp := fun vs H Q _ => ∃ (d : Addr) (t : Tab) (v : V) (a b c e : Pl), vs = [.ref d, v] ∧ DictM P w H d t ∧ SdV H v (a, b) ∧ look t (a, b) = some c ∧ look t (b, a) = some e ∧ a ≠ b ∧ t.length ≤ 900 ∧
  ∀ H' u, Sx d H H' → DictM P w H' d (cutT t a b c e) → SdV H' u (inOrd c e) → Q u H'
theorem drop_len (t : Tab) (k : Sd) : (dropT t k).length ≤ t.length := List.length_filter_le _ _
theorem m1 {X : Cx} {o : Expr} {m : Str} {apos : Pos} {e : Expr} {cpos : Pos} (base : attributeBase o m X.env (eval o X.env) = eval o X.env := by rfl)
    (few : ((backTo cpos (starEach [e] X.env)).all (fun x => !x.1) && (backToKw cpos (keywordEach [] X.env)).all (fun x => x.1.isSome) && decide (([e] : List Expr).length + ([] : List Keyword).length + (if ([] : List Keyword).isEmpty then 0 else 1) < 30)) = true := by rfl)
    (line : (apos.endLine == cpos.line) = true := by rfl) (trees : backTo cpos (starEach [e] X.env) = [(false, eval e X.env)] := by rfl) : M1 X o m apos e cpos := ⟨base, few, line, trees⟩
theorem ok_cut_over {f : Addr} {fd : FuncData} (F : Fun K "cut_over" "cut_over" sCutOver f fd) (cI : Cal P w K mg base 1 "in_order" ["a", "b"] spInOrder) : FnOk P w K mg base CX0 2 f fd ["far", "side"] (spCutOver P w) := by
  refine F.ok scCutOver (fun vs H Q E h => ?_) (fun cdv A outer s H vs Q E hr h => ?_)
  · obtain ⟨d, t, v, a, b, c, e, rfl, _⟩ := h
    rfl
  · obtain ⟨d, t, v, a, b, c, e, rfl, hd, hs, l1, l2, ab, hlen, q⟩ := h
    have nd := scCutOver.nd
    refine ⟨_, pss_cons (ps_asg (pv 1) (pg_tup rfl (pgs_cons (pg_name (i := 2) nd rfl (.inl rfl)) (pgs_cons (pg_name (i := 3) nd rfl (.inl rfl)) pgs_nil))))
      (pss_cons (ps_set (i := 4) nd rfl (.inl rfl) (pe_dpopN hr.units (pv 0) (pe_tup (pa_cons (pv 2) (pa_cons (pv 3) pa_nil))) m1))
      (pss_cons (ps_set (i := 5) nd rfl (.inl rfl) (pe_dpopN hr.units (pv 0) (pe_tup (pa_cons (pv 3) (pa_cons (pv 2) pa_nil))) m1))
      (pss_cons (ps_dputN hr.units (pv 0) (pe_tup (pa_cons (pv 2) (pa_cons (pv 5) pa_nil))) (pv 4) (by rfl))
      (pss_cons (ps_dputN hr.units (pv 0) (pe_tup (pa_cons (pv 5) (pa_cons (pv 4) pa_nil))) (pv 2) (by rfl))
      (pss_cons (ps_dputN hr.units (pv 0) (pe_tup (pa_cons (pv 4) (pa_cons (pv 2) pa_nil))) (pv 5) (by rfl))
      (pss_cons (ps_dputN hr.units (pv 0) (pe_tup (pa_cons (pv 5) (pa_cons (pv 3) pa_nil))) (pv 4) (by rfl))
      (pss_cons (ps_dputN hr.units (pv 0) (pe_tup (pa_cons (pv 3) (pa_cons (pv 4) pa_nil))) (pv 5) (by rfl))
      (pss_cons (ps_dputN hr.units (pv 0) (pe_tup (pa_cons (pv 4) (pa_cons (pv 5) pa_nil))) (pv 3) (by rfl))
      (pss_one (ps_ret (pe_call cI.ok hr (by rfl) cI.g cI.kp cI.b .nil pass0 (pa_cons (pv 4) (pa_cons (pv 5) pa_nil))))))))))))), ?_⟩
    obtain ⟨x, va, vb, rfl, hx, ra, rb⟩ := hs
    simp only at ra rb
    refine ⟨_, rfl, x, [va, vb], rfl, SqT.of hx, rfl, va, _, rfl, vb, [], rfl, rfl, ?_⟩
    -- c, d
    refine ⟨_, rfl, d, rfl, ⟨t, hd.v⟩, _, rfl, _, rfl, by show 2 ≤ sizeLine; decide, fun T1 n1 => ?_⟩
    have s1 := new_same (o := .tup [va, vb]) n1
    refine ⟨t, (a, b), c, hd.same s1, sd_new n1 ra rb, l1, fun o1 u1 hd1 hu1 => ?_⟩
    have x1 : Sx d H (upd (upd H T1 (.tup [va, vb])) d o1) := (Sx.of s1).trans (Sx.upd _ _ _)
    have t1 := x1.tupsD hd
    have ra1 := ra.keep t1
    have rb1 := rb.keep t1
    generalize upd (upd H T1 (.tup [va, vb])) d o1 = H1 at hd1 hu1 x1 t1 ra1 rb1 ⊢
    refine ⟨_, rfl, d, rfl, ⟨_, hd1.v⟩, _, rfl, _, rfl, by show 2 ≤ sizeLine; decide, fun T2 n2 => ?_⟩
    have s2 := new_same (o := .tup [vb, va]) n2
    have l2' : look (dropT t (a, b)) (b, a) = some e := by rw [look_drop, if_neg (fun z => ab (congrArg (·.2) z))]; exact l2
    refine ⟨_, (b, a), e, hd1.same s2, sd_new n2 rb1 ra1, l2', fun o2 u2 hd2 hu2 => ?_⟩
    have x2 : Sx d H1 (upd (upd H1 T2 (.tup [vb, va])) d o2) := (Sx.of s2).trans (Sx.upd _ _ _)
    have t2 := x2.tupsD hd1
    have ra2 := ra1.keep t2
    have rb2 := rb1.keep t2
    have rc2 := hu1.keep t2
    generalize upd (upd H1 T2 (.tup [vb, va])) d o2 = H2 at hd2 hu2 x2 t2 ra2 rb2 rc2 ⊢
    have dl1 := drop_len t (a, b)
    have dl2 := drop_len (dropT t (a, b)) (b, a)
    generalize e2 : dropT (dropT t (a, b)) (b, a) = t2' at hd2 dl2
    refine ⟨_, rfl, _, rfl, _, rfl, _, rfl, by show 2 ≤ sizeLine; decide, put_read (k := (a, e)) hd2 ra2 hu2 rc2 (by omega) fun H3 x3 hd3 => ?_⟩
    have t3 := x3.tupsD hd2
    have ra3 := ra2.keep t3
    have rb3 := rb2.keep t3
    have rc3 := rc2.keep t3
    have re3 := hu2.keep t3
    have k3 := put_len' t2' (a, e) c
    generalize e3 : putT t2' (a, e) c = t3' at hd3 k3
    refine ⟨_, rfl, _, rfl, _, rfl, _, rfl, by show 2 ≤ sizeLine; decide, put_read (k := (e, c)) hd3 re3 rc3 ra3 (by omega) fun H4 x4 hd4 => ?_⟩
    have t4 := x4.tupsD hd3
    have ra4 := ra3.keep t4
    have rb4 := rb3.keep t4
    have rc4 := rc3.keep t4
    have re4 := re3.keep t4
    have k4 := put_len' t3' (e, c) a
    generalize e4 : putT t3' (e, c) a = t4' at hd4 k4
    refine ⟨_, rfl, _, rfl, _, rfl, _, rfl, by show 2 ≤ sizeLine; decide, put_read (k := (c, a)) hd4 rc4 ra4 re4 (by omega) fun H5 x5 hd5 => ?_⟩
    have t5 := x5.tupsD hd4
    have ra5 := ra4.keep t5
    have rb5 := rb4.keep t5
    have rc5 := rc4.keep t5
    have re5 := re4.keep t5
    have k5 := put_len' t4' (c, a) e
    generalize e5 : putT t4' (c, a) e = t5' at hd5 k5
    refine ⟨_, rfl, _, rfl, _, rfl, _, rfl, by show 2 ≤ sizeLine; decide, put_read (k := (e, b)) hd5 re5 rb5 rc5 (by omega) fun H6 x6 hd6 => ?_⟩
    have t6 := x6.tupsD hd5
    have rb6 := rb5.keep t6
    have rc6 := rc5.keep t6
    have re6 := re5.keep t6
    have k6 := put_len' t5' (e, b) c
    generalize e6 : putT t5' (e, b) c = t6' at hd6 k6
    refine ⟨_, rfl, _, rfl, _, rfl, _, rfl, by show 2 ≤ sizeLine; decide, put_read (k := (b, c)) hd6 rb6 rc6 re6 (by omega) fun H7 x7 hd7 => ?_⟩
    have t7 := x7.tupsD hd6
    have rb7 := rb6.keep t7
    have rc7 := rc6.keep t7
    have re7 := re6.keep t7
    have k7 := put_len' t6' (b, c) e
    generalize e7 : putT t6' (b, c) e = t7' at hd7 k7
    refine ⟨_, rfl, _, rfl, _, rfl, _, rfl, by show 2 ≤ sizeLine; decide, put_read (k := (c, e)) hd7 rc7 re7 rb7 (by omega) fun H8 x8 hd8 => ?_⟩
    have t8 := x8.tupsD hd7
    refine ⟨_, rfl, _, rfl, u1, u2, c, e, rfl, rc7.keep t8, re7.keep t8, fun z ws nz hz => ?_⟩
    have s9 := new_same (o := .tup ws) nz
    have xx := (((x1.trans x2).trans (x3.trans x4)).trans ((x5.trans x6).trans (x7.trans x8))).then s9
    refine q _ _ xx ?_ hz
    have hd9 := hd8.same s9
    rw [← e7, ← e6, ← e5, ← e4, ← e3, ← e2] at hd9
    exact hd9
end
end NW

/-! turnings. -/
namespace NW
open PySem PySem.Spec PyProof.Rows L2 NK
section
variable {P : Program} {w : World} {d : Addr} {o : Obj} {es : List Ent} {ks : List Sd} {σ : L2.St} {H1 : Hp} {D : Addr} {Qd : Hp → Prop} {tt : TT} {j : Nat}
/-- [k for k in d if ..] -/
theorem lcF_keys (f : Sd → Bool) (hd : H1 d = some (.frz o (DN P w d es))) (hP : Paired (eSd.rep H1) (es.map fun e => V.ref e.2.1) ks) (hD : H1 D = none) (hl : es.length ≤ 1000) (hj : j < σ.length)
    (turn : ∀ x u H R, x ∈ ks → Same H1 H → eSd.rep H u x → (∀ H', Same H H' → R (f x) H') → tt ((wipe σ [j]).set j (some u)) H R)
    (fin : ∀ H' ws, Same H1 H' → H' D = some (.lst ws) → Paired (eSd.rep H') ws (ks.filter f) → Qd H') :
    ∃ W : Nat → Nat → Hp → Prop, (∃ m, W 0 m (upd H1 D (.lst []))) ∧ ∀ (i m : Nat) (H : Hp), W i m H → (ItkN P w d o es).stop i H ∧ Qd H ∨ (ItkN P w d o es).go i H ∧ ∃ Nx : Hp → Prop, (∀ H', Nx H' → ∃ m', m' < m ∧ W (i + 1) m' H') ∧ ∀ (x : V) (H' : Hp), (ItkN P w d o es).yld i H x H' →
      gName j x (wipe σ [j]) H' fun σ2 H2 => wipe σ2 [j] = wipe σ [j] ∧ tt σ2 H2 fun b H3 => if b = true then tVar j σ2 H3 fun y H4 => ∃ acc, H4 D = some (.lst acc) ∧ acc.length < sizeLine ∧ Nx (upd H4 D (.lst (acc ++ [y]))) else Nx H3 := by
  refine ⟨fun i m H => m = es.length - i ∧ i ≤ es.length ∧ Pick eSd H1 D (es.map fun e => V.ref e.2.1) ks f i H, ⟨es.length, by simp, Nat.zero_le _, pick_start hD⟩, ?_⟩
  rintro i m H ⟨rfl, hi, p⟩
  by_cases hlt : i < es.length
  · refine .inr ⟨⟨p.1 _ _ hd, hlt⟩, Pick eSd H1 D (es.map fun e => V.ref e.2.1) ks f (i + 1), fun H' p' => ⟨es.length - (i + 1), by omega, rfl, hlt, p'⟩, fun x H' ⟨eH, q, e, ex⟩ => ?_⟩
    subst eH ex
    exact pick_step hP hj hD (by rw [List.length_map]; exact hl) turn (i := i) (u := .ref q.2.1) (by rw [List.getElem?_map, e]; rfl) p fun _ h => h
  · have e : i = es.length := by omega
    subst e
    refine .inl ⟨⟨p.1 _ _ hd, Nat.le_refl _⟩, ?_⟩
    obtain ⟨sm, ws, hw, hp⟩ := pick_end hP (by rw [List.length_map]; exact p)
    exact fin H ws sm hw hp
end
theorem en_keys {H : Hp} : ∀ {xs : List Ent} {t : Tab}, Paired (en H) xs t → Paired (eSd.rep H) (xs.map fun e => V.ref e.2.1) (t.map (·.1))
  | _, _, .nil => .nil
  | _, _, .cons h r => .cons h.2.1 (en_keys r)
theorem wrong_two {t : Tab} {s : Sd} (h : isWrong t s = true) : hasTwoB t s = true := by
  cases e : hasTwoB t s with
  | true => rfl
  | false => rw [wrong_no e] at h; cases h
theorem two_key {t : Tab} {s : Sd} (h : hasTwoB t s = true) : s ∈ t.map (·.1) := by
  unfold hasTwoB at h
  rw [Bool.and_eq_true, Bool.and_eq_true] at h
  by_cases k : s ∈ t.map (·.1)
  · exact k
  · have := look_none.mpr k
    rw [this] at h
    exact absurd h.2.1 (by simp)
theorem mem_srtE {α : Type} [DecidableEq α] (E : Enc α) {xs : List α} {x : α} : x ∈ srt E xs ↔ x ∈ xs := List.mem_mergeSort
theorem last_split {α : Type} {l : List α} (h : l ≠ []) : ∃ r x, l = r ++ [x] := ⟨l.dropLast, l.getLast h, (List.dropLast_concat_getLast h).symm⟩
theorem paired_last {α : Type} [DecidableEq α] {F : V → α → Prop} {us : List V} {r : List α} {x : α} (h : Paired F us (r ++ [x])) : ∃ u, us[us.length - 1]? = some u ∧ F u x ∧ Paired F us.dropLast r := by
  have hl := paired_len' h
  rw [List.length_append] at hl
  simp only [List.length_cons, List.length_nil] at hl
  obtain ⟨u, h1, h2⟩ := reps_get' (i := us.length - 1) (x := x) h (by rw [List.getElem?_append_right (by omega), show us.length - 1 - r.length = 0 by omega]; rfl)
  have := paired_drop h
  rw [List.dropLast_concat] at this
  exact ⟨u, h1, h2, this⟩
abbrev sTurnings : Stmt := topS 25
section
variable {P : Program} {w : World} {K : PySem.W.Frag} {mg : Str → Option Value} {base : Heap}
abbrev nTurnings : List Str := ["cover", "far", "turns", "side", "waiting", "a", "b", "c", "d"]
theorem scTurnings : FnScope nTurnings ["cover"] (defScope sTurnings) := ⟨rfl, rfl, rfl, by decide +kernel, rfl, by decide +kernel, by decide +kernel⟩
def spTurnings : Sp := fun vs H Q _ => ∃ (a : Addr) (L : List Tri) (R : List Pl), vs = [.ref a] ∧ LsV eTr H a L ∧ CovL R L ∧ R.length ≤ 16 ∧ ∀ H' T x n N, Same H H' → H' T = some (.tup [x, .ref n]) → LsV eTr H' n N → NetL R N → Q (.ref T) H'
def tWait : TT := fun σ H Q => ∃ l W, σ[4]? = some (some (.ref l)) ∧ LsV eSd H l W ∧ ∀ H' (b : Bool), Same H H' → (b = true ↔ W ≠ []) → Q b H'
theorem ok_turnings {f : Addr} {fd : FuncData} (F : Fun K "turnings" "turnings" sTurnings f fd) (cF : Cal P w K mg base 1 "far_corners" ["cover"] (spFar P w)) (cH : Cal P w K mg base 1 "has_two" ["far", "side"] (spHasTwo P w))
    (cW : Cal P w K mg base 5 "is_wrong" ["far", "side"] (spIsWrong P w)) (cC : Cal P w K mg base 2 "cut_over" ["far", "side"] (spCutOver P w)) (cI : Cal P w K mg base 1 "in_order" ["a", "b"] spInOrder)
    (cO : Cal P w K mg base 1 "cover_of" ["far"] (spCoverOf P w)) (ms : mg "sorted" = none) : FnOk P w K mg base CX0 6 f fd ["cover"] spTurnings := by
  refine F.ok scTurnings (fun vs H Q E h => ?_) (fun cdv A outer s H vs Q E hr h => ?_)
  · obtain ⟨a, L, R, rfl, _⟩ := h
    rfl
  · obtain ⟨a, L, R, rfl, hA, C, hR, q⟩ := h
    have nd := scTurnings.nd
    have r1 := hr.mono (show 1 ≤ 5 by decide)
    have r2 := hr.mono (show 2 ≤ 5 by decide)
    refine ⟨_, pss_cons (ps_set (i := 1) nd rfl (.inr rfl) (pe_call cF.ok r1 (by rfl) cF.g cF.kp cF.b .nil pass0 (pa_cons (pv 0) pa_nil)))
      (pss_cons (ps_set (i := 2) nd rfl (.inl rfl) (pe_lst pa_nil))
      (pss_cons (ps_set (i := 4) nd rfl (.inl rfl) (pe_callB (cr_sortE eSd hr.units) (by rfl) ms (by decide +kernel) (pa_cons
          (pe_lock (pe_lc (own := [("side", 3)]) (g := gName 3) (by rfl) nd (pi_keysN (pv 1)) (blkOk_by (N := nTurnings) (sc := defScope sTurnings) (by decide +kernel)) (fun _ _ _ _ _ => pg_name (i := 3) nd rfl (Or.inl rfl))
            (fun _ _ _ _ _ => pts_one (pt_val (pe_call cH.ok r1 (by rfl) cH.g cH.kp cH.b .nil pass0 (pa_cons (pv 1) (pa_cons (pv 3) pa_nil))))) (fun _ _ _ _ _ => pv 3))) pa_nil)))
      (pss_cons (ps_while PassesOwn.never (pt_weak (t' := tWait) (pt_cmpR (op_neL eSd hr.units) (pv 4) (pe_lst pa_nil) (nomark _)) ?_)
        (pss_cons (ps_set (i := 3) nd rfl (.inl rfl) (pe_bm0 PySem.F.plainAttrs_list PySem.F.slot_list_pop PySem.F.type_list_pop mt_pop (pv 4)))
        (pss_one (ps_if (pt_val (pe_call cW.ok hr (by rfl) cW.g cW.kp cW.b .nil pass0 (pa_cons (pv 1) (pa_cons (pv 3) pa_nil))))
          (pss_cons (ps_asg (pv 3) (pg_tup rfl (pgs_cons (pg_name (i := 5) nd rfl (.inl rfl)) (pgs_cons (pg_name (i := 6) nd rfl (.inl rfl)) pgs_nil))))
          (pss_cons (ps_set (i := 7) nd rfl (.inl rfl) (pe_dgetN hr.units (pv 1) (pe_tup (pa_cons (pv 5) (pa_cons (pv 6) pa_nil))) (fun _ _ => rfl)))
          (pss_cons (ps_set (i := 8) nd rfl (.inl rfl) (pe_dgetN hr.units (pv 1) (pe_tup (pa_cons (pv 6) (pa_cons (pv 5) pa_nil))) (fun _ _ => rfl)))
          (pss_cons (ps_expr (pe_bm PySem.F.plainAttrs_list PySem.F.slot_list_append PySem.F.type_list_append mt_append (pv 2) (pa_cons (pe_tup (pa_cons (pv 3) (pa_cons (pe_call cC.ok r2 (by rfl) cC.g cC.kp cC.b .nil pass0 (pa_cons (pv 1) (pa_cons (pv 3) pa_nil))) pa_nil))) pa_nil)))
          (pss_one (ps_expr (pe_bm PySem.F.plainAttrs_list PySem.F.slot_list_extend PySem.F.type_list_extend mt_extend (pv 4) (pa_cons (pe_lst
            (pa_cons (pe_call cI.ok r1 (by rfl) cI.g cI.kp cI.b .nil pass0 (pa_cons (pv 5) (pa_cons (pv 7) pa_nil)))
            (pa_cons (pe_call cI.ok r1 (by rfl) cI.g cI.kp cI.b .nil pass0 (pa_cons (pv 7) (pa_cons (pv 6) pa_nil)))
            (pa_cons (pe_call cI.ok r1 (by rfl) cI.g cI.kp cI.b .nil pass0 (pa_cons (pv 6) (pa_cons (pv 8) pa_nil)))
            (pa_cons (pe_call cI.ok r1 (by rfl) cI.g cI.kp cI.b .nil pass0 (pa_cons (pv 8) (pa_cons (pv 5) pa_nil))) pa_nil))))) pa_nil))))))))
          pss_nil))))
      (pss_one (ps_ret (pe_tup (pa_cons (pv 2) (pa_cons (pe_call cO.ok r1 (by rfl) cO.g cO.kp cO.b .nil pass0 (pa_cons (pv 1) pa_nil)) pa_nil)))))))), ?_⟩
    · rintro σ H Q ⟨l, W, e4, hW, k⟩
      refine ⟨_, e4, Nat.zero_le _, fun e ne => ⟨l, e, W, [], rfl, rfl, hW.same (new_same ne), ⟨[], upd_same, .nil⟩, _, rfl, k _ _ (new_same ne) ?_⟩⟩
      by_cases z : W = []
      · subst z; simp
      · simp [z]
    have lL : L.length ≤ 300 := by
      have h1 := C.sides_few
      have h2 := sides_len L
      have h3 : R.length * R.length ≤ 16 * 16 := Nat.mul_le_mul hR hR
      omega
    refine ⟨_, rfl, a, L, rfl, hA, lL, fun H1 d s1 nd1 hd1 => ?_⟩
    refine ⟨Nat.zero_le _, fun tl ntl => ?_⟩
    have s2 : Same H1 (upd H1 tl (.lst [])) := new_same ntl
    have hd2 := hd1.same s2
    have dt : d ≠ tl := fun z => by
      obtain ⟨_, e, _⟩ := hd1
      rw [z, ntl] at e
      cases e
    have htl2 : (upd H1 tl (.lst [])) tl = some (.lst []) := upd_same
    generalize upd H1 tl (.lst []) = H2 at s2 hd2 htl2 ⊢
    obtain ⟨es, hes, hen⟩ := id hd2
    obtain ⟨Hg, hHg⟩ := exists_high R
    have I0 : ∀ W, (∀ s, isWrong (farP L) s = true → s ∈ W) → TurnI R Hg (farP L) W [] := fun W h => TurnI.start C h
    have kf := tab_few (I0 ((farP L).map (·.1)) fun s h => two_key (wrong_two h)).kov.toCov0 (I0 ((farP L).map (·.1)) fun s h => two_key (wrong_two h)).nd
    have h16 : R.length * R.length ≤ 16 * 16 := Nat.mul_le_mul hR hR
    -- waiting
    refine ⟨d, _, hes, True.intro, fun od => ?_⟩
    have tpl : TupS H2 (upd H2 d (.frz od (DN P w d es))) := upd_tups hes fun _ z => nomatch z
    refine ⟨_, rfl, d, od, es, rfl, upd_same, fun D nD => ?_⟩
    have hel := en_keep tpl hen
    refine lcF_keys (j := 3) (hasTwoB (farP L)) upd_same (en_keys hel) nD (by have := paired_len hen; omega) ?_ (fun k u H3 Rr hk sm hu kk => ?_) (fun H3 ws sm hw hp => ?_)
    · exact (by decide : 3 < 9)
    · refine ⟨_, rfl, _, rfl, d, farP L, u, k, rfl, ⟨es, .inr ⟨od, sm _ _ upd_same⟩, en_keep (Same.tups sm) hel⟩, hu, fun H4 s4 => ⟨_, rfl, kk H4 s4⟩⟩
    have hdl := sm _ _ (upd_same (H := H2) (a := d) (o := .frz od (DN P w d es)))
    have Dd : D ≠ d := fun z => by rw [z, upd_same] at nD; cases nD
    have nD2 : H2 D = none := by rw [upd_ne Dd] at nD; exact nD
    refine ⟨hdl, ?_⟩
    have sU : Same H2 (upd H3 d (DN P w d es)) := fun b o e => by
      by_cases z : b = d
      · subst z; rw [upd_same]; exact hes.symm.trans e
      · rw [upd_ne z]; exact sm _ _ (by rw [upd_ne z]; exact e)
    have hWD : LsV eSd (upd H3 d (DN P w d es)) D (((farP L).map (·.1)).filter (hasTwoB (farP L))) := ⟨ws, by rw [upd_ne Dd]; exact hw, reps_keep (upd_tups hdl fun _ z => nomatch z) hp⟩
    refine ⟨D, _, rfl, hWD, fun wl wus nwl hpw => ?_⟩
    have sV : Same (upd H3 d (DN P w d es)) (upd (upd H3 d (DN P w d es)) wl (.lst wus)) := new_same nwl
    have hWw : LsV eSd (upd (upd H3 d (DN P w d es)) wl (.lst wus)) wl (srt eSd (((farP L).map (·.1)).filter (hasTwoB (farP L)))) := ⟨wus, upd_same, paired_same sV hpw⟩
    have sAll := sU.trans sV
    have nwl2 : H2 wl = none := sU.free nwl
    generalize upd (upd H3 d (DN P w d es)) wl (.lst wus) = H5 at sAll hWw ⊢
    have tw' : tl ≠ wl := fun z => by rw [z, nwl2] at htl2; cases htl2
    have dw : d ≠ wl := fun z => by rw [z, nwl2] at hes; cases hes
    have nH : H tl = none ∧ H wl = none ∧ H d = none := ⟨s1.free ntl, (s1.trans s2).free nwl2, nd1⟩
    have s05 : Same H H5 := (s1.trans s2).trans sAll
    refine while_by (fun σ H6 => ∃ y3 y5 y6 y7 y8 t W S us, σ = [some (.ref a), some (.ref d), some (.ref tl), y3, some (.ref wl), y5, y6, y7, y8] ∧ Same H H6 ∧ DictM P w H6 d t ∧ LsV eSd H6 wl W ∧ H6 tl = some (.lst us) ∧ us.length = S.length ∧ W.length ≤ 256 + 4 * S.length ∧ TurnI R Hg t W S) (fun σ H6 => 5 * (300 - lstLen H6 tl) + lstLen H6 wl)
      ⟨none, none, none, none, none, farP L, _, [], [], rfl, s05, hd2.same sAll, hWw, sAll _ _ htl2, rfl, ?_, I0 _ fun s h => (mem_srtE eSd).mpr (List.mem_filter.mpr ⟨two_key (wrong_two h), wrong_two h⟩)⟩
      (fun σ H6 ⟨y3, y5, y6, y7, y8, t, W, S, us, eσ, sm, hD, hW, htl, lS, lW, I⟩ => ?_) (fun σ H Q Q' hq ⟨l, W, e, h, k⟩ => ⟨l, W, e, h, fun H' b s i => hq _ _ (k H' b s i)⟩)
    · have h1 := List.length_filter_le (hasTwoB (farP L)) ((farP L).map (·.1))
      rw [List.length_map] at h1
      have h2 : (srt eSd (((farP L).map (·.1)).filter (hasTwoB (farP L)))).length = (((farP L).map (·.1)).filter (hasTwoB (farP L))).length := List.length_mergeSort _
      omega
    subst eσ
    have few := I.few
    have tfew := tab_few I.kov.toCov0 I.nd
    refine ⟨wl, W, rfl, hW, fun H7 b s7 hb => ite2 (fun e => ?_) (fun e => ?_)⟩
    · -- a turn
      obtain ⟨W', s, rfl⟩ := last_split (hb.mp e)
      rw [List.length_append, List.length_singleton] at lW
      obtain ⟨ws7, hw7, hpw7⟩ := hW.same s7
      have lw6 : lstLen H6 wl = ws7.length := by
        obtain ⟨x, hx, _⟩ := hW
        have := s7 _ _ hx
        rw [hw7] at this
        unfold lstLen
        rw [hx]
        exact congrArg List.length (HO.lst.inj (Option.some.inj this)).symm
      have lt6 : lstLen H6 tl = us.length := by unfold lstLen; rw [htl]
      rw [lw6, lt6]
      obtain ⟨u, hu, ru, hpd⟩ := paired_last hpw7
      have hD7 := hD.same s7
      have htl7 := s7 _ _ htl
      have s67 := sm.trans s7
      clear hW hD htl sm
      refine ⟨_, rfl, .inl ⟨rfl, _, SqL.of hw7⟩, wl, ws7, u, rfl, rfl, hw7, hu, ?_⟩
      have x8 : Sx wl H7 (upd H7 wl (.lst ws7.dropLast)) := Sx.upd _ _ _
      have t8 := x8.tups hw7
      have hw8 : (upd H7 wl (.lst ws7.dropLast)) wl = some (.lst ws7.dropLast) := upd_same
      have s8 := x8.same s67 nH.2.1
      have htl8 := x8 _ _ htl7 tw'
      obtain ⟨xs7, hx7, hen7⟩ := hD7
      have hD8 : DictM P w (upd H7 wl (.lst ws7.dropLast)) d t := ⟨xs7, x8 _ _ hx7 dw, en_keep t8 hen7⟩
      have ru8 := eSd.keep ru t8
      have hp8 := reps_keep t8 hpd
      have lw8 : ws7.length = W'.length + 1 := by have := paired_len' hpw7; simpa using this
      generalize upd H7 wl (.lst ws7.dropLast) = H8 at x8 t8 hw8 s8 htl8 hD8 ru8 hp8 ⊢
      refine ⟨_, rfl, _, rfl, d, t, u, s, rfl, hD8.v, ru8, fun c hc => ?_, fun H9 s9 => ⟨_, rfl, ?_⟩⟩
      · have := I.kov.pos (a := s.1) (b := s.2) (c := c) hc
        omega
      have hD9 := hD8.same s9
      have hw9 := s9 _ _ hw8
      have htl9 := s9 _ _ htl8
      have ru9 := ru8.keep (Same.tups s9)
      have hp9 := paired_same s9 hp8
      have s89 := s8.trans s9
      have lw9 : lstLen H9 wl = W'.length := by unfold lstLen; rw [hw9]; exact paired_len' hp9
      cases ew : isWrong t s with
      | false =>
        refine iteF ⟨⟨_, _, _, _, _, t, W', S, us, rfl, s89, hD9, ⟨_, hw9, hp9⟩, htl9, lS, by omega, I.skip ew⟩, ?_⟩
        have : lstLen H9 tl = us.length := by unfold lstLen; rw [htl9]
        rw [this, lw9]
        omega
      | true =>
        refine iteT ?_
        obtain ⟨c, e, lab, h1, h2, sp⟩ := isWrong_iff.mp ew
        have nab := lt_ne lab
        have I' := TurnI.turn hHg I lab h1 h2 sp
        have few' := I'.few
        rw [List.length_append] at few'
        simp only [List.length_cons, List.length_nil] at few'
        obtain ⟨x, va, vb, rfl, hx, ra, rb⟩ := ru9
        refine ⟨_, rfl, x, [va, vb], rfl, SqT.of hx, rfl, va, _, rfl, vb, [], rfl, rfl, ?_⟩
        -- c
        refine ⟨_, rfl, _, rfl, _, rfl, by show 2 ≤ sizeLine; decide, fun T1 n1 => ?_⟩
        have q1 := new_same (o := .tup [va, vb]) n1
        refine ⟨d, t, (s.1, s.2), c, rfl, (hD9.same q1).v, sd_new n1 ra rb, h1, fun vc rc => ?_⟩
        refine ⟨_, rfl, _, rfl, _, rfl, by show 2 ≤ sizeLine; decide, fun T2 n2 => ?_⟩
        have q2 := new_same (o := .tup [vb, va]) n2
        have q12 := q1.trans q2
        refine ⟨d, t, (s.2, s.1), e, rfl, (hD9.same q12).v, sd_new n2 (rb.same q1) (ra.same q1), h2, fun vd rd => ?_⟩
        have rc2 := rc.same q2
        have hDa := hD9.same q12
        have hwa := q12 _ _ hw9
        have htla := q12 _ _ htl9
        have hpa := paired_same q12 hp9
        have sa := s89.trans q12
        have raa := ra.same q12
        have rba := rb.same q12
        have hxa := q12 _ _ hx
        generalize upd (upd H9 T1 (.tup [va, vb])) T2 (.tup [vb, va]) = Ha at rc2 rd hDa hwa htla hpa sa raa rba hxa ⊢
        -- turns.append
        refine ⟨_, rfl, .inl ⟨rfl, _, SqL.of htla⟩, _, rfl, _, rfl, _, rfl, d, t, .ref x, s.1, s.2, c, e, rfl, hDa, ⟨x, va, vb, rfl, hxa, raa, rba⟩, h1, h2, nab, by omega, fun Hb ub xb hDb hub => ⟨by show 2 ≤ sizeLine; decide, fun T3 n3 => ?_⟩⟩
        have tb := xb.tupsD hDa
        have q3 := new_same (o := .tup [.ref x, ub]) n3
        have hwc := q3 _ _ (xb _ _ hwa dw.symm)
        have htlc := q3 _ _ (xb _ _ htla dt.symm)
        have hDc := hDb.same q3
        have sc := (xb.same sa nH.2.2).trans q3
        have tc : TupS Ha (upd Hb T3 (.tup [.ref x, ub])) := fun b o h => Same.tups q3 _ _ (tb _ _ h)
        have hpc := reps_keep tc hpa
        have rac := raa.keep tc
        have rbc := rba.keep tc
        have rcc := rc2.keep tc
        have rdc := rd.keep tc
        generalize upd Hb T3 (.tup [.ref x, ub]) = Hc at hwc htlc hDc sc hpc rac rbc rcc rdc ⊢
        refine ⟨tl, us, _, rfl, rfl, htlc, small (by omega), ?_⟩
        have xd : Sx tl Hc (upd Hc tl (.lst (us ++ [.ref T3]))) := Sx.upd _ _ _
        have td := xd.tups htlc
        have hwd := xd _ _ hwc tw'.symm
        have htld : (upd Hc tl (.lst (us ++ [.ref T3]))) tl = some (.lst (us ++ [.ref T3])) := upd_same
        obtain ⟨xsc, hxc, henc⟩ := hDc
        have hDd : DictM P w (upd Hc tl (.lst (us ++ [.ref T3]))) d (cutT t s.1 s.2 c e) := ⟨xsc, xd _ _ hxc dt, en_keep td henc⟩
        have sd := xd.same sc nH.1
        have hpd' := reps_keep td hpc
        have rad := rac.keep td
        have rbd := rbc.keep td
        have rcd := rcc.keep td
        have rdd := rdc.keep td
        generalize upd Hc tl (.lst (us ++ [.ref T3])) = Hd at hwd htld hDd sd hpd' rad rbd rcd rdd ⊢
        -- waiting.extend
        refine ⟨_, rfl, .inl ⟨rfl, _, SqL.of hwd⟩, ?_⟩
        refine ⟨_, rfl, _, rfl, va, vc, s.1, c, rfl, rad, rcd, fun z1 w1 m1 g1 => ?_⟩
        have p1 := new_same (o := .tup w1) m1
        refine ⟨_, rfl, _, rfl, vc, vb, c, s.2, rfl, rcd.same p1, rbd.same p1, fun z2 w2 m2 g2 => ?_⟩
        have p2 := new_same (o := .tup w2) m2
        have p12 := p1.trans p2
        refine ⟨_, rfl, _, rfl, vb, vd, s.2, e, rfl, rbd.same p12, rdd.same p12, fun z3 w3 m3 g3 => ?_⟩
        have p3 := new_same (o := .tup w3) m3
        have p13 := p12.trans p3
        refine ⟨_, rfl, _, rfl, vd, va, e, s.1, rfl, rdd.same p13, rad.same p13, fun z4 w4 m4 g4 => ?_⟩
        have p4 := new_same (o := .tup w4) m4
        have p14 := p13.trans p4
        refine ⟨by show 4 ≤ sizeLine; decide, fun l5 nl5 => ?_⟩
        have p5 := new_same (o := .lst [.ref z1, .ref z2, .ref z3, .ref z4]) nl5
        have p15 := p14.trans p5
        have hw5 := p15 _ _ hwd
        have new4 : Paired (SdV (upd (upd (upd (upd (upd Hd z1 (.tup w1)) z2 (.tup w2)) z3 (.tup w3)) z4 (.tup w4)) l5 (.lst [.ref z1, .ref z2, .ref z3, .ref z4]))) [.ref z1, .ref z2, .ref z3, .ref z4] [inOrd s.1 c, inOrd c s.2, inOrd s.2 e, inOrd e s.1] :=
          .cons (g1.keep (Same.tups (((p2.trans p3).trans p4).trans p5))) (.cons (g2.keep (Same.tups ((p3.trans p4).trans p5))) (.cons (g3.keep (Same.tups (p4.trans p5))) (.cons (g4.keep (Same.tups p5)) .nil)))
        have hD5 := hDd.same p15
        have htl5 := p15 _ _ htld
        have hp5 := paired_same (E := eSd) p15 hpd'
        have s5 := sd.trans p15
        have hl5 : (upd (upd (upd (upd (upd Hd z1 (.tup w1)) z2 (.tup w2)) z3 (.tup w3)) z4 (.tup w4)) l5 (.lst [.ref z1, .ref z2, .ref z3, .ref z4])) l5 = some (.lst [.ref z1, .ref z2, .ref z3, .ref z4]) := upd_same
        generalize upd (upd (upd (upd (upd Hd z1 (.tup w1)) z2 (.tup w2)) z3 (.tup w3)) z4 (.tup w4)) l5 (.lst [.ref z1, .ref z2, .ref z3, .ref z4]) = He at new4 hD5 htl5 hp5 s5 hl5 hw5 ⊢
        refine ⟨wl, l5, _, _, rfl, rfl, hw5, hl5, ?_, ?_⟩
        · rw [List.length_dropLast, lw8]
          exact small' (by simp only [List.length_cons, List.length_nil]; omega)
        · have xf : Sx wl He (upd He wl (.lst (ws7.dropLast ++ [.ref z1, .ref z2, .ref z3, .ref z4]))) := Sx.upd _ _ _
          have tf := xf.tups hw5
          obtain ⟨xs5, hx5, hen5⟩ := hD5
          refine ⟨⟨_, _, _, _, _, _, _, _, us ++ [.ref T3], rfl, xf.same s5 nH.2.1, ⟨xs5, xf _ _ hx5 dw, en_keep tf hen5⟩, ⟨_, upd_same, reps_keep tf (paired_app new4 hp5)⟩, xf _ _ htl5 tw', by rw [List.length_append, List.length_append, lS]; rfl, by rw [List.length_append, List.length_append]; simp only [List.length_cons, List.length_nil]; omega, I'⟩, ?_⟩
          have e1 : lstLen (upd He wl (.lst (ws7.dropLast ++ [.ref z1, .ref z2, .ref z3, .ref z4]))) tl = us.length + 1 := by unfold lstLen; rw [xf _ _ htl5 tw']; simp
          have e2 : lstLen (upd He wl (.lst (ws7.dropLast ++ [.ref z1, .ref z2, .ref z3, .ref z4]))) wl = W'.length + 4 := by
            unfold lstLen
            rw [upd_same]
            show (ws7.dropLast ++ [V.ref z1, .ref z2, .ref z3, .ref z4]).length = _
            rw [List.length_append, List.length_dropLast, lw8]
            rfl
          rw [e1, e2]
          omega
    · have e : W = [] := by
        by_cases z : W = []
        · exact z
        · exact absurd (hb.mpr z) e
      subst e
      have N := TurnI.net hHg I
      refine ⟨_, rfl, _, rfl, d, t, rfl, hD.same s7, by omega, fun H8 n s8 nn hn => ⟨by show 2 ≤ sizeLine; decide, fun T nT => ?_⟩⟩
      have s9 := new_same (o := .tup [.ref tl, .ref n]) nT
      exact q _ T (.ref tl) n _ ((sm.trans s7).trans (s8.trans s9)) upd_same (hn.same s9) N
end
end NW

/-! by_turning; the law's small defs over ints. -/
namespace NW
open PySem PySem.Spec PyProof.Rows L2 NK
abbrev sByTurning : Stmt := topS 26
abbrev sAt : Stmt := topS 28
abbrev sMany : Stmt := topS 30
section
variable {X : Cx}
def CPowX (i j : Int) : Prop := 0 ≤ j ∧ (Builtin.Int.intBits i : Int) * j ≤ 2 ^ 27
theorem op_powX : OpR X (binaryOp .Pow) (rI CPowX fun i j => .int (i ^ j.toNat)) := opI fun _ _ _ _ _ _ _ hc q => pow_int hc.1 hc.2 q
theorem op_strmul : OpR X (binaryOp .Mult) (fun x y H Q => ∃ a n, x = .str a ∧ y = .int n ∧ MulOk a n ∧ Q (.str (Txt.mul a n)) H) := by
  intro pins s σ H x y v u Q I rx ry h
  obtain ⟨a, n, rfl, rfl, hok, q⟩ := h
  obtain ⟨t, rfl⟩ := rx
  obtain ⟨t', rfl⟩ := ry
  exact SB.mul hok fun t' k => ⟨.str _, H, I.tok _, ⟨_, rfl⟩, q⟩
end
section
variable {P : Program} {w : World} {K : PySem.W.Frag} {mg : Str → Option Value} {base : Heap}
abbrev nByTurning : List Str := ["places"]
theorem scByTurning : FnScope nByTurning ["places"] (defScope sByTurning) := ⟨rfl, rfl, rfl, by decide +kernel, rfl, by decide +kernel, by decide +kernel⟩
def spByTurning : Sp := fun vs H Q _ => ∃ (a : Addr) (xs : List Pl), vs = [.ref a] ∧ LsV ePl H a xs ∧ xs.Nodup ∧ xs.length ≤ 16 ∧ ∀ H' n N, Same H H' → LsV eTr H' n N → NetL xs N → Q (.ref n) H'
theorem ok_by_turning {f : Addr} {fd : FuncData} (F : Fun K "by_turning" "by_turning" sByTurning f fd) (cT : Cal P w K mg base 6 "turnings" ["cover"] spTurnings) (cS : Cal P w K mg base 6 "swept" ["places"] spSwept) : FnOk P w K mg base CX0 7 f fd ["places"] spByTurning := by
  refine F.ok scByTurning (fun vs H Q E h => ?_) (fun cdv A outer s H vs Q E hr h => ?_)
  · obtain ⟨a, xs, rfl, _⟩ := h
    rfl
  · obtain ⟨a, xs, rfl, hA, nd, hl, q⟩ := h
    refine ⟨_, pss_one (ps_ret (pe_ix ix_tup (pe_call cT.ok hr (by rfl) cT.g cT.kp cT.b .nil pass0 (pa_cons (pe_call cS.ok hr (by rfl) cS.g cS.kp cS.b .nil pass0 (pa_cons (pv 0) pa_nil)) pa_nil)) pe_int (fun _ _ => rfl))), ?_⟩
    refine ⟨_, rfl, a, xs, rfl, hA, hl, fun H1 l s1 _ h1 => ⟨l, _, xs, rfl, h1, swept_covL nd, hl, fun H2 T x n N s2 hT hN net => ?_⟩⟩
    exact ⟨T, _, 1, .ref n, rfl, rfl, SqT.of hT, atI_nat (j := 1) rfl, q H2 n N (s1.trans s2) hN net⟩
/-! ### _law_at -/
def atS (ns : List Int) (k : Nat) : Int := ns.getD k 0
abbrev nAt : List Str := ["_law_script", "_law_k"]
theorem scAt : FnScope nAt nAt (defScope sAt) := ⟨rfl, rfl, rfl, by decide +kernel, rfl, by decide +kernel, by decide +kernel⟩
def spAt (K : PySem.W.Frag) : Sp := fun vs H Q _ => ∃ (a : Addr) (ns : List Int) (k : Nat), vs = [.ref a, .int k] ∧ SqL K H a (ns.map V.int) ∧ ns.length ≤ 1000 ∧ ∀ H', Same H H' → Q (.int (atS ns k)) H'
theorem cutV_one (us : List V) (k : Nat) : cutV us (some (k : Int)) (some ((k : Int) + 1)) = (us.drop k).take 1 := by
  unfold cutV
  rw [HT.sIx_nat, show ((k : Int) + 1) = ((k + 1 : Nat) : Int) by omega, HT.sIx_nat]
  by_cases h : k < us.length
  · rw [Nat.min_eq_left (by omega), Nat.min_eq_left (by omega)]
    congr 1
    omega
  · rw [Nat.min_eq_right (by omega), Nat.min_eq_right (by omega), List.drop_eq_nil_of_le (Nat.le_refl _), List.drop_eq_nil_of_le (by omega)]
    simp
theorem ok_at {f : Addr} {fd : FuncData} (F : Fun K "_law_at" "_law_at" sAt f fd) : FnOk P w K mg base CX0 1 f fd nAt (spAt K) := by
  refine F.ok scAt (fun vs H Q E h => ?_) (fun cdv A outer s H vs Q E hr h => ?_)
  · obtain ⟨a, ns, k, rfl, _⟩ := h
    rfl
  · obtain ⟨a, ns, k, rfl, hA, hl, q⟩ := h
    refine ⟨_, pss_one (ps_ret (pe_ix ix_list (pe_op op_cat (pe_slice sl_list (pv 0) (po_some (pv 1)) (po_some (pe_op op_add (pv 1) pe_int))) (pe_lst (pa_cons pe_int pa_nil))) pe_int (fun _ _ => rfl))), ?_⟩
    refine ⟨_, rfl, _, rfl, _, rfl, _, rfl, _, _, rfl, rfl, _, rfl, a, _, rfl, hA, fun p np => ?_⟩
    rw [cutV_one]
    have s1 := new_same (o := .lst (((ns.map V.int).drop k).take 1)) np
    refine ⟨by show 1 ≤ sizeLine; decide, fun p2 np2 => ?_⟩
    have s2 := new_same (o := .lst [.int 0]) np2
    refine ⟨p, p2, _, _, rfl, rfl, s2 _ _ upd_same, upd_same, ?_, fun p3 np3 => ?_⟩
    · rw [List.length_take]
      exact small' (by simp only [List.length_cons, List.length_nil]; omega)
    have s3 := new_same (o := .lst (((ns.map V.int).drop k).take 1 ++ [.int 0])) np3
    refine ⟨p3, _, 0, .int (atS ns k), rfl, rfl, SqL.of upd_same, atI_nat (j := 0) ?_, q _ ((s1.trans s2).trans s3)⟩
    unfold atS
    rw [List.getD_eq_getElem?_getD]
    by_cases h : k < ns.length
    · rw [List.getElem?_append_left (by rw [List.length_take, List.length_drop, List.length_map]; omega), List.getElem?_take_of_lt (by omega), List.getElem?_drop, List.getElem?_map, Nat.add_zero, List.getElem?_eq_getElem h]
      rfl
    · have e : ns[k]? = none := List.getElem?_eq_none (by omega)
      rw [List.drop_eq_nil_of_le (by rw [List.length_map]; omega), List.take_nil, e]
      rfl
/-! ### _law_many -/
abbrev nMany : List Str := ["_law_cell"]
theorem scMany : FnScope nMany nMany (defScope sMany) := ⟨rfl, rfl, rfl, by decide +kernel, rfl, by decide +kernel, by decide +kernel⟩
def spMany : Sp := fun vs H Q _ => ∃ c : Int, vs = [.int c] ∧ ∀ H' (m : Nat), Same H H' → m ≤ 16 → Q (.int m) H'
def manyL : List Nat := [4, 5, 6, 7, 8, 3, 6, 7, 5, 8, 6, 2, 1, 0, 7, 16]
theorem ok_many {f : Addr} {fd : FuncData} (F : Fun K "_law_many" "_law_many" sMany f fd) : FnOk P w K mg base CX0 1 f fd nMany spMany := by
  refine F.ok scMany (fun vs H Q E h => ?_) (fun cdv A outer s H vs Q E hr h => ?_)
  · obtain ⟨c, rfl, _⟩ := h
    rfl
  · obtain ⟨c, rfl, q⟩ := h
    refine ⟨_, pss_one (ps_ret (pe_ix ix_list (pe_lst (pa_cons pe_int (pa_cons pe_int (pa_cons pe_int (pa_cons pe_int (pa_cons pe_int (pa_cons pe_int (pa_cons pe_int (pa_cons pe_int (pa_cons pe_int (pa_cons pe_int (pa_cons pe_int (pa_cons pe_int (pa_cons pe_int (pa_cons pe_int (pa_cons pe_int (pa_cons pe_int pa_nil))))))))))))))))) (pe_op op_mod (pv 0) pe_int) (fun _ _ => rfl))), ?_⟩
    refine ⟨by show 16 ≤ sizeLine; decide, fun p np => ?_⟩
    have h0 : 0 ≤ c % 16 := Int.emod_nonneg c (by decide)
    have h1 : c % 16 < 16 := Int.emod_lt_of_pos c (by decide)
    obtain ⟨j, hj⟩ : ∃ j : Nat, c % 16 = j := ⟨(c % 16).toNat, by omega⟩
    have hj16 : j < manyL.length := by show j < 16; omega
    refine ⟨_, rfl, _, _, rfl, rfl, (by show (0 : Int) < 16; decide), p, manyL.map (fun m : Nat => V.int (m : Int)), _, .int (manyL[j] : Nat), rfl, rfl, SqL.of upd_same, ?_, q _ _ (new_same np) ?_⟩
    · rw [hj]
      exact atI_nat (by rw [List.getElem?_map, List.getElem?_eq_getElem hj16]; rfl)
    · have : ∀ j : Fin 16, manyL[j.1]'(by show j.1 < 16; exact j.2) ≤ 16 := by decide
      exact this ⟨j, hj16⟩
end
end NW

/-! _law_spot. -/
namespace NW
open PySem PySem.Spec PyProof.Rows L2 NK
abbrev sSpot : Stmt := topS 29
instance (p : Pl) : Decidable (Bd p) := by unfold Bd; infer_instance
def Big (i : Int) : Prop := Builtin.Int.intBits i ≤ 1048576
theorem big_mul {i j : Int} (h : Big i) (hj : j.natAbs < 2 ^ 1000) : CMulX i j := mul_x (lt_bits h) hj (by decide)
section
variable {X : Cx}
theorem ps_weak {st : Stmt} {t t' : TS} (h : PS X st t) (f : ∀ D σ H, t' D σ H → t D σ H) : PS X st t' := ⟨fun pins s σ H D I hw => h.run pins s σ H D I (f _ _ _ hw)⟩
theorem pa_weak {es : List Expr} {t t' : TA} (h : PA X es t) (f : ∀ σ H Q, t' σ H Q → t σ H Q) : PA X es t' := ⟨fun pos pins s σ H Q I hw => h.run pos pins s σ H Q I (f _ _ _ hw)⟩
/-- a written pair, written pairs -/
def tPr (p : Pl) : TE := fun _ H Q => ∀ H' v, Same H H' → PlV H' v p → Q v H'
def tPrs (ps : List Pl) : TA := fun _ H Q => ∀ H' us, Same H H' → Paired (PlV H') us ps → Q us H'
theorem pe_pr {e1 e2 : Expr} {t1 t2 : TE} {i j : Int} {k pos} (h1 : PE X e1 t1) (h2 : PE X e2 t2) (f1 : ∀ σ H Q, Q (.int i) H → t1 σ H Q) (f2 : ∀ σ H Q, Q (.int j) H → t2 σ H Q) (b : Bd (i, j)) (hs1 : starEach [e1, e2] X.env = (false, eval e1 X.env) :: starEach [e2] X.env := by rfl) (hs2 : starEach [e2] X.env = (false, eval e2 X.env) :: starEach [] X.env := by rfl) : PE X (.Tuple [e1, e2] k pos) (tPr (i, j)) :=
  pe_weak (pe_tup (pa_cons h1 (pa_cons h2 pa_nil hs2) hs1)) fun σ H Q q => f1 _ _ _ (f2 _ _ _ ⟨by show 2 ≤ sizeLine; decide, fun t nt => q _ _ (new_same nt) ⟨t, rfl, upd_same, b⟩⟩)
theorem prs_nil : PA X [] (tPrs []) := pa_weak pa_nil fun σ H Q q => q H [] (Same.refl H) .nil
theorem prs_cons {e : Expr} {es : List Expr} {p : Pl} {ps : List Pl} (h : PE X e (tPr p)) (r : PA X es (tPrs ps)) (hs : starEach (e :: es) X.env = (false, eval e X.env) :: starEach es X.env := by rfl) : PA X (e :: es) (tPrs (p :: ps)) :=
  pa_weak (pa_cons h r hs) fun σ H Q q => fun H1 v s1 hv H2 us s2 hus => q H2 (v :: us) (s1.trans s2) (.cons (hv.same s2) hus)
end
theorem fk {σ : L2.St} {H : Hp} {Q : VK} {i : Int} : Q (.int i) H → tC (.int i) σ H Q := fun q => q
theorem set_self {σ : L2.St} {i : Nat} {v : Option V} (h : σ[i]? = some v) : σ.set i v = σ := by
  obtain ⟨hi, e⟩ := List.getElem?_eq_some_iff.mp h
  rw [← e, List.set_getElem_self]
def fiveL : List Pl := [(5, 0), (4, 3), (3, 4), (0, 5), (-3, 4), (-4, 3), (-5, 0)] ++ [(-4, -3), (-3, -4), (0, -5), (3, -4), (4, -3), (0, 0)]
theorem five_bd : ∀ j : Fin 13, (fiveL[j.1]'(by show j.1 < 13; exact j.2)).1.natAbs < 2 ^ 3 ∧ (fiveL[j.1]'(by show j.1 < 13; exact j.2)).2.natAbs < 2 ^ 3 := by decide
theorem e30 : (10 : Int) ^ (30 : Int).toNat = 1000000000000000000000000000000 := by decide
theorem e38 : (10 : Int) ^ (38 : Int).toNat = 100000000000000000000000000000000000000 := by decide
theorem e488 : ((48271 : Int) ^ (8 : Int).toNat).natAbs < 2 ^ 1000 := by decide
theorem e697 : ((69621 : Int) ^ (7 : Int).toNat).natAbs < 2 ^ 1000 := by decide
section
variable {P : Program} {w : World} {K : PySem.W.Frag} {mg : Str → Option Value} {base : Heap}
abbrev nSpot : List Str := ["_law_kind", "_law_cell", "_law_head", "_law_five", "_law_x", "_law_y", "_law_times"]
theorem scSpot : FnScope nSpot ["_law_kind", "_law_cell", "_law_head"] (defScope sSpot) := ⟨rfl, rfl, rfl, by decide +kernel, rfl, by decide +kernel, by decide +kernel⟩
def spSpot : Sp := fun vs H Q _ => ∃ kind cell head : Int, vs = [.int kind, .int cell, .int head] ∧ 0 ≤ kind ∧ kind < 8 ∧ Big cell ∧ Big head ∧ ∀ H' v p, Same H H' → PlV H' v p → Q v H'
def tKind : TS := fun D σ H => ∃ kind cell : Int, σ[0]? = some (some (.int kind)) ∧ σ[1]? = some (some (.int cell)) ∧ 0 ≤ kind ∧ kind < 8 ∧ ∀ H' (k : Int), Same H H' → D.nx (σ.set 0 (some (.int k))) H'
theorem pl_new {H : Hp} {t : Addr} {i j : Int} (b : Bd (i, j)) : PlV (upd H t (.tup [.int i, .int j])) (.ref t) (i, j) := ⟨t, rfl, upd_same, b⟩
theorem ok_spot {f : Addr} {fd : FuncData} (F : Fun K "_law_spot" "_law_spot" sSpot f fd) : FnOk P w K mg base CX0 1 f fd ["_law_kind", "_law_cell", "_law_head"] spSpot := by
  refine F.ok scSpot (fun vs H Q E h => ?_) (fun cdv A outer s H vs Q E hr h => ?_)
  · obtain ⟨kind, cell, head, rfl, _⟩ := h
    rfl
  · obtain ⟨kind, cell, head, rfl, k0, k8, bc, bh, q⟩ := h
    have nd := scSpot.nd
    refine ⟨_, pss_cons (ps_weak (t' := tKind) (ps_if (pt_cmpR op_gt (pv 0) pe_int (nomark _))
        (pss_one (ps_set (i := 0) nd rfl (.inl rfl) (pe_ix ix_list (pe_lst (pa_cons pe_int (pa_cons pe_int (pa_cons pe_int (pa_cons pe_int pa_nil)))))
          (pe_op op_add (pe_op op_mul pe_int (pe_op op_sub (pv 0) pe_int)) (pe_op op_mod (pe_op op_fdiv (pv 1) pe_int) pe_int)) (fun _ _ => rfl)))) pss_nil) ?_)
      (pss_cons (ps_if (pt_cmpR op_eq (pv 0) pe_int (nomark _))
        (pss_one (ps_ret (pe_tup (pa_cons (pe_op op_add (pe_op op_mod (pv 1) pe_int) (pe_op op_pow pe_int pe_int)) (pa_cons (pe_op op_sub (pe_op op_mod (pe_op op_fdiv (pv 1) pe_int) pe_int) (pe_op op_pow pe_int pe_int)) pa_nil))))) pss_nil)
      (pss_cons (ps_if (pt_cmpR op_eq (pv 0) pe_int (nomark _))
        (pss_cons (ps_set (i := 3) nd rfl (.inl rfl) (pe_lst
          (prs_cons (pe_pr (i := 5) (j := 0) pe_int pe_int (fun _ _ _ q => q) (fun _ _ _ q => q) (by decide)) (prs_cons (pe_pr (i := 4) (j := 3) pe_int pe_int (fun _ _ _ q => q) (fun _ _ _ q => q) (by decide)) (prs_cons (pe_pr (i := 3) (j := 4) pe_int pe_int (fun _ _ _ q => q) (fun _ _ _ q => q) (by decide))
          (prs_cons (pe_pr (i := 0) (j := 5) pe_int pe_int (fun _ _ _ q => q) (fun _ _ _ q => q) (by decide)) (prs_cons (pe_pr (i := -3) (j := 4) (pe_un un_neg pe_int) pe_int (fun _ _ _ q => ⟨_, rfl, q⟩) (fun _ _ _ q => q) (by decide)) (prs_cons (pe_pr (i := -4) (j := 3) (pe_un un_neg pe_int) pe_int (fun _ _ _ q => ⟨_, rfl, q⟩) (fun _ _ _ q => q) (by decide))
          (prs_cons (pe_pr (i := -5) (j := 0) (pe_un un_neg pe_int) pe_int (fun _ _ _ q => ⟨_, rfl, q⟩) (fun _ _ _ q => q) (by decide)) prs_nil)))))))))
        (pss_cons (ps_set (i := 3) nd rfl (.inl rfl) (pe_op op_cat (pv 3) (pe_lst
          (prs_cons (pe_pr (i := -4) (j := -3) (pe_un un_neg pe_int) (pe_un un_neg pe_int) (fun _ _ _ q => ⟨_, rfl, q⟩) (fun _ _ _ q => ⟨_, rfl, q⟩) (by decide)) (prs_cons (pe_pr (i := -3) (j := -4) (pe_un un_neg pe_int) (pe_un un_neg pe_int) (fun _ _ _ q => ⟨_, rfl, q⟩) (fun _ _ _ q => ⟨_, rfl, q⟩) (by decide))
          (prs_cons (pe_pr (i := 0) (j := -5) pe_int (pe_un un_neg pe_int) (fun _ _ _ q => q) (fun _ _ _ q => ⟨_, rfl, q⟩) (by decide)) (prs_cons (pe_pr (i := 3) (j := -4) pe_int (pe_un un_neg pe_int) (fun _ _ _ q => q) (fun _ _ _ q => ⟨_, rfl, q⟩) (by decide))
          (prs_cons (pe_pr (i := 4) (j := -3) pe_int (pe_un un_neg pe_int) (fun _ _ _ q => q) (fun _ _ _ q => ⟨_, rfl, q⟩) (by decide)) (prs_cons (pe_pr (i := 0) (j := 0) pe_int pe_int (fun _ _ _ q => q) (fun _ _ _ q => q) (by decide)) prs_nil)))))))))
        (pss_cons (ps_asg (pe_ix ix_list (pv 3) (pe_op op_mod (pv 1) pe_int) (fun _ _ => rfl)) (pg_tup rfl (pgs_cons (pg_name (i := 4) nd rfl (.inl rfl)) (pgs_cons (pg_name (i := 5) nd rfl (.inl rfl)) pgs_nil))))
        (pss_cons (ps_set (i := 6) nd rfl (.inl rfl) (pe_op op_mulX (pe_op op_add pe_int (pe_op op_mod (pv 2) pe_int)) (pe_op op_add pe_int (pe_op op_mod (pe_op op_fdiv (pv 1) pe_int) pe_int))))
        (pss_one (ps_ret (pe_tup (pa_cons (pe_op op_add (pe_op op_mulX (pv 4) (pv 6)) (pe_op op_mod (pe_op op_fdiv (pv 2) pe_int) (pe_op op_pow pe_int pe_int)))
          (pa_cons (pe_op op_sub (pe_op op_mulX (pv 5) (pv 6)) (pe_op op_mod (pe_op op_fdiv (pv 2) pe_int) (pe_op op_pow pe_int pe_int))) pa_nil)))))))))
        pss_nil)
      (pss_cons (ps_if (pt_cmpR op_eq (pv 0) pe_int (nomark _))
        (pss_cons (ps_set (i := 4) nd rfl (.inl rfl) (pe_op op_sub (pe_op op_mod (pv 1) pe_int) pe_int))
        (pss_one (ps_ret (pe_tup (pa_cons (pv 4) (pa_cons (pe_op op_add (pe_op op_mul pe_int (pv 4)) (pe_op op_mulX (pe_op op_fdiv (pe_op op_mod (pe_op op_fdiv (pv 1) pe_int) pe_int) pe_int) (pe_op op_add pe_int (pe_op op_mod (pe_op op_fdiv (pv 1) pe_int) pe_int)))) pa_nil)))))) pss_nil)
      (pss_cons (ps_if (pt_cmpR op_eq (pv 0) pe_int (nomark _))
        (pss_one (ps_ret (pe_tup (pa_cons (pe_op op_sub (pe_op op_mod (pe_op op_mulX (pv 1) pe_int) pe_int) pe_int) (pa_cons (pe_op op_sub (pe_op op_mod (pe_op op_mulX (pv 1) pe_int) pe_int) pe_int) pa_nil))))) pss_nil)
      (pss_cons (ps_if (pt_cmpR op_eq (pv 0) pe_int (nomark _))
        (pss_cons (ps_set (i := 4) nd rfl (.inl rfl) (pe_op op_mod (pe_op op_mulX (pv 1) (pe_op op_pow pe_int pe_int)) pe_int))
        (pss_one (ps_ret (pe_tup (pa_cons (pe_op op_sub (pv 4) (pe_op op_pow pe_int pe_int)) (pa_cons (pe_op op_sub (pe_op op_pow pe_int pe_int) (pe_op op_mod (pe_op op_mulX (pv 1) (pe_op op_pow pe_int pe_int)) pe_int)) pa_nil)))))) pss_nil)
      (pss_one (ps_ret (pe_tup (pa_cons (pe_op op_mod (pv 1) pe_int) (pa_cons (pe_op op_mod (pe_op op_fdiv (pv 1) pe_int) pe_int) pa_nil)))))))))), ?_⟩
    · rintro D σ H ⟨kind, cell, e0, e1, k0, k8, q⟩
      refine ⟨_, e0, _, _, rfl, rfl, _, rfl, ite2 (fun h => ?_) (fun h => ?_)⟩
      · have h : (5 : Int) < kind := of_decide_eq_true h
        refine ⟨by show 4 ≤ sizeLine; decide, fun l nl => ?_⟩
        have c2 : 0 ≤ cell / 16 % 2 ∧ cell / 16 % 2 < 2 := ⟨Int.emod_nonneg _ (by decide), Int.emod_lt_of_pos _ (by decide)⟩
        obtain ⟨j, hj, j4⟩ : ∃ j : Nat, 2 * (kind - 6) + cell / 16 % 2 = j ∧ j < 4 := ⟨(2 * (kind - 6) + cell / 16 % 2).toNat, by omega, by omega⟩
        refine ⟨_, e0, _, _, rfl, rfl, _, _, rfl, rfl, .inl ⟨by decide, by decide⟩, _, e1, _, _, rfl, rfl, ⟨by decide, by decide⟩, _, _, rfl, rfl, (by show (0 : Int) < 2; decide), _, _, rfl, rfl, ?_⟩
        refine ⟨l, [.int 0, .int 3, .int 0, .int 5], _, .int ([0, 3, 0, 5][j]'(by show j < 4; exact j4)), rfl, rfl, SqL.of upd_same, ?_, q _ _ (new_same nl)⟩
        rw [hj]
        refine atI_nat ?_
        match j, j4 with
        | 0, _ => rfl
        | 1, _ => rfl
        | 2, _ => rfl
        | 3, _ => rfl
      · have := q H kind (Same.refl H)
        rw [set_self e0] at this
        exact this
    refine ⟨kind, cell, rfl, rfl, k0, k8, fun H1 k s1 => ?_⟩
    have q := fun H' v p (s : Same H1 H') h => q H' v p (s1.trans s) h
    have fin : ∀ {i j : Int} {H2 : Hp}, Same H1 H2 → Bd (i, j) → [V.int i, V.int j].length ≤ sizeLine ∧ ∀ t, H2 t = none → Q (.ref t) (upd H2 t (.tup [.int i, .int j])) := fun s b => ⟨by show 2 ≤ sizeLine; decide, fun t nt => q _ _ _ (s.trans (new_same nt)) (pl_new b)⟩
    refine ⟨_, rfl, rfl, _, rfl, ite2 (fun _ => ?_) (fun _ => ?_)⟩
    · refine ⟨_, rfl, _, _, rfl, rfl, (by show (0 : Int) < 3; decide), _, _, rfl, rfl, ⟨by decide, by decide, by decide⟩, _, _, rfl, rfl, _, rfl, _, _, rfl, rfl, ⟨by decide, by decide⟩, _, _, rfl, rfl, (by show (0 : Int) < 3; decide), _, _, rfl, rfl, ⟨by decide, by decide, by decide⟩, _, _, rfl, rfl, fin (Same.refl _) ?_⟩
      rw [e30]
      unfold Bd
      simp only
      omega
    refine ⟨_, rfl, rfl, _, rfl, ite2 (fun _ => ?_) (fun _ => ?_)⟩
    · refine fun H2 us s2 hp => ⟨small' (by have := paired_len' hp; rw [this]; decide), fun l nl => ?_⟩
      have n1 := new_same (o := .lst us) nl
      refine ⟨_, rfl, fun H3 vs s3 hq => ⟨small' (by have := paired_len' hq; rw [this]; decide), fun l2 nl2 => ⟨l, l2, us, vs, rfl, rfl, new_same nl2 _ _ (s3 _ _ upd_same), upd_same, small' (by have := paired_len' hq; have e := paired_len' hp; rw [this, e]; decide), fun l3 nl3 => ?_⟩⟩⟩
      have n2 := new_same (o := .lst vs) nl2
      have n3 := new_same (o := .lst (us ++ vs)) nl3
      have hz : Paired (PlV (upd (upd H3 l2 (.lst vs)) l3 (.lst (us ++ vs)))) (us ++ vs) fiveL := paired_app (paired_same (E := ePl) (n2.trans n3) hq) (paired_same (E := ePl) (((n1.trans s3).trans n2).trans n3) hp)
      have sA : Same H1 (upd (upd H3 l2 (.lst vs)) l3 (.lst (us ++ vs))) := (((s2.trans n1).trans s3).trans n2).trans n3
      have h4 : (upd (upd H3 l2 (.lst vs)) l3 (.lst (us ++ vs))) l3 = some (.lst (us ++ vs)) := upd_same
      generalize upd (upd H3 l2 (.lst vs)) l3 (.lst (us ++ vs)) = H4 at hz sA h4 ⊢
      obtain ⟨j, hj, j13⟩ : ∃ j : Nat, cell % 13 = j ∧ j < 13 := ⟨(cell % 13).toNat, by omega, by omega⟩
      obtain ⟨v, hv, T, rfl, hT, _⟩ := reps_get' hz (List.getElem?_eq_getElem (show j < fiveL.length from j13))
      obtain ⟨b1, b2⟩ := five_bd ⟨j, j13⟩
      simp only at b1 b2
      generalize fiveL[j]'(show j < fiveL.length from j13) = p at hT b1 b2
      refine ⟨_, rfl, _, rfl, _, _, rfl, rfl, (by show (0 : Int) < 13; decide), l3, _, _, .ref T, rfl, rfl, SqL.of h4, (by rw [hj]; exact atI_nat hv), T, _, rfl, SqT.of hT, rfl, .int p.1, _, rfl, .int p.2, [], rfl, rfl, ?_⟩
      have bt : (1 + head % 1009).natAbs < 2 ^ 11 ∧ (1 + cell / 13 % 2).natAbs < 2 ^ 2 := by omega
      have bm := mul_lt bt.1 bt.2
      refine ⟨_, rfl, _, _, rfl, rfl, (by show (0 : Int) < 1009; decide), _, _, rfl, rfl, _, rfl, _, _, rfl, rfl, ⟨by decide, by decide⟩, _, _, rfl, rfl, (by show (0 : Int) < 2; decide), _, _, rfl, rfl, _, _, rfl, rfl, mul_x bt.1 bt.2 (by decide), ?_⟩
      have bx := mul_lt b1 bm
      have by' := mul_lt b2 bm
      refine ⟨_, rfl, _, rfl, _, _, rfl, rfl, mul_x (a := 3) (b := 13) b1 bm (by decide), _, rfl, _, _, rfl, rfl, ⟨by decide, by decide⟩, _, _, rfl, rfl, ⟨by decide, by decide, by decide⟩, _, _, rfl, rfl, (by show (0 : Int) < 10 ^ (30 : Int).toNat; decide), _, _, rfl, rfl, ?_⟩
      refine ⟨_, rfl, _, rfl, _, _, rfl, rfl, mul_x (a := 3) (b := 13) b2 bm (by decide), _, rfl, _, _, rfl, rfl, ⟨by decide, by decide⟩, _, _, rfl, rfl, ⟨by decide, by decide, by decide⟩, _, _, rfl, rfl, (by show (0 : Int) < 10 ^ (30 : Int).toNat; decide), _, _, rfl, rfl, fin sA ?_⟩
      rw [e30]
      generalize p.1 * ((1 + head % 1009) * (1 + cell / 13 % 2)) = x1 at bx ⊢
      generalize p.2 * ((1 + head % 1009) * (1 + cell / 13 % 2)) = x2 at by' ⊢
      unfold Bd
      simp only
      omega
    refine ⟨_, rfl, rfl, _, rfl, ite2 (fun _ => ?_) (fun _ => ?_)⟩
    · have bx : (cell % 11 - 5).natAbs < 2 ^ 4 := by omega
      have ba : (cell / 11 % 3 / 2).natAbs < 2 ^ 2 ∧ (1 + cell / 33 % 4).natAbs < 2 ^ 3 := by omega
      have bm := mul_lt ba.1 ba.2
      refine ⟨_, rfl, _, _, rfl, rfl, (by show (0 : Int) < 11; decide), _, _, rfl, rfl, ?_⟩
      refine ⟨_, rfl, _, rfl, _, _, rfl, rfl, .inl ⟨by decide, by decide⟩, _, rfl, _, _, rfl, rfl, ⟨by decide, by decide⟩, _, _, rfl, rfl, (by show (0 : Int) < 3; decide), _, _, rfl, rfl, ⟨by decide, by decide⟩, ?_⟩
      refine ⟨_, rfl, _, _, rfl, rfl, ⟨by decide, by decide⟩, _, _, rfl, rfl, (by show (0 : Int) < 4; decide), _, _, rfl, rfl, _, _, rfl, rfl, mul_x ba.1 ba.2 (by decide), _, _, rfl, rfl, fin (Same.refl _) ?_⟩
      generalize cell / 11 % 3 / 2 * (1 + cell / 33 % 4) = z at bm ⊢
      generalize cell % 11 - 5 = x at bx ⊢
      unfold Bd
      simp only
      omega
    refine ⟨_, rfl, rfl, _, rfl, ite2 (fun _ => ?_) (fun _ => ?_)⟩
    · refine ⟨_, rfl, _, _, rfl, rfl, big_mul bc (by decide), _, _, rfl, rfl, (by show (0 : Int) < 2003; decide), _, _, rfl, rfl, _, rfl, _, _, rfl, rfl, big_mul bc (by decide), _, _, rfl, rfl, (by show (0 : Int) < 1999; decide), _, _, rfl, rfl, fin (Same.refl _) ?_⟩
      unfold Bd
      simp only
      omega
    refine ⟨_, rfl, rfl, _, rfl, ite2 (fun _ => ?_) (fun _ => ?_)⟩
    · refine ⟨_, rfl, _, _, rfl, rfl, ⟨by decide, by decide, by decide⟩, _, _, rfl, rfl, big_mul bc e488, _, _, rfl, rfl, (by show (0 : Int) < 170141183460469231731687303715884105727; decide), ?_⟩
      refine ⟨_, rfl, _, _, rfl, rfl, ⟨by decide, by decide, by decide⟩, _, _, rfl, rfl, ?_⟩
      refine ⟨_, _, rfl, rfl, ⟨by decide, by decide, by decide⟩, _, rfl, _, _, rfl, rfl, ⟨by decide, by decide, by decide⟩, _, _, rfl, rfl, big_mul bc e697, _, _, rfl, rfl, (by show (0 : Int) < 162259276829213363391578010288127; decide), _, _, rfl, rfl, fin (Same.refl _) ?_⟩
      rw [e38, e30]
      generalize cell * 48271 ^ (8 : Int).toNat = x
      generalize cell * 69621 ^ (7 : Int).toNat = y
      unfold Bd
      simp only
      omega
    · refine ⟨_, rfl, _, _, rfl, rfl, (by show (0 : Int) < 4; decide), _, rfl, _, _, rfl, rfl, ⟨by decide, by decide⟩, _, _, rfl, rfl, (by show (0 : Int) < 4; decide), fin (Same.refl _) ?_⟩
      unfold Bd
      simp only
      omega
end
end NW

/-! _law_places, _law_dug, _law_row. -/
namespace NW
open PySem PySem.Spec PyProof.Rows L2 NK
abbrev sPlaces : Stmt := topS 31
abbrev sDug : Stmt := topS 32
abbrev sRow : Stmt := topS 33
theorem Room.units65 {k : Nat} {A : Around} (r : Room k A) : A.units + 65 < cLine := by have := r.un; omega
theorem cutV_nat (us : List V) (i m : Nat) : cutV us (some (i : Int)) (some ((i : Int) + m)) = (us.drop i).take m := by
  unfold cutV
  rw [HT.sIx_nat, show ((i : Int) + m) = ((i + m : Nat) : Int) by omega, HT.sIx_nat]
  by_cases h : i < us.length
  · have e1 : min i us.length = i := Nat.min_eq_left (by omega)
    rw [e1]
    by_cases h2 : i + m ≤ us.length
    · have e2 : min (i + m) us.length = i + m := Nat.min_eq_left h2
      rw [e2]
      congr 1
      omega
    · have e2 : min (i + m) us.length = us.length := Nat.min_eq_right (by omega)
      rw [e2, List.take_of_length_le (by rw [List.length_drop]; omega), List.take_of_length_le (by rw [List.length_drop]; omega)]
  · have e1 : min i us.length = us.length := Nat.min_eq_right (by omega)
    rw [e1, List.drop_eq_nil_of_le (Nat.le_refl _), List.drop_eq_nil_of_le (by omega)]
    simp
theorem Big.le {i j : Int} (h : Big i) (k : j.natAbs ≤ i.natAbs) : Big j := bits_lt (Nat.lt_of_le_of_lt k (lt_bits h))
theorem big_small {i : Int} (h : i.natAbs < 2 ^ 1000) : Big i := Nat.le_trans (bits_lt h) (by decide)
theorem at_big {ns : List Int} (h : ∀ z ∈ ns, Big z) (k : Nat) : Big (atS ns k) := by
  unfold atS
  rw [List.getD_eq_getElem?_getD]
  cases e : ns[k]? with
  | none => exact big_small (by decide)
  | some z => exact h z (List.mem_of_getElem? e)
section
variable {P : Program} {w : World} {K : PySem.W.Frag} {mg : Str → Option Value} {base : Heap}
abbrev nPlaces : List Str := ["_law_script", "_law_most", "_law_some", "_law_cell", "_law_spot_here"]
theorem scPlaces : FnScope nPlaces ["_law_script", "_law_most"] (defScope sPlaces) := ⟨rfl, rfl, rfl, by decide +kernel, rfl, by decide +kernel, by decide +kernel⟩
def spPlaces (K : PySem.W.Frag) : Sp := fun vs H Q _ => ∃ (a : Addr) (ns : List Int) (m : Nat), vs = [.ref a, .int m] ∧ SqL K H a (ns.map V.int) ∧ ns.length ≤ 1000 ∧ (∀ z ∈ ns, Big z) ∧ m ≤ 16 ∧
  ∀ H' l xs, Same H H' → H l = none → LsV ePl H' l xs → xs.Nodup → xs.length ≤ 16 → Q (.ref l) H'
theorem ok_places {f : Addr} {fd : FuncData} (F : Fun K "_law_places" "_law_places" sPlaces f fd) (cS : Cal P w K mg base 1 "_law_spot" ["_law_kind", "_law_cell", "_law_head"] spSpot) (cA : Cal P w K mg base 1 "_law_at" nAt (spAt K)) : FnOk P w K mg base CX0 2 f fd ["_law_script", "_law_most"] (spPlaces K) := by
  refine F.ok scPlaces (fun vs H Q E h => ?_) (fun cdv A outer s H vs Q E hr h => ?_)
  · obtain ⟨a, ns, m, rfl, _⟩ := h
    rfl
  · obtain ⟨a, ns, m, rfl, hA, hl, hb, hm, q⟩ := h
    have nd := scPlaces.nd
    refine ⟨_, pss_cons (ps_set (i := 2) nd rfl (.inl rfl) (pe_lst pa_nil))
      (pss_cons (ps_for PassesOwn.never rfl (pi_list (pe_slice sl_list (pv 0) (po_some pe_int) (po_some (pe_op op_add pe_int (pv 1))))) (pg_name (i := 3) nd rfl (Or.inl rfl))
        (pss_cons (ps_set (i := 4) nd rfl (.inl rfl) (pe_call cS.ok hr (by rfl) cS.g cS.kp cS.b .nil pass0 (pa_cons (pe_op op_mod (pe_call cA.ok hr (by rfl) cA.g cA.kp cA.b .nil pass0 (pa_cons (pv 0) (pa_cons pe_int pa_nil))) pe_int)
            (pa_cons (pv 3) (pa_cons (pe_call cA.ok hr (by rfl) cA.g cA.kp cA.b .nil pass0 (pa_cons (pv 0) (pa_cons pe_int pa_nil))) pa_nil)))))
        (pss_one (ps_if (pt_cmpR (op_notInL ePl (Room.units65 hr)) (pv 4) (pv 2) (by rfl))
          (pss_one (ps_expr (pe_bm PySem.F.plainAttrs_list PySem.F.slot_list_append PySem.F.type_list_append mt_append (pv 2) (pa_cons (pv 4) pa_nil)))) pss_nil))))
      (pss_one (ps_ret (pv 2)))), ?_⟩
    refine ⟨Nat.zero_le _, fun l nl => ?_⟩
    have s1 := new_same (o := .lst []) nl
    have hl1 : (upd H l (.lst [])) l = some (.lst []) := upd_same
    refine ⟨_, rfl, _, rfl, _, rfl, _, _, rfl, rfl, _, rfl, a, _, rfl, s1.seq hA, fun c nc => ?_⟩
    rw [show (some (3 : Int)) = some ((3 : Nat) : Int) from rfl, show (3 : Int) + (m : Int) = ((3 : Nat) : Int) + (m : Int) from rfl, cutV_nat]
    have s2 := new_same (o := .lst (((ns.map V.int).drop 3).take m)) nc
    have lc : l ≠ c := fun z => by rw [← z, hl1] at nc; cases nc
    refine ⟨c, rfl, ⟨_, SqL.of upd_same⟩, for_list (xs := ((ns.map V.int).drop 3).take m) (fun i σ H3 => ∃ y3 y4 xs, σ = [some (.ref a), some (.int m), some (.ref l), y3, y4] ∧ Same H H3 ∧ H3 c = some (.lst (((ns.map V.int).drop 3).take m)) ∧ LsV ePl H3 l xs ∧ xs.Nodup ∧ xs.length ≤ i)
      ⟨none, none, [], rfl, s1.trans s2, upd_same, ⟨[], s2 _ _ hl1, .nil⟩, List.nodup_nil, Nat.le_refl _⟩ (fun i σ H3 _ ⟨_, _, _, _, _, h, _⟩ => SqL.of h) (fun i u σ H3 hu ⟨y3, y4, xs, es, sm, hc, hL, hn, hlen⟩ => ?_) (fun σ H3 ⟨y3, y4, xs, es, sm, hc, hL, hn, hlen⟩ => ?_)⟩
    · subst es
      obtain ⟨z, hz, rfl⟩ : ∃ z, z ∈ ns ∧ u = .int z := by
        have := List.mem_of_mem_drop (List.mem_of_mem_take (List.mem_of_getElem? hu))
        obtain ⟨z, hz, e⟩ := List.mem_map.mp this
        exact ⟨z, hz, e.symm⟩
      have im : i < m := by
        have := (List.getElem?_eq_some_iff.mp hu).1
        rw [List.length_take] at this
        omega
      refine ⟨_, rfl, a, ns, 0, rfl, sm.seq hA, hl, fun H4 s4 => ?_⟩
      have k0 := Int.emod_nonneg (atS ns 0) (show (8 : Int) ≠ 0 by decide)
      have k8 := Int.emod_lt_of_pos (atS ns 0) (show (0 : Int) < 8 by decide)
      refine ⟨_, _, rfl, rfl, (by show (0 : Int) < 8; decide), _, rfl, _, rfl, a, ns, 2, rfl, (sm.trans s4).seq hA, hl, fun H5 s5 => ⟨_, z, _, rfl, k0, k8, hb z hz, at_big hb 2, fun H6 v p s6 hv => ?_⟩⟩
      have s36 := (s4.trans s5).trans s6
      have sm6 := sm.trans s36
      have hL6 := hL.same s36
      have hc6 := s36 _ _ hc
      refine ⟨_, rfl, _, rfl, p, l, xs, hv, rfl, hL6, _, rfl, ite2 (fun e => ?_) (fun e => ?_)⟩
      · have e : p ∉ xs := by simpa using e
        obtain ⟨us, h1, h2⟩ := hL6
        refine ⟨_, rfl, .inl ⟨rfl, _, SqL.of h1⟩, v, rfl, l, us, v, rfl, rfl, h1, small (by have := paired_len' h2; omega), ?_⟩
        have sx : Sx l H6 (upd H6 l (.lst (us ++ [v]))) := Sx.upd _ _ _
        have tp := sx.tups h1
        refine ⟨some (.int z), some v, xs ++ [p], rfl, sx.same sm6 nl, sx _ _ hc6 lc.symm, ⟨_, upd_same, reps_keep tp (paired_snoc hv h2)⟩, ?_, by rw [List.length_append]; simp; omega⟩
        refine List.nodup_append.mpr ⟨hn, by simp, fun x hx y hy => ?_⟩
        have : y = p := by simpa using hy
        subst this
        rintro rfl
        exact e hx
      · exact ⟨some (.int z), some v, xs, rfl, sm6, hc6, hL6, hn, by omega⟩
    · subst es
      exact ⟨_, rfl, q H3 l xs sm nl hL hn (by rw [List.length_take] at hlen; omega)⟩
abbrev nRow : List Str := ["_law_cell", "_law_most", "_law_by", "_law_found", "_law_rest", "_law_k"]
theorem scRow : FnScope nRow ["_law_cell", "_law_most", "_law_by"] (defScope sRow) := ⟨rfl, rfl, rfl, by decide +kernel, rfl, by decide +kernel, by decide +kernel⟩
def spRow : Sp := fun vs H Q _ => ∃ cell : Int, vs = [.int cell, .int 60, .int 78] ∧ Big cell ∧ ∀ H' l (ms : List Int), Same H H' → H l = none → H' l = some (.lst (ms.map V.int)) → ms.length ≤ 60 → (∀ z ∈ ms, Big z) → Q (.ref l) H'
/-- if rest < 1: a new rest -/
def tRest (j : Nat) (r : Nat) : TS := fun D σ H => ∃ cell k rst : Int, σ[0]? = some (some (.int cell)) ∧ σ[j]? = some (some (.int k)) ∧ σ[r]? = some (some (.int rst)) ∧ Big cell ∧ ∀ x : Int, D.nx (σ.set r (some (.int x))) H
theorem ok_row {f : Addr} {fd : FuncData} (F : Fun K "_law_row" "_law_row" sRow f fd) (mr : mg "range" = none) : FnOk P w K mg base CX0 1 f fd ["_law_cell", "_law_most", "_law_by"] spRow := by
  refine F.ok scRow (fun vs H Q E h => ?_) (fun cdv A outer s H vs Q E hr h => ?_)
  · obtain ⟨cell, rfl, _⟩ := h
    rfl
  · obtain ⟨cell, rfl, bc, q⟩ := h
    have nd := scRow.nd
    refine ⟨_, pss_cons (ps_set (i := 3) nd rfl (.inl rfl) (pe_lst pa_nil))
      (pss_cons (ps_set (i := 4) nd rfl (.inl rfl) (pe_op op_fdiv (pv 0) (pe_op op_add (pv 1) pe_int)))
      (pss_cons (ps_for PassesOwn.never rfl (pi_range1 (by rfl) mr (pa_cons (pe_op op_mod (pv 0) (pe_op op_add (pv 1) pe_int)) pa_nil)) (pg_name (i := 5) nd rfl (Or.inl rfl))
        (pss_cons (ps_weak (t' := tRest 5 4) (ps_if (pt_cmpR op_lt (pv 4) pe_int (nomark _))
            (pss_one (ps_set (i := 4) nd rfl (.inl rfl) (pe_op op_pow (pe_op op_mod (pe_op op_add (pe_op op_add (pe_op op_mulX (pv 0) pe_int) (pe_op op_mul (pv 5) pe_int)) pe_int) pe_int) pe_int))) pss_nil) ?_)
        (pss_cons (ps_expr (pe_bm PySem.F.plainAttrs_list PySem.F.slot_list_append PySem.F.type_list_append mt_append (pv 3) (pa_cons (pe_op op_mod (pv 4) (pv 2)) pa_nil)))
        (pss_one (ps_set (i := 4) nd rfl (.inl rfl) (pe_op op_fdiv (pv 4) (pv 2)))))))
      (pss_one (ps_ret (pv 3))))), ?_⟩
    · rintro D σ H ⟨cell, k, rst, e0, e5, e4, bc, q⟩
      refine ⟨_, e4, _, _, rfl, rfl, _, rfl, ite2 (fun h => ?_) (fun h => ?_)⟩
      · refine ⟨_, e0, _, _, rfl, rfl, big_mul bc (by decide), _, e5, _, _, rfl, rfl, .inr ⟨by decide, by decide⟩, _, _, rfl, rfl, _, _, rfl, rfl, _, _, rfl, rfl, (by show (0 : Int) < 2147483563; decide), _, _, rfl, rfl, ⟨by decide, by decide, ?_⟩, q _⟩
        have h0 := Int.emod_nonneg (cell * 39373 + k * 7919 + 54321) (show (2147483563 : Int) ≠ 0 by decide)
        have h1 := Int.emod_lt_of_pos (cell * 39373 + k * 7919 + 54321) (show (0 : Int) < 2147483563 by decide)
        generalize (cell * 39373 + k * 7919 + 54321) % 2147483563 = z at h0 h1 ⊢
        omega
      · have := q rst
        rw [set_self e4] at this
        exact this
    refine ⟨Nat.zero_le _, fun l nl => ?_⟩
    have s1 := new_same (o := .lst []) nl
    have c0 := Int.emod_nonneg cell (show (60 + 1 : Int) ≠ 0 by decide)
    have c1 := Int.emod_lt_of_pos cell (show (0 : Int) < 60 + 1 by decide)
    refine ⟨_, rfl, _, rfl, _, _, rfl, rfl, _, _, rfl, rfl, ⟨by decide, by decide⟩, _, rfl, _, rfl, _, _, rfl, rfl, _, _, rfl, rfl, (by show (0 : Int) < 60 + 1; decide), _, rfl, by omega, by omega, ?_⟩
    refine for_range (fun i σ H3 => ∃ (y5 : Option V) (rst : Int) (ms : List Int), σ = [some (.int cell), some (.int 60), some (.int 78), some (.ref l), some (.int rst), y5] ∧ Same H H3 ∧ H3 l = some (.lst (ms.map V.int)) ∧ ms.length ≤ i ∧ ∀ z ∈ ms, Big z)
      ⟨none, _, [], rfl, s1, upd_same, Nat.le_refl _, fun _ h => by cases h⟩ (fun i σ H3 hi ⟨y5, rst, ms, es, sm, hL, hlen, hb⟩ => ?_) (fun σ H3 ⟨y5, rst, ms, es, sm, hL, hlen, hb⟩ => ?_)
    · subst es
      refine ⟨cell, _, rst, rfl, rfl, rfl, bc, fun x => ?_⟩
      refine ⟨_, rfl, .inl ⟨rfl, _, SqL.of hL⟩, _, rfl, _, rfl, _, _, rfl, rfl, (by show (0 : Int) < 78; decide), l, _, _, rfl, rfl, hL, small (by rw [List.length_map]; omega), ?_⟩
      refine ⟨_, rfl, _, rfl, _, _, rfl, rfl, ⟨by decide, by decide⟩, some (.int (0 + (i : Int))), x / 78, ms ++ [x % 78], rfl, same_at sm nl, ?_, by rw [List.length_append]; simp; omega, fun z hz => ?_⟩
      · rw [upd_same, List.map_append]
        rfl
      · rcases List.mem_append.mp hz with h | h
        · exact hb z h
        · have : z = x % 78 := by simpa using h
          subst this
          refine big_small (Nat.lt_of_lt_of_le (m := 2 ^ 10) ?_ (Nat.pow_le_pow_right (by decide) (by decide)))
          omega
    · subst es
      exact ⟨_, rfl, q H3 l ms sm nl hL (by omega) hb⟩
end
end NW

/-! _law_dug. -/
namespace NW
open PySem PySem.Spec PyProof.Rows L2 NK
def nineS : Str := Str.ofString "9"
theorem nine_ok : ∀ i : Fin 40, MulOk nineS (1 + (i.1 : Int)) := by unfold MulOk; decide +kernel
theorem nine_int (i : Nat) (h : i < 40) : ∃ n, PySem.intText? (Txt.mul nineS (1 + (i : Int))) = some n ∧ (0 ≤ n ∧ n < 10 ^ 40) ∧ (Txt.mul nineS (1 + (i : Int))).length ≤ 640 := by
  have all : ∀ i : Fin 40, (match PySem.intText? (Txt.mul nineS (1 + (i.1 : Int))) with | some n => decide (0 ≤ n ∧ n < 10 ^ 40) | none => false) = true ∧ (Txt.mul nineS (1 + (i.1 : Int))).length ≤ 640 := by decide +kernel
  have := all ⟨i, h⟩
  obtain ⟨h1, h2⟩ := this
  simp only at h1 h2
  split at h1
  · rename_i n e
    exact ⟨n, e, of_decide_eq_true h1, h2⟩
  · cases h1
theorem p40 : (10 : Int) ^ 40 = 10000000000000000000000000000000000000000 := by decide
theorem p200 : (2 : Nat) ^ 200 = 1606938044258990275541962092341162602522202993782792835301376 := by decide
theorem dug_pt (r1 r2 wd : Int) (h0 : 0 ≤ wd) (h1 : wd < 10 ^ 40) : Bd (r1 % (2 * wd + 1) - wd, r2 % (2 * wd + 1) - wd) := by
  have a0 := Int.emod_nonneg r1 (show 2 * wd + 1 ≠ 0 by omega)
  have a1 := Int.emod_lt_of_pos r1 (show 0 < 2 * wd + 1 by omega)
  have b0 := Int.emod_nonneg r2 (show 2 * wd + 1 ≠ 0 by omega)
  have b1 := Int.emod_lt_of_pos r2 (show 0 < 2 * wd + 1 by omega)
  generalize r1 % (2 * wd + 1) = x at a0 a1 ⊢
  generalize r2 % (2 * wd + 1) = y at b0 b1 ⊢
  rw [p40] at h1
  unfold Bd
  rw [p200]
  simp only
  omega
theorem wd_bd {wd : Int} (h0 : 0 ≤ wd) (h1 : wd < 10 ^ 40) : 0 < 2 * wd + 1 ∧ (2 * wd + 1).natAbs < 2 ^ 200 := by
  rw [p40] at h1
  rw [p200]
  omega
theorem sq_ok {wd : Int} (h0 : 0 ≤ wd) (h1 : wd < 10 ^ 40) : CPowX (2 * wd + 1) 2 ∧ CDivW (2 * wd + 1) ((2 * wd + 1)) ∧ CDivW 0 ((2 * wd + 1) ^ (2 : Int).toNat) := by
  obtain ⟨h2, h3⟩ := wd_bd h0 h1
  refine ⟨⟨by decide, ?_⟩, ⟨h2, (wide_div (i := 0) h2 h3 (by decide) (by decide)).2⟩, ?_⟩
  · have := bits_lt h3
    omega
  · have e : (2 * wd + 1) ^ (2 : Int).toNat = (2 * wd + 1) * (2 * wd + 1) := by
      show (2 * wd + 1) ^ 2 = _
      rw [Int.pow_succ, Int.pow_succ, Int.pow_zero, Int.one_mul]
    rw [e]
    exact wide_div (Int.mul_pos h2 h2) (mul_lt h3 h3) (by decide) (by decide)
section
variable {P : Program} {w : World} {K : PySem.W.Frag} {mg : Str → Option Value} {base : Heap}
abbrev nDug : List Str := ["_law_cell", "_law_k", "_law_wide", "_law_rest", "_law_some", "_law_spot_here"]
theorem scDug : FnScope nDug ["_law_cell"] (defScope sDug) := ⟨rfl, rfl, rfl, by decide +kernel, rfl, by decide +kernel, by decide +kernel⟩
def spDug : Sp := fun vs H Q _ => ∃ cell : Int, vs = [.int cell] ∧ Big cell ∧ ∀ H' l xs, Same H H' → H l = none → LsV ePl H' l xs → xs.Nodup → xs.length ≤ 16 → Q (.ref l) H'
theorem ok_dug {f : Addr} {fd : FuncData} (F : Fun K "_law_dug" "_law_dug" sDug f fd) (mr : mg "range" = none) (mi : mg "int" = none) : FnOk P w K mg base CX0 1 f fd ["_law_cell"] spDug := by
  refine F.ok scDug (fun vs H Q E h => ?_) (fun cdv A outer s H vs Q E hr h => ?_)
  · obtain ⟨cell, rfl, _⟩ := h
    rfl
  · obtain ⟨cell, rfl, bc, q⟩ := h
    have nd := scDug.nd
    refine ⟨_, pss_cons (ps_set (i := 2) nd rfl (.inl rfl) (pe_ix ix_list (pe_op op_cat (pe_lst (pa_cons pe_int (pa_cons pe_int (pa_cons pe_int (pa_cons pe_int pa_nil)))))
          (pe_lc (own := [("_law_k", 1)]) (g := gName 1) (by rfl) nd (pi_range2 (by rfl) mr (pa_cons pe_int (pa_cons pe_int pa_nil))) (blkOk_by (N := nDug) (sc := defScope sDug) (by decide +kernel)) (fun _ _ _ _ _ => pg_name (i := 1) nd rfl (Or.inl rfl))
            (fun _ _ _ _ _ => pts_nil) (fun _ _ _ _ _ => pe_callTy call_int_str (by rfl) mi (by decide +kernel) (pa_cons (pe_op op_strmul pe_str (pv 1)) pa_nil))))
          (pe_op op_mod (pe_op op_fdiv (pv 0) pe_int) pe_int) (fun _ _ => rfl)))
      (pss_cons (ps_set (i := 3) nd rfl (.inl rfl) (pe_op op_fdiv (pv 0) pe_int))
      (pss_cons (ps_set (i := 4) nd rfl (.inl rfl) (pe_lst pa_nil))
      (pss_cons (ps_for PassesOwn.never rfl (pi_range1 (by rfl) mr (pa_cons (pe_op op_mod (pv 0) pe_int) pa_nil)) (pg_name (i := 1) nd rfl (Or.inl rfl))
        (pss_cons (ps_weak (t' := tRest 1 3) (ps_if (pt_cmpR op_lt (pv 3) pe_int (nomark _))
            (pss_one (ps_set (i := 3) nd rfl (.inl rfl) (pe_op op_pow (pe_op op_mod (pe_op op_add (pe_op op_add (pe_op op_mulX (pv 0) pe_int) (pe_op op_mul (pv 1) pe_int)) pe_int) pe_int) pe_int))) pss_nil) ?_)
        (pss_cons (ps_set (i := 5) nd rfl (.inl rfl) (pe_tup (pa_cons (pe_op op_sub (pe_op op_mod (pv 3) (pe_op op_add (pe_op op_mul pe_int (pv 2)) pe_int)) (pv 2))
            (pa_cons (pe_op op_sub (pe_op op_mod (pe_op op_fdivW (pv 3) (pe_op op_add (pe_op op_mul pe_int (pv 2)) pe_int)) (pe_op op_add (pe_op op_mul pe_int (pv 2)) pe_int)) (pv 2)) pa_nil))))
        (pss_cons (ps_set (i := 3) nd rfl (.inl rfl) (pe_op op_fdivW (pv 3) (pe_op op_powX (pe_op op_add (pe_op op_mul pe_int (pv 2)) pe_int) pe_int)))
        (pss_one (ps_if (pt_cmpR (op_notInL ePl (Room.units65 hr)) (pv 5) (pv 4) (by rfl))
          (pss_one (ps_expr (pe_bm PySem.F.plainAttrs_list PySem.F.slot_list_append PySem.F.type_list_append mt_append (pv 4) (pa_cons (pv 5) pa_nil)))) pss_nil))))))
      (pss_one (ps_ret (pv 4)))))), ?_⟩
    · rintro D σ H ⟨cell, k, rst, e0, e5, e4, bc, q⟩
      refine ⟨_, e4, _, _, rfl, rfl, _, rfl, ite2 (fun h => ?_) (fun h => ?_)⟩
      · refine ⟨_, e0, _, _, rfl, rfl, big_mul bc (by decide), _, e5, _, _, rfl, rfl, .inr ⟨by decide, by decide⟩, _, _, rfl, rfl, _, _, rfl, rfl, _, _, rfl, rfl, (by show (0 : Int) < 2147483629; decide), _, _, rfl, rfl, ⟨by decide, by decide, ?_⟩, q _⟩
        have h0 := Int.emod_nonneg (cell * 48271 + k * 7919 + 12345) (show (2147483629 : Int) ≠ 0 by decide)
        have h1 := Int.emod_lt_of_pos (cell * 48271 + k * 7919 + 12345) (show (0 : Int) < 2147483629 by decide)
        generalize (cell * 48271 + k * 7919 + 12345) % 2147483629 = z at h0 h1 ⊢
        omega
      · have := q rst
        rw [set_self e4] at this
        exact this
    -- wide
    refine ⟨by show 4 ≤ sizeLine; decide, fun l1 n1 => ?_⟩
    have s1 := new_same (o := .lst [.int 1, .int 2, .int 3, .int 5]) n1
    have h1 : (upd H l1 (.lst [.int 1, .int 2, .int 3, .int 5])) l1 = some (.lst [.int 1, .int 2, .int 3, .int 5]) := upd_same
    refine ⟨_, _, rfl, ⟨by decide, by decide, by decide, by decide⟩, fun D nD => ?_⟩
    generalize upd H l1 (.lst [.int 1, .int 2, .int 3, .int 5]) = H1 at s1 h1 nD ⊢
    refine lc_range (lo := 1) (fun i H => Same H1 H ∧ ∃ ws : List Int, H D = some (.lst (ws.map V.int)) ∧ ws.length = i ∧ ∀ z ∈ ws, 0 ≤ z ∧ z < 10 ^ 40) ⟨new_same nD, [], upd_same, rfl, fun _ h => by cases h⟩ (fun i H2 hi ⟨sm, ws, hw, hl, hb⟩ => ?_) (fun H2 ⟨sm, ws, hw, hl, hb⟩ => ?_)
    · have hi : i < 40 := hi
      obtain ⟨n, e1, e2, e3⟩ := nine_int i hi
      refine ⟨rfl, ?_⟩
      refine ⟨_, rfl, _, _, rfl, rfl, nine_ok ⟨i, hi⟩, _, n, rfl, e1, e3, _, hw, small (by rw [List.length_map]; omega), same_at sm nD, ws ++ [n], ?_, by rw [List.length_append, hl]; rfl, fun z hz => ?_⟩
      · rw [upd_same, List.map_append]
        rfl
      · rcases List.mem_append.mp hz with h | h
        · exact hb z h
        · have : z = n := by simpa using h
          subst this
          exact e2
    have hl : ws.length = 40 := hl
    have nl1 := sm _ _ h1
    refine ⟨l1, D, _, _, rfl, rfl, nl1, hw, small' (by rw [List.length_map, hl]; decide), fun l2 n2 => ?_⟩
    have s2 := new_same (o := .lst ([.int 1, .int 2, .int 3, .int 5] ++ ws.map V.int)) n2
    have sA := (s1.trans sm).trans s2
    have hb2 : ∀ z ∈ ([1, 2, 3, 5] ++ ws : List Int), 0 ≤ z ∧ z < 10 ^ 40 := fun z hz => by
      rcases List.mem_append.mp hz with h | h
      · have : ∀ z ∈ ([1, 2, 3, 5] : List Int), 0 ≤ z ∧ z < 10 ^ 40 := by decide
        exact this z h
      · exact hb z h
    obtain ⟨j, hj, j44⟩ : ∃ j : Nat, cell / 17 % 44 = j ∧ j < 44 := ⟨(cell / 17 % 44).toNat, by omega, by omega⟩
    have jl : j < ([1, 2, 3, 5] ++ ws : List Int).length := by rw [List.length_append, hl]; exact j44
    obtain ⟨wd, hwd⟩ : ∃ wd, ([1, 2, 3, 5] ++ ws : List Int)[j]? = some wd := ⟨_, List.getElem?_eq_getElem jl⟩
    obtain ⟨w0, w1⟩ := hb2 wd (List.mem_of_getElem? hwd)
    have hd2 : (upd H2 l2 (.lst ([.int 1, .int 2, .int 3, .int 5] ++ ws.map V.int))) l2 = some (.lst (([1, 2, 3, 5] ++ ws : List Int).map V.int)) := by rw [upd_same, List.map_append]; rfl
    generalize upd H2 l2 (.lst ([.int 1, .int 2, .int 3, .int 5] ++ ws.map V.int)) = H3 at sA hd2 ⊢
    refine ⟨_, rfl, _, _, rfl, rfl, ⟨by decide, by decide⟩, _, _, rfl, rfl, (by show (0 : Int) < 44; decide), l2, _, _, .int wd, rfl, rfl, SqL.of hd2, (by rw [hj]; exact atI_nat (by rw [List.getElem?_map, hwd]; rfl)), ?_⟩
    refine ⟨_, rfl, _, _, rfl, rfl, ⟨by decide, by decide⟩, Nat.zero_le _, fun l nl => ?_⟩
    have s4 := new_same (o := .lst []) nl
    have nl0 := sA.free nl
    have c0 := Int.emod_nonneg cell (show (17 : Int) ≠ 0 by decide)
    have c1 := Int.emod_lt_of_pos cell (show (0 : Int) < 17 by decide)
    refine ⟨_, rfl, _, _, rfl, rfl, (by show (0 : Int) < 17; decide), _, rfl, by omega, by omega, ?_⟩
    refine for_range (fun i σ H4 => ∃ (y1 y5 : Option V) (rst : Int) (xs : List Pl), σ = [some (.int cell), y1, some (.int wd), some (.int rst), some (.ref l), y5] ∧ Same H H4 ∧ LsV ePl H4 l xs ∧ xs.Nodup ∧ xs.length ≤ i)
      ⟨none, none, _, [], rfl, sA.trans s4, ⟨[], upd_same, .nil⟩, List.nodup_nil, Nat.le_refl _⟩ (fun i σ H4 hi ⟨y1, y5, rst, xs, es, sm4, hL, hn, hlen⟩ => ?_) (fun σ H4 ⟨y1, y5, rst, xs, es, sm4, hL, hn, hlen⟩ => ?_)
    · subst es
      obtain ⟨p0, p1⟩ := wd_bd w0 w1
      obtain ⟨q1, q2, q3⟩ := sq_ok w0 w1
      refine ⟨cell, _, rst, rfl, rfl, rfl, bc, fun x => ?_⟩
      refine ⟨_, rfl, _, rfl, _, _, rfl, rfl, .inl ⟨by decide, by decide⟩, _, _, rfl, rfl, _, _, rfl, rfl, p0, _, rfl, _, _, rfl, rfl, ?_⟩
      refine ⟨_, rfl, _, rfl, _, _, rfl, rfl, .inl ⟨by decide, by decide⟩, _, _, rfl, rfl, _, _, rfl, rfl, q2, _, rfl, _, _, rfl, rfl, .inl ⟨by decide, by decide⟩, _, _, rfl, rfl, _, _, rfl, rfl, p0, _, rfl, _, _, rfl, rfl, by show 2 ≤ sizeLine; decide, fun t nt => ?_⟩
      have st := new_same (o := .tup [.int (x % (2 * wd + 1) - wd), .int (x / (2 * wd + 1) % (2 * wd + 1) - wd)]) nt
      have hp : PlV (upd H4 t (.tup [.int (x % (2 * wd + 1) - wd), .int (x / (2 * wd + 1) % (2 * wd + 1) - wd)])) (.ref t) (x % (2 * wd + 1) - wd, x / (2 * wd + 1) % (2 * wd + 1) - wd) := pl_new (dug_pt x (x / (2 * wd + 1)) wd w0 w1)
      generalize (x % (2 * wd + 1) - wd, x / (2 * wd + 1) % (2 * wd + 1) - wd) = p at hp
      have hL5 := hL.same st
      have sm5 := sm4.trans st
      refine ⟨_, rfl, _, rfl, _, _, rfl, rfl, .inl ⟨by decide, by decide⟩, _, _, rfl, rfl, _, _, rfl, rfl, q1, _, _, rfl, rfl, q3, ?_⟩
      refine ⟨_, rfl, _, rfl, p, l, xs, hp, rfl, hL5, _, rfl, ite2 (fun e => ?_) (fun e => ?_)⟩
      · have e : p ∉ xs := by simpa using e
        obtain ⟨us, g1, g2⟩ := hL5
        refine ⟨_, rfl, .inl ⟨rfl, _, SqL.of g1⟩, .ref t, rfl, l, us, _, rfl, rfl, g1, small (by have := paired_len' g2; omega), ?_⟩
        have sx : Sx l (upd H4 t (.tup [.int (x % (2 * wd + 1) - wd), .int (x / (2 * wd + 1) % (2 * wd + 1) - wd)])) (upd (upd H4 t (.tup [.int (x % (2 * wd + 1) - wd), .int (x / (2 * wd + 1) % (2 * wd + 1) - wd)])) l (.lst (us ++ [.ref t]))) := Sx.upd _ _ _
        have tp := sx.tups g1
        refine ⟨some (.int (0 + (i : Int))), some (.ref t), x / (2 * wd + 1) ^ (2 : Int).toNat, xs ++ [p], rfl, sx.same sm5 nl0, ⟨_, upd_same, reps_keep tp (paired_snoc hp g2)⟩, ?_, by rw [List.length_append]; simp; omega⟩
        refine List.nodup_append.mpr ⟨hn, by simp, fun x hx y hy => ?_⟩
        have : y = p := by simpa using hy
        subst this
        rintro rfl
        exact e hx
      · exact ⟨some (.int (0 + (i : Int))), some (.ref t), x / (2 * wd + 1) ^ (2 : Int).toNat, xs, rfl, sm5, hL5, hn, by omega⟩
    · subst es
      exact ⟨_, rfl, q H4 l xs sm4 nl0 hL hn (by omega)⟩
end
end NW

/-! _law_twice, _law_triangle, _law_pick, _law_flipped, _law_shaken. -/
namespace NW
open PySem PySem.Spec PyProof.Rows L2 NK
abbrev sLTwice : Stmt := topS 34
abbrev sTriangle : Stmt := topS 35
abbrev sFlipped : Stmt := topS 39
abbrev sPick : Stmt := topS 40
abbrev sShaken : Stmt := topS 41
section
variable {P : Program} {w : World} {K : PySem.W.Frag} {mg : Str → Option Value} {base : Heap}
abbrev nLTwice : List Str := ["_law_a", "_law_b", "_law_c"]
theorem scLTwice : FnScope nLTwice nLTwice (defScope sLTwice) := ⟨rfl, rfl, rfl, by decide +kernel, rfl, by decide +kernel, by decide +kernel⟩
theorem ok_ltwice {f : Addr} {fd : FuncData} (F : Fun K "_law_twice" "_law_twice" sLTwice f fd) : FnOk P w K mg base CX0 1 f fd nLTwice spTwice := by
  refine F.ok scLTwice (fun vs H Q E h => ?_) (fun cdv A outer s H vs Q E hr h => ?_)
  · obtain ⟨va, vb, vc, a, b, c, rfl, _⟩ := h
    rfl
  · obtain ⟨va, vb, vc, a, b, c, rfl, ha, hb, hc, q⟩ := h
    have ba := ha.bd
    have bb := hb.bd
    have bc := hc.bd
    refine ⟨_, pss_one (ps_ret (pe_op op_sub
      (pe_op op_mulX (pe_op op_sub (pe_p0 (pv 1)) (pe_p0 (pv 0))) (pe_op op_sub (pe_p1 (pv 2)) (pe_p1 (pv 0))))
      (pe_op op_mulX (pe_op op_sub (pe_p1 (pv 1)) (pe_p1 (pv 0))) (pe_op op_sub (pe_p0 (pv 2)) (pe_p0 (pv 0)))))), ?_⟩
    refine ⟨_, rfl, b, hb, _, rfl, a, ha, _, _, rfl, rfl, _, rfl, c, hc, _, rfl, a, ha, _, _, rfl, rfl, _, _, rfl, rfl, mul_x (bd_sub bb ba).1 (bd_sub bc ba).2 (by decide), ?_⟩
    refine ⟨_, rfl, b, hb, _, rfl, a, ha, _, _, rfl, rfl, _, rfl, c, hc, _, rfl, a, ha, _, _, rfl, rfl, _, _, rfl, rfl, mul_x (bd_sub bb ba).2 (bd_sub bc ba).1 (by decide), _, _, rfl, rfl, q⟩
abbrev nTriangle : List Str := ["_law_a", "_law_b", "_law_c", "_law_some"]
theorem scTriangle : FnScope nTriangle nLTwice (defScope sTriangle) := ⟨rfl, rfl, rfl, by decide +kernel, rfl, by decide +kernel, by decide +kernel⟩
def spTriangle : Sp := fun vs H Q _ => ∃ (va vb vc : V) (a b c : Pl), vs = [va, vb, vc] ∧ PlV H va a ∧ PlV H vb b ∧ PlV H vc c ∧ ∀ H' v, Same H H' → TrV H' v (tri3 a b c) → Q v H'
theorem ok_triangle {f : Addr} {fd : FuncData} (F : Fun K "_law_triangle" "_law_triangle" sTriangle f fd) (c2 : Cal P w K mg base 1 "_law_twice" nLTwice spTwice) (ms : mg "sorted" = none) (mt : mg "tuple" = none) : FnOk P w K mg base CX0 2 f fd nLTwice spTriangle := by
  refine F.ok scTriangle (fun vs H Q E h => ?_) (fun cdv A outer s H vs Q E hr h => ?_)
  · obtain ⟨va, vb, vc, a, b, c, rfl, _⟩ := h
    rfl
  · obtain ⟨va, vb, vc, a, b, c, rfl, ha, hb, hc, q⟩ := h
    have nd := scTriangle.nd
    refine ⟨_, pss_cons (ps_set (i := 3) nd rfl (.inl rfl) (pe_callB (cr_sortE ePl hr.units) (by rfl) ms (by decide +kernel) (pa_cons (pe_lst (pa_cons (pv 0) (pa_cons (pv 1) (pa_cons (pv 2) pa_nil)))) pa_nil)))
      (pss_cons (ps_if (pt_cmpR op_gt (pe_call c2.ok hr (by rfl) c2.g c2.kp c2.b .nil pass0 (pa_cons (pe_ix ix_list (pv 3) pe_int (fun _ _ => rfl)) (pa_cons (pe_ix ix_list (pv 3) pe_int (fun _ _ => rfl)) (pa_cons (pe_ix ix_list (pv 3) pe_int (fun _ _ => rfl)) pa_nil)))) pe_int (nomark _))
        (pss_one (ps_ret (pe_callTy call_tuple_of (by rfl) mt (by decide +kernel) (pa_cons (pv 3) pa_nil)))) pss_nil)
      (pss_one (ps_ret (pe_tup (pa_cons (pe_ix ix_list (pv 3) pe_int (fun _ _ => rfl)) (pa_cons (pe_ix ix_list (pv 3) pe_int (fun _ _ => rfl)) (pa_cons (pe_ix ix_list (pv 3) pe_int (fun _ _ => rfl)) pa_nil))))))), ?_⟩
    refine ⟨_, rfl, _, rfl, _, rfl, by show 3 ≤ sizeLine; decide, fun l nl => ?_⟩
    have s1 := new_same (o := .lst [va, vb, vc]) nl
    refine ⟨l, [a, b, c], rfl, ⟨_, upd_same, .cons (ha.same s1) (.cons (hb.same s1) (.cons (hc.same s1) .nil))⟩, fun p us np hp => ?_⟩
    have s2 := new_same (o := .lst us) np
    rw [srt_ePl] at hp
    have hp2 : Paired (PlV (upd (upd H l (.lst [va, vb, vc])) p (.lst us))) us (srtP [a, b, c]) := paired_same (E := ePl) s2 hp
    have hl3 := srtP_len [a, b, c]
    have sA := s1.trans s2
    have hpp : (upd (upd H l (.lst [va, vb, vc])) p (.lst us)) p = some (.lst us) := upd_same
    generalize upd (upd H l (.lst [va, vb, vc])) p (.lst us) = H2 at hp2 sA hpp ⊢
    unfold tri3 at q
    match e : srtP [a, b, c], us, hp2, hl3 with
    | [x, y, z], [u1, u2, u3], .cons g1 (.cons g2 (.cons g3 .nil)), _ =>
      rw [e] at q
      simp only at q
      refine ⟨_, rfl, p, _, 0, u1, rfl, rfl, SqL.of hpp, atI_nat (j := 0) rfl, _, rfl, p, _, 1, u2, rfl, rfl, SqL.of hpp, atI_nat (j := 1) rfl, _, rfl, p, _, 2, u3, rfl, rfl, SqL.of hpp, atI_nat (j := 2) rfl, ?_⟩
      refine ⟨u1, u2, u3, x, y, z, rfl, g1, g2, g3, _, _, rfl, rfl, _, rfl, ite2 (fun k => ?_) (fun k => ?_)⟩
      · rw [if_pos (dT k)] at q
        exact ⟨_, rfl, p, _, rfl, .inl ⟨SqL.of hpp, fun t nt => q _ _ (sA.trans (new_same nt)) (tr_new nt g1 g2 g3)⟩⟩
      · rw [if_neg (dN k)] at q
        exact ⟨_, rfl, p, _, 0, u1, rfl, rfl, SqL.of hpp, atI_nat (j := 0) rfl, _, rfl, p, _, 2, u3, rfl, rfl, SqL.of hpp, atI_nat (j := 2) rfl, _, rfl, p, _, 1, u2, rfl, rfl, SqL.of hpp, atI_nat (j := 1) rfl, by show 3 ≤ sizeLine; decide, fun t nt => q _ _ (sA.trans (new_same nt)) (tr_new nt g1 g3 g2)⟩
/-! ### _law_pick -/
abbrev nPick : List Str := ["_law_cover", "_law_cell", "_law_t", "_law_k"]
theorem scPick : FnScope nPick ["_law_cover", "_law_cell"] (defScope sPick) := ⟨rfl, rfl, rfl, by decide +kernel, rfl, by decide +kernel, by decide +kernel⟩
def spPick : Sp := fun vs H Q _ => ∃ (a : Addr) (L : List Tri) (cell : Int), vs = [.ref a, .int cell] ∧ LsV eTr H a L ∧ L ≠ [] ∧ L.length ≤ 1000 ∧ ∀ H' T va vb p r, Same H H' → H' T = some (.tup [va, vb]) → PlV H' va p → PlV H' vb r → Q (.ref T) H'
theorem at3 {H : Hp} {u1 u2 u3 : V} {t : Tri} (h1 : PlV H u1 t.1) (h2 : PlV H u2 t.2.1) (h3 : PlV H u3 t.2.2) (k : Int) (k0 : 0 ≤ k) (k3 : k < 3) : (∃ v p, atI [u1, u2, u3] k = some v ∧ PlV H v p) ∧ ∃ v p, atI [u1, u2, u3] (k - 1) = some v ∧ PlV H v p := by
  have : k = 0 ∨ k = 1 ∨ k = 2 := by omega
  rcases this with rfl | rfl | rfl
  · exact ⟨⟨u1, _, rfl, h1⟩, u3, _, rfl, h3⟩
  · exact ⟨⟨u2, _, rfl, h2⟩, u1, _, rfl, h1⟩
  · exact ⟨⟨u3, _, rfl, h3⟩, u2, _, rfl, h2⟩
theorem ok_pick {f : Addr} {fd : FuncData} (F : Fun K "_law_pick" "_law_pick" sPick f fd) (ml : mg "len" = none) (mn' : mg "min" = none) (mx' : mg "max" = none) : FnOk P w K mg base CX0 1 f fd ["_law_cover", "_law_cell"] spPick := by
  refine F.ok scPick (fun vs H Q E h => ?_) (fun cdv A outer s H vs Q E hr h => ?_)
  · obtain ⟨a, L, cell, rfl, _⟩ := h
    rfl
  · obtain ⟨a, L, cell, rfl, ⟨us, ha, hp⟩, ne, hl, q⟩ := h
    have nd := scPick.nd
    refine ⟨_, pss_cons (ps_set (i := 2) nd rfl (.inl rfl) (pe_ix ix_list (pv 0) (pe_op op_modN (pv 1) (pe_callB call_len_seq (by rfl) ml PySem.boot_len (pa_cons (pv 0) pa_nil))) (fun _ _ => rfl)))
      (pss_cons (ps_set (i := 3) nd rfl (.inl rfl) (pe_op op_mod (pe_op op_fdivN (pv 1) (pe_callB call_len_seq (by rfl) ml PySem.boot_len (pa_cons (pv 0) pa_nil))) pe_int))
      (pss_one (ps_ret (pe_tup (pa_cons (pe_callB (cr_min2 rfl hr.units) (by rfl) mn' (by decide +kernel) (pa_cons (pe_ix ix_tup (pv 2) (pv 3) (fun _ _ => rfl)) (pa_cons (pe_ix ix_tup (pv 2) (pe_op op_sub (pv 3) pe_int) (fun _ _ => rfl)) pa_nil)))
        (pa_cons (pe_callB (cr_max2 rfl hr.units) (by rfl) mx' (by decide +kernel) (pa_cons (pe_ix ix_tup (pv 2) (pv 3) (fun _ _ => rfl)) (pa_cons (pe_ix ix_tup (pv 2) (pe_op op_sub (pv 3) pe_int) (fun _ _ => rfl)) pa_nil))) pa_nil)))))), ?_⟩
    have hlen := paired_len' hp
    have lp : 0 < L.length := List.length_pos_iff.mpr ne
    have nz : (us.length : Int) ≠ 0 := by omega
    have m0 : 0 ≤ cell.fmod (us.length : Int) := Int.fmod_nonneg_of_pos cell (by omega)
    have m1 : cell.fmod (us.length : Int) < us.length := Int.fmod_lt_of_pos cell (by omega)
    obtain ⟨j, hj⟩ : ∃ j : Nat, cell.fmod (us.length : Int) = j := ⟨(cell.fmod (us.length : Int)).toNat, by omega⟩
    obtain ⟨u, hu⟩ : ∃ u, us[j]? = some u := ⟨us[j]'(by omega), List.getElem?_eq_getElem (by omega)⟩
    obtain ⟨t, _, T, u1, u2, u3, rfl, hT, h1, h2, h3⟩ := reps_get hp hu
    refine ⟨_, rfl, _, rfl, _, rfl, a, us, rfl, .inl (SqL.of ha), _, _, rfl, rfl, nz, a, us, _, .ref T, rfl, rfl, SqL.of ha, (by rw [hj]; exact atI_nat hu), ?_⟩
    refine ⟨_, rfl, _, rfl, a, us, rfl, .inl (SqL.of ha), _, _, rfl, rfl, ⟨nz, by omega⟩, _, _, rfl, rfl, (by show (0 : Int) < 3; decide), ?_⟩
    obtain ⟨⟨v, p, e1, r1⟩, v', p', e2, r2⟩ := at3 h1 h2 h3 (cell.fdiv (us.length : Int) % 3) (Int.emod_nonneg _ (by decide)) (Int.emod_lt_of_pos _ (by decide))
    refine ⟨_, rfl, _, rfl, T, _, _, v, rfl, rfl, SqT.of hT, e1, _, rfl, _, rfl, _, _, rfl, rfl, T, _, _, v', rfl, rfl, SqT.of hT, e2, v, v', p, p', rfl, r1, r2, fun z _ hz => ?_⟩
    refine ⟨_, rfl, _, rfl, T, _, _, v, rfl, rfl, SqT.of hT, e1, _, rfl, _, rfl, _, _, rfl, rfl, T, _, _, v', rfl, rfl, SqT.of hT, e2, v, v', p, p', rfl, r1, r2, fun z2 _ hz2 => ?_⟩
    refine ⟨by show 2 ≤ sizeLine; decide, fun T2 n2 => q _ T2 z z2 _ _ (new_same n2) upd_same (hz.same (new_same n2)) (hz2.same (new_same n2))⟩
end
end NW

/-! _law_flipped, _law_shaken. -/
namespace NW
open PySem PySem.Spec PyProof.Rows L2 NK
theorem tr_cors {H : Hp} {v : V} {t : Tri} (h : TrV H v t) : ∃ T us, v = .ref T ∧ H T = some (.tup us) ∧ Paired (PlV H) us (cors t) ∧ us.length = 3 := by
  obtain ⟨T, u1, u2, u3, rfl, hT, h1, h2, h3⟩ := h
  exact ⟨T, _, rfl, hT, .cons h1 (.cons h2 (.cons h3 .nil)), rfl⟩
theorem dEq {p q : Prop} {i : Decidable p} {j : Decidable q} (h : p ↔ q) : @decide p i = @decide q j := by
  by_cases k : p
  · rw [dY k, dY (h.mp k)]
  · rw [decide_eq_false k, decide_eq_false (fun z => k (h.mpr z))]
theorem dNot {p q : Prop} {i : Decidable p} {j : Decidable q} (h : p ↔ ¬ q) : (!@decide p i) = @decide q j := by
  by_cases k : p
  · rw [dY k, decide_eq_false (h.mp k)]; rfl
  · rw [decide_eq_false k, decide_eq_true (Classical.byContradiction fun z => k (h.mpr z))]; rfl
section
variable {P : Program} {w : World} {K : PySem.W.Frag} {mg : Str → Option Value} {base : Heap}
abbrev nFlipped : List Str := ["_law_cover", "_law_a", "_law_b", "_law_both", "_law_c", "_law_d", "_law_left", "_law_t", "_law_p"]
theorem scFlipped : FnScope nFlipped ["_law_cover", "_law_a", "_law_b"] (defScope sFlipped) := ⟨rfl, rfl, rfl, by decide +kernel, rfl, by decide +kernel, by decide +kernel⟩
def spFlipped : Sp := fun vs H Q _ => ∃ (a : Addr) (u v : V) (L : List Tri) (p q : Pl) (R : List Pl), vs = [.ref a, u, v] ∧ LsV eTr H a L ∧ PlV H u p ∧ PlV H v q ∧ CovL R L ∧ L.length ≤ 300 ∧ (∀ H', Same H H' → Q .non H') ∧
  ∀ H' l M, Same H H' → LsV eTr H' l M → CovL R M → Q (.ref l) H'
theorem ok_flipped {f : Addr} {fd : FuncData} (F : Fun K "_law_flipped" "_law_flipped" sFlipped f fd) (c2 : Cal P w K mg base 1 "_law_twice" nLTwice spTwice) (cT : Cal P w K mg base 2 "_law_triangle" nLTwice spTriangle) (ms : mg "sorted" = none) (ml : mg "len" = none) : FnOk P w K mg base CX0 3 f fd ["_law_cover", "_law_a", "_law_b"] spFlipped := by
  refine F.ok scFlipped (fun vs H Q E h => ?_) (fun cdv A outer s H vs Q E hr h => ?_)
  · obtain ⟨a, u, v, L, p, q, R, rfl, _⟩ := h
    rfl
  · obtain ⟨a, va, vb, L, p, r, R, rfl, ⟨us, ha, hp⟩, hva, hvb, C, hl, qn, q⟩ := h
    have nd := scFlipped.nd
    have r1 := hr.mono (show 1 ≤ 2 by decide)
    refine ⟨_, pss_cons (ps_set (i := 3) nd rfl (.inr rfl) (pe_lc (own := [("_law_t", 7)]) (g := gName 7) (by rfl) nd (pi_list (pv 0)) (blkOk_by (N := nFlipped) (sc := defScope sFlipped) (by decide +kernel)) (fun _ _ _ _ _ => pg_name (i := 7) nd rfl (Or.inl rfl))
            (fun _ _ _ _ _ => pts_one (PW.pt (pw_and (pt_cmpR (op_inT ePl hr.units) (pv 1) (pv 7) (by rfl)) (pw_and1 (pt_cmpR (op_inT ePl hr.units) (pv 2) (pv 7) (by rfl)))))) (fun _ _ _ _ _ => pv 7)))
      (pss_cons (ps_if (PW.pt (pw_or (pt_cmpR (op_eqE ePl hr.units) (pv 1) (pv 2) (nomark _)) (pw_or1 (pt_cmpR op_ne (pe_callB call_len_seq (by rfl) ml PySem.boot_len (pa_cons (pv 3) pa_nil)) pe_int (nomark _)))))
        (pss_one (ps_ret pe_non)) pss_nil)
      (pss_cons (ps_set (i := 4) nd rfl (.inl rfl) (pe_ix ix_list (pe_lc (own := [("_law_p", 8)]) (g := gName 8) (by rfl) nd (pi_tup (pe_ix ix_list (pv 3) pe_int (fun _ _ => rfl))) (blkOk_by (N := nFlipped) (sc := defScope sFlipped) (by decide +kernel)) (fun _ _ _ _ _ => pg_name (i := 8) nd rfl (Or.inl rfl))
            (fun _ _ _ _ _ => pts_one (PW.pt (pw_and (pt_cmpR (op_neE ePl hr.units) (pv 8) (pv 1) (nomark _)) (pw_and1 (pt_cmpR (op_neE ePl hr.units) (pv 8) (pv 2) (nomark _)))))) (fun _ _ _ _ _ => pv 8)) pe_int (fun _ _ => rfl)))
      (pss_cons (ps_set (i := 5) nd rfl (.inl rfl) (pe_ix ix_list (pe_lc (own := [("_law_p", 8)]) (g := gName 8) (by rfl) nd (pi_tup (pe_ix ix_list (pv 3) pe_int (fun _ _ => rfl))) (blkOk_by (N := nFlipped) (sc := defScope sFlipped) (by decide +kernel)) (fun _ _ _ _ _ => pg_name (i := 8) nd rfl (Or.inl rfl))
            (fun _ _ _ _ _ => pts_one (PW.pt (pw_and (pt_cmpR (op_neE ePl hr.units) (pv 8) (pv 1) (nomark _)) (pw_and1 (pt_cmpR (op_neE ePl hr.units) (pv 8) (pv 2) (nomark _)))))) (fun _ _ _ _ _ => pv 8)) pe_int (fun _ _ => rfl)))
      (pss_cons (ps_if (pt_cmpR op_ge (pe_op op_mulX (pe_call c2.ok r1 (by rfl) c2.g c2.kp c2.b .nil pass0 (pa_cons (pv 4) (pa_cons (pv 5) (pa_cons (pv 1) pa_nil)))) (pe_call c2.ok r1 (by rfl) c2.g c2.kp c2.b .nil pass0 (pa_cons (pv 4) (pa_cons (pv 5) (pa_cons (pv 2) pa_nil))))) pe_int (nomark _))
        (pss_one (ps_ret pe_non)) pss_nil)
      (pss_cons (ps_setLc (i := 6) (own := [("_law_t", 7)]) (g := gName 7) (by rfl) nd rfl rfl (sw_true rfl rfl rfl (by decide +kernel)) (pi_list (pv 0)) (blkOk_by (N := nFlipped) (sc := defScope sFlipped) (by decide +kernel)) (fun _ _ _ _ _ => pg_name (i := 7) nd rfl (Or.inl rfl))
            (fun _ _ _ _ _ => pts_one (pt_cmpR (op_notInL eTr (Room.units65 hr)) (pv 7) (pv 3) (by rfl))) (fun _ _ _ _ _ => pv 7))
      (pss_one (ps_ret (pe_callB (cr_sortE eTr hr.units) (by rfl) ms (by decide +kernel) (pa_cons (pe_op op_cat (pv 6) (pe_lst
          (pa_cons (pe_call cT.ok hr (by rfl) cT.g cT.kp cT.b .nil pass0 (pa_cons (pv 1) (pa_cons (pv 4) (pa_cons (pv 5) pa_nil))))
          (pa_cons (pe_call cT.ok hr (by rfl) cT.g cT.kp cT.b .nil pass0 (pa_cons (pv 2) (pa_cons (pv 4) (pa_cons (pv 5) pa_nil)))) pa_nil)))) pa_nil))))))))), ?_⟩
    have hlen := paired_len' hp
    -- both
    refine ⟨_, rfl, a, rfl, ⟨_, SqL.of ha⟩, fun D nD => ?_⟩
    refine lcF_list (j := 7) (E := eTr) (xs := L) (fun t => decide (p ∈ cors t) && decide (r ∈ cors t)) (SqL.of ha) hp nD (by omega) ?_ (fun t u H2 Rr _ sm hu k => ?_) (fun H2 ws sm hw hpw => ?_)
    · exact (by decide : 7 < 9)
    · obtain ⟨T, ts, rfl, hT, hts, _⟩ := tr_cors hu
      refine ⟨_, rfl, _, rfl, p, T, ts, cors t, hva.same sm, rfl, hT, hts, _, rfl, ite2 (fun e => ?_) (fun e => ?_)⟩
      · refine ⟨_, rfl, _, rfl, r, T, ts, cors t, hvb.same sm, rfl, hT, hts, _, rfl, ?_⟩
        have := k H2 (Same.refl H2)
        rw [dY (dT e), Bool.true_and] at this
        rw [dE]
        exact this
      · have := k H2 (Same.refl H2)
        rw [decide_eq_false (dN e), Bool.false_and] at this
        exact this
    change Paired (eTr.rep H2) ws (bothL L p r) at hpw
    have hlb := paired_len' hpw
    have hva2 := hva.same sm
    have hvb2 := hvb.same sm
    have ha2 := sm _ _ ha
    -- a == b or len != 2
    refine ⟨_, rfl, _, rfl, p, r, hva2, hvb2, _, rfl, ite2 (fun e => qn _ sm) (fun e => ?_)⟩
    have ne : p ≠ r := dN e
    refine ⟨_, rfl, D, ws, rfl, .inl (SqL.of hw), rfl, _, rfl, ite2 (fun e => qn _ sm) (fun e => ?_)⟩
    have e2 : ws.length = 2 := by
      have e : (ws.length : Int) = 2 := V.int.inj (by simpa using e)
      omega
    have nst : (bothL L p r).length = 2 := by omega
    match eB : bothL L p r, ws, hpw, nst with
    | [s, t], [w0, w1], .cons hs (.cons ht .nil), _ =>
      have inB : ∀ x, x ∈ bothL L p r → x ∈ L ∧ p ∈ cors x ∧ r ∈ cors x := fun x hx => by
        unfold bothL at hx
        have := List.mem_filter.mp hx
        simpa using this
      obtain ⟨sL, ps, rs⟩ := inB s (by rw [eB]; simp)
      obtain ⟨tL, pt, rt⟩ := inB t (by rw [eB]; simp)
      obtain ⟨c, ec, _⟩ := others_one (C.cors_nd sL) ne ps rs
      obtain ⟨d, ed, _⟩ := others_one (C.cors_nd tL) ne pt rt
      -- c
      obtain ⟨T0, ts0, rfl, hT0, hts0, l0⟩ := tr_cors hs
      obtain ⟨T1, ts1, rfl, hT1, hts1, l1⟩ := tr_cors ht
      have test : ∀ (z : Pl) (u v : V) (H3 : Hp) (Rr : Bool → Hp → Prop), PlV H3 u z → PlV H3 va p → PlV H3 vb r → (∀ H', Same H3 H' → Rr (decide (z ≠ p) && decide (z ≠ r)) H') →
          ((!decide (z = p)) = true → Rr (!decide (z = r)) H3) ∧ ((!decide (z = p)) = false → Rr false H3) := fun z u v H3 Rr _ _ _ k => by
        have := k H3 (Same.refl H3)
        constructor
        · intro e
          have e : z ≠ p := by simpa using e
          rw [decide_eq_true e, Bool.true_and] at this
          have e3 : (!decide (z = r)) = decide (z ≠ r) := by simp
          rw [e3]; exact this
        · intro e
          have e : z = p := by simpa using e
          rw [decide_eq_false (fun k => k e), Bool.false_and] at this
          exact this
      refine ⟨_, rfl, D, _, 0, .ref T0, rfl, rfl, SqL.of hw, atI_nat (j := 0) rfl, T0, rfl, ⟨_, SqT.of hT0⟩, fun D2 nD2 => ?_⟩
      refine lcF_tup (j := 8) (E := ePl) (xs := cors s) (fun z => decide (z ≠ p) && decide (z ≠ r)) (SqT.of hT0) hts0 nD2 (by omega) ?_ (fun z u H3 Rr _ sm3 hu k => ?_) (fun H3 ws3 sm3 hw3 hp3 => ?_)
      · exact (by decide : 8 < 9)
      · obtain ⟨k1, k2⟩ := test z u u H3 Rr hu (hva2.same sm3) (hvb2.same sm3) k
        exact ⟨_, rfl, _, rfl, z, p, hu, hva2.same sm3, _, rfl, ite2 (fun e => ⟨_, rfl, _, rfl, z, r, hu, hvb2.same sm3, _, rfl, k1 e⟩) (fun e => k2 (by simpa using e))⟩
      change Paired (ePl.rep H3) ws3 (othersL s p r) at hp3
      rw [ec] at hp3
      match ws3, hp3 with
      | [vc], .cons hvc .nil =>
      refine ⟨D2, _, 0, vc, rfl, rfl, SqL.of hw3, atI_nat (j := 0) rfl, ?_⟩
      have hw3' := sm3 _ _ hw
      have hT1' := sm3 _ _ hT1
      have hts1' := paired_same (E := ePl) sm3 hts1
      have hva3 := hva2.same sm3
      have hvb3 := hvb2.same sm3
      -- d
      refine ⟨_, rfl, D, _, 1, .ref T1, rfl, rfl, SqL.of hw3', atI_nat (j := 1) rfl, T1, rfl, ⟨_, SqT.of hT1'⟩, fun D3 nD3 => ?_⟩
      refine lcF_tup (j := 8) (E := ePl) (xs := cors t) (fun z => decide (z ≠ p) && decide (z ≠ r)) (SqT.of hT1') hts1' nD3 (by omega) ?_ (fun z u H4 Rr _ sm4 hu k => ?_) (fun H4 ws4 sm4 hw4 hp4 => ?_)
      · exact (by decide : 8 < 9)
      · obtain ⟨k1, k2⟩ := test z u u H4 Rr hu (hva3.same sm4) (hvb3.same sm4) k
        exact ⟨_, rfl, _, rfl, z, p, hu, hva3.same sm4, _, rfl, ite2 (fun e => ⟨_, rfl, _, rfl, z, r, hu, hvb3.same sm4, _, rfl, k1 e⟩) (fun e => k2 (by simpa using e))⟩
      change Paired (ePl.rep H4) ws4 (othersL t p r) at hp4
      rw [ed] at hp4
      match ws4, hp4 with
      | [vd], .cons hvd .nil =>
      refine ⟨D3, _, 0, vd, rfl, rfl, SqL.of hw4, atI_nat (j := 0) rfl, ?_⟩
      have s24 := sm3.trans sm4
      have s04 := sm.trans s24
      have hvc4 := hvc.same sm4
      have hva4 := hva2.same s24
      have hvb4 := hvb2.same s24
      have ha4 := s24 _ _ ha2
      have hw4' := s24 _ _ hw
      have hB4 : Paired (eTr.rep H4) [.ref T0, .ref T1] [s, t] := .cons (TrV.keep hs (Same.tups s24)) (.cons (TrV.keep ht (Same.tups s24)) .nil)
      refine ⟨_, rfl, _, rfl, _, rfl, vc, vd, va, c, d, p, rfl, hvc4, hvd, hva4, _, rfl, _, rfl, _, rfl, vc, vd, vb, c, d, r, rfl, hvc4, hvd, hvb4, _, _, rfl, rfl, mul_x (tw_bd hvc4.bd hvd.bd hva4.bd) (tw_bd hvc4.bd hvd.bd hvb4.bd) (by decide), _, _, rfl, rfl, _, rfl, ite2 (fun e => qn _ s04) (fun e => ?_)⟩
      have neg : tw c d p * tw c d r < 0 := by have := dN e; omega
      have FC := flipped_cov C ne eB (by rw [ec]; rfl) (by rw [ed]; rfl) neg
      -- left
      refine ⟨_, rfl, a, rfl, ⟨_, SqL.of ha4⟩, fun D4 nD4 => ?_⟩
      have hp4L := paired_same (E := eTr) s04 hp
      refine lcF_list (j := 7) (E := eTr) (xs := L) (fun x => decide (x ∉ bothL L p r)) (SqL.of ha4) hp4L nD4 (by omega) ?_ (fun x u H5 Rr _ sm5 hu k => ?_) (fun H5 ws5 sm5 hw5 hp5 => ?_)
      · exact (by decide : 7 < 9)
      · refine ⟨_, rfl, _, rfl, x, D, [s, t], hu, rfl, ⟨_, sm5 _ _ hw4', paired_same (E := eTr) sm5 hB4⟩, _, rfl, ?_⟩
        have := k H5 (Same.refl H5)
        rw [dNot (q := x ∉ bothL L p r) (by rw [eB]; exact ⟨fun z k => k z, fun k => Classical.byContradiction k⟩)]
        exact this
      change Paired (eTr.rep H5) ws5 (leftL L (bothL L p r)) at hp5
      have hvc5 := hvc4.same sm5
      have hvd5 := hvd.same sm5
      have hva5 := hva4.same sm5
      have hvb5 := hvb4.same sm5
      have s05 := s04.trans sm5
      refine ⟨_, rfl, _, rfl, _, rfl, _, rfl, va, vc, vd, p, c, d, rfl, hva5, hvc5, hvd5, fun H6 x1 s6 h6 => ?_⟩
      refine ⟨_, rfl, _, rfl, _, rfl, vb, vc, vd, r, c, d, rfl, hvb5.same s6, hvc5.same s6, hvd5.same s6, fun H7 x2 s7 h7 => ⟨by show 2 ≤ sizeLine; decide, fun l nl => ?_⟩⟩
      have s8 := new_same (o := .lst [x1, x2]) nl
      have s58 := (s6.trans s7).trans s8
      refine ⟨D4, l, _, _, rfl, rfl, s58 _ _ hw5, upd_same, ?_, fun l2 nl2 => ?_⟩
      · have h1 := paired_len' hp5
        have h2 : (leftL L (bothL L p r)).length ≤ L.length := List.length_filter_le _ _
        exact small' (by simp only [List.length_cons, List.length_nil]; omega)
      have s9 := new_same (o := .lst (ws5 ++ [x1, x2])) nl2
      refine ⟨l2, leftL L (bothL L p r) ++ [tri3 p c d, tri3 r c d], rfl, ⟨_, upd_same, paired_same (E := eTr) s9 (paired_app (.cons (TrV.keep h6 (Same.tups (s7.trans s8))) (.cons (TrV.keep h7 (Same.tups s8)) .nil)) (paired_same (E := eTr) s58 hp5))⟩, fun z wz nz hz => ?_⟩
      have s10 := new_same (o := .lst wz) nz
      refine q _ z _ (((s05.trans s58).trans s9).trans s10) ⟨wz, upd_same, paired_same s10 hz⟩ ?_
      rw [srt_eTr]
      exact FC
end
end NW

/-! _law_shaken, _law_in_line. -/
namespace NW
open PySem PySem.Spec PyProof.Rows L2 NK
abbrev sInLine : Stmt := topS 43
section
variable {P : Program} {w : World} {K : PySem.W.Frag} {mg : Str → Option Value} {base : Heap}
abbrev nShaken : List Str := ["_law_cover", "_law_cells", "_law_cell", "_law_a", "_law_b", "_law_other"]
theorem scShaken : FnScope nShaken ["_law_cover", "_law_cells"] (defScope sShaken) := ⟨rfl, rfl, rfl, by decide +kernel, rfl, by decide +kernel, by decide +kernel⟩
theorem covL_few {R : List Pl} {L : List Tri} (C : CovL R L) (hR : R.length ≤ 16) : L.length ≤ 300 := by
  have h1 := C.sides_few
  have h2 := sides_len L
  have h3 : R.length * R.length ≤ 16 * 16 := Nat.mul_le_mul hR hR
  omega
def spShaken (K : PySem.W.Frag) : Sp := fun vs H Q _ => ∃ (a c : Addr) (L : List Tri) (ns : List Int) (R : List Pl), vs = [.ref a, .ref c] ∧ LsV eTr H a L ∧ CovL R L ∧ R.length ≤ 16 ∧ SqL K H c (ns.map V.int) ∧
  ∀ H' l M, Same H H' → LsV eTr H' l M → CovL R M → Q (.ref l) H'
theorem ok_shaken {f : Addr} {fd : FuncData} (F : Fun K "_law_shaken" "_law_shaken" sShaken f fd) (cP : Cal P w K mg base 1 "_law_pick" ["_law_cover", "_law_cell"] spPick) (cF : Cal P w K mg base 3 "_law_flipped" ["_law_cover", "_law_a", "_law_b"] spFlipped) : FnOk P w K mg base CX0 4 f fd ["_law_cover", "_law_cells"] (spShaken K) := by
  refine F.ok scShaken (fun vs H Q E h => ?_) (fun cdv A outer s H vs Q E hr h => ?_)
  · obtain ⟨a, c, L, ns, R, rfl, _⟩ := h
    rfl
  · obtain ⟨a, c, L, ns, R, rfl, hA, C, hR, hc, q⟩ := h
    have nd := scShaken.nd
    refine ⟨_, pss_cons (ps_for PassesOwn.never rfl (pi_list (pv 1)) (pg_name (i := 2) nd rfl (Or.inl rfl))
        (pss_one (ps_if (pt_cmpR (op_neL eTr hr.units) (pv 0) (pe_lst pa_nil) (nomark _))
          (pss_cons (ps_asg (pe_call cP.ok (hr.mono (show 1 ≤ 3 by decide)) (by rfl) cP.g cP.kp cP.b .nil pass0 (pa_cons (pv 0) (pa_cons (pv 2) pa_nil))) (pg_tup rfl (pgs_cons (pg_name (i := 3) nd rfl (.inl rfl)) (pgs_cons (pg_name (i := 4) nd rfl (.inl rfl)) pgs_nil))))
          (pss_cons (ps_set (i := 5) nd rfl (.inl rfl) (pe_call cF.ok hr (by rfl) cF.g cF.kp cF.b .nil pass0 (pa_cons (pv 0) (pa_cons (pv 3) (pa_cons (pv 4) pa_nil)))))
          (pss_one (ps_if (pt_cmpR op_notN (pv 5) pe_non (nomark _)) (pss_one (ps_set (i := 0) nd rfl (.inl rfl) (pv 5))) pss_nil))))
          pss_nil)))
      (pss_one (ps_ret (pv 0))), ?_⟩
    refine ⟨_, rfl, c, rfl, ⟨_, hc⟩, for_list (xs := ns.map V.int) (fun i σ H3 => ∃ (l : Addr) (M : List Tri) (y2 y3 y4 y5 : Option V), σ = [some (.ref l), some (.ref c), y2, y3, y4, y5] ∧ Same H H3 ∧ LsV eTr H3 l M ∧ CovL R M)
      ⟨a, L, none, none, none, none, rfl, Same.refl H, hA, C⟩ (fun i σ H3 _ ⟨_, _, _, _, _, _, _, sm, _⟩ => sm.seq hc) (fun i u σ H3 hu ⟨l, M, y2, y3, y4, y5, es, sm, hM, CM⟩ => ?_) (fun σ H3 ⟨l, M, y2, y3, y4, y5, es, sm, hM, CM⟩ => ?_)⟩
    · subst es
      obtain ⟨z, hz, rfl⟩ : ∃ z, z ∈ ns ∧ u = .int z := by
        obtain ⟨z, hz, e⟩ := List.mem_map.mp (List.mem_of_getElem? hu)
        exact ⟨z, hz, e.symm⟩
      refine ⟨_, rfl, Nat.zero_le _, fun e ne => ?_⟩
      have s1 := new_same (o := .lst []) ne
      have hM1 := hM.same s1
      refine ⟨l, e, M, [], rfl, rfl, hM1, ⟨[], upd_same, .nil⟩, _, rfl, ite2 (fun k => ?_) (fun k => ?_)⟩
      · have nM : M ≠ [] := fun z => by subst z; simp at k
        refine ⟨_, rfl, _, rfl, l, M, z, rfl, hM1, nM, by have := covL_few CM hR; omega, fun H4 T va vb p r s4 hT hva hvb => ?_⟩
        refine ⟨T, _, rfl, SqT.of hT, rfl, va, _, rfl, vb, [], rfl, rfl, ?_⟩
        have s34 := s1.trans s4
        refine ⟨_, rfl, _, rfl, _, rfl, l, va, vb, M, p, r, R, rfl, hM1.same s4, hva, hvb, CM, covL_few CM hR, fun H5 s5 => ?_, fun H5 l' M' s5 hM' CM' => ?_⟩
        · refine ⟨_, rfl, rfl, _, rfl, ite2 (fun k => ?_) (fun k => ?_)⟩
          · simp at k
          · exact ⟨l, M, _, _, _, _, rfl, (sm.trans s34).trans s5, (hM1.same s4).same s5, CM⟩
        · refine ⟨_, rfl, rfl, _, rfl, ite2 (fun k => ?_) (fun k => ?_)⟩
          · exact ⟨_, rfl, l', M', _, _, _, _, rfl, (sm.trans s34).trans s5, hM', CM'⟩
          · exact ⟨l, M, _, _, _, _, rfl, (sm.trans s34).trans s5, (hM1.same s4).same s5, CM⟩
      · exact ⟨l, M, _, _, _, _, rfl, sm.trans s1, hM1, CM⟩
    · subst es
      exact ⟨_, rfl, q H3 l M sm hM CM⟩
/-! ### _law_in_line -/
abbrev nInLine : List Str := ["_law_places_here", "_law_p"]
theorem scInLine : FnScope nInLine ["_law_places_here"] (defScope sInLine) := ⟨rfl, rfl, rfl, by decide +kernel, rfl, by decide +kernel, by decide +kernel⟩
def spInLine : Sp := fun vs H Q _ => ∃ (a : Addr) (R : List Pl), vs = [.ref a] ∧ LsV ePl H a R ∧ R.Nodup ∧ R.length ≤ 16 ∧ ∀ H' b, Same H H' → (b = true → Lin (· ∈ R)) → (b = false → ¬ Lin (· ∈ R)) → Q (.bl b) H'
theorem cutV_from (us : List V) (i : Nat) : cutV us (some (i : Int)) none = us.drop i := by
  unfold cutV
  have e : HT.sIx us.length us.length none = us.length := rfl
  rw [HT.sIx_nat, e]
  by_cases h : i ≤ us.length
  · rw [Nat.min_eq_left h, List.take_of_length_le (by rw [List.length_drop]; omega)]
  · rw [Nat.min_eq_right (by omega), List.drop_eq_nil_of_le (Nat.le_refl _), List.drop_eq_nil_of_le (by omega), List.take_nil]
theorem paired_dropN {α : Type} {F : V → α → Prop} : ∀ {us : List V} {xs : List α} (k : Nat), Paired F us xs → Paired F (us.drop k) (xs.drop k)
  | _, _, 0, h => h
  | _, _, k + 1, .nil => .nil
  | _, _, k + 1, .cons _ r => paired_dropN k r
theorem ok_in_line {f : Addr} {fd : FuncData} (F : Fun K "_law_in_line" "_law_in_line" sInLine f fd) (c2 : Cal P w K mg base 1 "_law_twice" nLTwice spTwice) : FnOk P w K mg base CX0 2 f fd ["_law_places_here"] spInLine := by
  refine F.ok scInLine (fun vs H Q E h => ?_) (fun cdv A outer s H vs Q E hr h => ?_)
  · obtain ⟨a, R, rfl, _⟩ := h
    rfl
  · obtain ⟨a, R, rfl, ⟨us, ha, hp⟩, hn, hR, q⟩ := h
    have nd := scInLine.nd
    refine ⟨_, pss_one (ps_ret (pe_cmpR (op_eqL ePl hr.units) (pe_lc (own := [("_law_p", 1)]) (g := gName 1) (by rfl) nd (pi_list (pe_slice sl_list (pv 0) (po_some pe_int) po_none)) (blkOk_by (N := nInLine) (sc := defScope sInLine) (by decide +kernel)) (fun _ _ _ _ _ => pg_name (i := 1) nd rfl (Or.inl rfl))
            (fun _ _ _ _ _ => pts_one (pt_cmpR op_ne (pe_call c2.ok hr (by rfl) c2.g c2.kp c2.b .nil pass0 (pa_cons (pe_ix (ixl (K := K) rfl) (pv 0) pe_int (fun _ _ => rfl)) (pa_cons (pe_ix (ixl (K := K) rfl) (pv 0) pe_int (fun _ _ => rfl)) (pa_cons (pv 1) pa_nil)))) pe_int (nomark _))) (fun _ _ _ _ _ => pv 1)) (pe_lst pa_nil) (nomark _))), ?_⟩
    have hlen := paired_len' hp
    refine ⟨_, rfl, _, rfl, a, us, rfl, SqL.of ha, fun c nc => ?_⟩
    rw [show (some (2 : Int)) = some ((2 : Nat) : Int) from rfl, cutV_from]
    have s1 := new_same (o := .lst (us.drop 2)) nc
    have hp1 := paired_same (E := ePl) s1 hp
    have ha1 := s1 _ _ ha
    refine ⟨c, rfl, ⟨_, SqL.of upd_same⟩, fun D nD => ?_⟩
    have hpc := paired_dropN 2 hp1
    have hcc : (upd H c (.lst (us.drop 2))) c = some (.lst (us.drop 2)) := upd_same
    generalize upd H c (.lst (us.drop 2)) = H1 at s1 hp1 ha1 hpc hcc nD ⊢
    refine lcF_list (j := 1) (E := ePl) (xs := R.drop 2) (fun p => !decide (tw (R.getD 0 (0, 0)) (R.getD 1 (0, 0)) p = 0)) (SqL.of hcc) hpc nD (by rw [List.length_drop]; omega) ?_ (fun p u H3 Rr hpR sm hu k => ?_) (fun H3 ws sm hw hpw => ?_)
    · exact (by decide : 1 < 2)
    · have h3 : 2 < R.length := by
        have := List.length_pos_of_mem hpR
        rw [List.length_drop] at this
        omega
      have hp3 := paired_same (E := ePl) sm hp1
      obtain ⟨u0, g0, f0⟩ := reps_get' hp3 (List.getElem?_eq_getElem (show 0 < R.length by omega))
      obtain ⟨u1, g1, f1⟩ := reps_get' hp3 (List.getElem?_eq_getElem (show 1 < R.length by omega))
      have e0 : R.getD 0 (0, 0) = R[0] := by rw [List.getD_eq_getElem?_getD, List.getElem?_eq_getElem (show 0 < R.length by omega)]; rfl
      have e1 : R.getD 1 (0, 0) = R[1] := by rw [List.getD_eq_getElem?_getD, List.getElem?_eq_getElem (show 1 < R.length by omega)]; rfl
      refine ⟨_, rfl, a, us, 0, u0, rfl, rfl, SqL.of (sm _ _ ha1), atI_nat (j := 0) g0, _, rfl, a, us, 1, u1, rfl, rfl, SqL.of (sm _ _ ha1), atI_nat (j := 1) g1, _, rfl, u0, u1, u, _, _, p, rfl, f0, f1, hu, rfl, _, rfl, ?_⟩
      have := k H3 (Same.refl H3)
      rw [e0, e1] at this
      have e : (!decide (V.int (tw R[0] R[1] p) = V.int 0)) = !decide (tw R[0] R[1] p = 0) := by
        congr 1
        exact dEq ⟨V.int.inj, fun h => by rw [h]⟩
      rw [e]
      exact this
    · refine ⟨Nat.zero_le _, fun e ne => ?_⟩
      have s4 := new_same (o := .lst []) ne
      refine ⟨D, e, (R.drop 2).filter fun p => !decide (tw (R.getD 0 (0, 0)) (R.getD 1 (0, 0)) p = 0), [], rfl, rfl, ⟨ws, s4 _ _ hw, paired_same (E := ePl) s4 hpw⟩, ⟨[], upd_same, .nil⟩, q _ _ ((s1.trans sm).trans s4) (fun z => ?_) (fun z => ?_)⟩
      · have z := NW.dT z
        match R, hn, z with
        | [], _, _ => exact lin_short (by simp)
        | [_], _, _ => exact lin_short (by simp)
        | x :: y :: r, hn, z =>
          refine in_line (by have := (List.nodup_cons.mp hn).1; intro k; exact this (by rw [k]; simp)) fun p hp => ?_
          by_cases k : tw x y p = 0
          · exact k
          · have := List.filter_eq_nil_iff.mp z p hp
            simp at this
            exact this
      · intro L
        have z : ¬ ((R.drop 2).filter fun p => !decide (tw (R.getD 0 (0, 0)) (R.getD 1 (0, 0)) p = 0)) = [] := by simpa using z
        refine z (List.filter_eq_nil_iff.mpr fun p hp => ?_)
        have h3 : 2 < R.length := by
          have := List.length_pos_of_mem hp
          rw [List.length_drop] at this
          omega
        have e0 : R.getD 0 (0, 0) = R[0] := by rw [List.getD_eq_getElem?_getD, List.getElem?_eq_getElem (show 0 < R.length by omega)]; rfl
        have e1 : R.getD 1 (0, 0) = R[1] := by rw [List.getD_eq_getElem?_getD, List.getElem?_eq_getElem (show 1 < R.length by omega)]; rfl
        rw [e0, e1, L _ _ _ (List.getElem_mem _) (List.getElem_mem _) (List.mem_of_mem_drop hp)]
        simp
end
end NW

/-! _law_int, _law_places_of, _law_rows. -/
namespace NW
open PySem PySem.Spec PyProof.Rows L2 NK
abbrev sInt : Stmt := topS 36
abbrev sPlacesOf : Stmt := topS 37
abbrev sRows : Stmt := topS 38
section
variable {X : Cx}
theorem op_isnot_ib : OpR X (compareOp .IsNot) (fun x y H Q => ∃ i b, x = .int i ∧ y = .bl b ∧ Q (.bl true) H) := by
  intro pins s σ H x y v u Q I rx ry h
  obtain ⟨i, b, rfl, rfl, q⟩ := h
  obtain ⟨t, rfl⟩ := rx
  obtain rfl : u = Value.bool b := ry
  exact wpAny_isNot_other rfl (fun z => nomatch z) ⟨.bl true, H, I, rfl, q⟩
end
section
variable {P : Program} {w : World} {K : PySem.W.Frag} {mg : Str → Option Value} {base : Heap}
abbrev nInt : List Str := ["_law_one"]
theorem scInt : FnScope nInt nInt (defScope sInt) := ⟨rfl, rfl, rfl, by decide +kernel, rfl, by decide +kernel, by decide +kernel⟩
def spInt : Sp := fun vs H Q _ => ∃ i : Int, vs = [.int i] ∧ Q (.bl true) H
theorem ok_int {f : Addr} {fd : FuncData} (F : Fun K "_law_int" "_law_int" sInt f fd) (mi : mg "isinstance" = none) (mt : mg "int" = none) : FnOk P w K mg base CX0 1 f fd nInt spInt := by
  refine F.ok scInt (fun vs H Q E h => ?_) (fun cdv A outer s H vs Q E hr h => ?_)
  · obtain ⟨i, rfl, _⟩ := h
    rfl
  · obtain ⟨i, rfl, q⟩ := h
    refine ⟨_, pss_one (ps_ret (pe_and (pe_callB call_isi (by rfl) mi (by decide +kernel) (pa_cons (pv 0) (pa_cons (pe_bltn (v := .ty "int") (by rfl) mt (by decide +kernel) rfl) pa_nil)))
      (pe_and (pe_cmpR op_isnot_ib (pv 0) pe_bl (nomark _)) (pe_one (pe_cmpR op_isnot_ib (pv 0) pe_bl (nomark _)))))), ?_⟩
    exact ⟨_, rfl, _, _, _, _, true, rfl, .ty "int", .base (.int i), kit_ty (by decide +kernel), true, rfl, iteT ⟨_, rfl, i, true, rfl, rfl, true, rfl, iteT ⟨_, rfl, i, false, rfl, rfl, q⟩⟩⟩
abbrev nPlacesOf : List Str := ["_law_found", "_law_many_here", "_law_p"]
theorem scPlacesOf : FnScope nPlacesOf ["_law_found", "_law_many_here"] (defScope sPlacesOf) := ⟨rfl, rfl, rfl, by decide +kernel, rfl, by decide +kernel, by decide +kernel⟩
def spPlacesOf : Sp := fun vs H Q _ => ∃ (v : V) (t : Tri), vs = [v, .int 3] ∧ TrV H v t ∧ Q (.bl true) H
theorem ok_places_of {f : Addr} {fd : FuncData} (F : Fun K "_law_places_of" "_law_places_of" sPlacesOf f fd) (cI : Cal P w K mg base 1 "_law_int" nInt spInt) (mi : mg "isinstance" = none) (mt : mg "tuple" = none) (ml : mg "len" = none) : FnOk P w K mg base CX0 2 f fd ["_law_found", "_law_many_here"] spPlacesOf := by
  refine F.ok scPlacesOf (fun vs H Q E h => ?_) (fun cdv A outer s H vs Q E hr h => ?_)
  · obtain ⟨v, t, rfl, _⟩ := h
    rfl
  · obtain ⟨v, t, rfl, ht, q⟩ := h
    have nd := scPlacesOf.nd
    refine ⟨_, pss_cons (ps_if (PW.pt (pw_or (pt_not (pt_val (pe_callB call_isi (by rfl) mi (by decide +kernel) (pa_cons (pv 0) (pa_cons (pe_bltn (v := .ty "tuple") (by rfl) mt (by decide +kernel) rfl) pa_nil)))))
          (pw_or1 (pt_cmpR op_ne (pe_callB call_len_seq (by rfl) ml PySem.boot_len (pa_cons (pv 0) pa_nil)) (pv 1) (nomark _))))) (pss_one (ps_ret pe_bl)) pss_nil)
      (pss_cons (ps_for PassesOwn.never rfl (pi_tup (pv 0)) (pg_name (i := 2) nd rfl (Or.inl rfl))
        (pss_one (ps_if (PW.pt (pw_or (pt_not (pt_val (pe_callB call_isi (by rfl) mi (by decide +kernel) (pa_cons (pv 2) (pa_cons (pe_bltn (v := .ty "tuple") (by rfl) mt (by decide +kernel) rfl) pa_nil)))))
          (pw_or (pt_cmpR op_ne (pe_callB call_len_seq (by rfl) ml PySem.boot_len (pa_cons (pv 2) pa_nil)) pe_int (nomark _))
          (pw_or (pt_not (pt_val (pe_call cI.ok hr (by rfl) cI.g cI.kp cI.b .nil pass0 (pa_cons (pe_p0 (pv 2)) pa_nil))))
          (pw_or1 (pt_not (pt_val (pe_call cI.ok hr (by rfl) cI.g cI.kp cI.b .nil pass0 (pa_cons (pe_p1 (pv 2)) pa_nil)))))))))
          (pss_one (ps_ret pe_bl)) pss_nil)))
      (pss_one (ps_ret pe_bl))), ?_⟩
    obtain ⟨T, us, rfl, hT, hp, hl⟩ := tr_cors ht
    refine ⟨_, rfl, _, _, _, _, true, rfl, .ty "tuple", .base (.tup hT), kit_ty (by decide +kernel), true, rfl, iteF ?_⟩
    refine ⟨_, rfl, T, us, rfl, .inr (SqT.of hT), _, rfl, rfl, _, rfl, ?_⟩
    rw [hl]
    refine iteF ?_
    refine ⟨_, rfl, T, rfl, ⟨_, SqT.of hT⟩, for_tup (xs := us) (fun i σ H3 => H3 = H ∧ ∃ y, σ = [some (.ref T), some (.int 3), y]) ⟨rfl, none, rfl⟩ (fun i σ H3 _ ⟨e, _⟩ => by rw [e]; exact SqT.of hT) (fun i u σ H3 hu ⟨eH, y, es⟩ => ?_) (fun σ H3 ⟨eH, y, es⟩ => ?_)⟩
    · subst es eH
      obtain ⟨p, _, T2, rfl, hT2, bp⟩ := reps_get hp hu
      have hpl : PlV H3 (.ref T2) p := ⟨T2, rfl, hT2, bp⟩
      refine ⟨_, rfl, _, _, _, _, true, rfl, .ty "tuple", .base (.tup hT2), kit_ty (by decide +kernel), true, rfl, iteF ?_⟩
      refine ⟨_, rfl, T2, _, rfl, .inr (SqT.of hT2), rfl, _, rfl, iteF ?_⟩
      exact ⟨_, rfl, p, hpl, p.1, rfl, true, rfl, iteF ⟨_, rfl, p, hpl, p.2, rfl, true, rfl, iteF ⟨rfl, _, rfl⟩⟩⟩
    · subst es eH
      exact q
abbrev nRows : List Str := ["_law_found", "_law_due", "_law_many_here", "_law_k"]
theorem scRows : FnScope nRows ["_law_found", "_law_due", "_law_many_here"] (defScope sRows) := ⟨rfl, rfl, rfl, by decide +kernel, rfl, by decide +kernel, by decide +kernel⟩
def spRows : Sp := fun vs H Q _ => ∃ (a b : Addr) (N : List Tri), vs = [.ref a, .ref b, .int 3] ∧ LsV eTr H a N ∧ LsV eTr H b N ∧ N.length ≤ 1000 ∧ Q (.bl true) H
theorem ok_rows {f : Addr} {fd : FuncData} (F : Fun K "_law_rows" "_law_rows" sRows f fd) (cP : Cal P w K mg base 2 "_law_places_of" ["_law_found", "_law_many_here"] spPlacesOf) (mi : mg "isinstance" = none) (mt : mg "list" = none) (ml : mg "len" = none) (mr : mg "range" = none) : FnOk P w K mg base CX0 3 f fd ["_law_found", "_law_due", "_law_many_here"] spRows := by
  refine F.ok scRows (fun vs H Q E h => ?_) (fun cdv A outer s H vs Q E hr h => ?_)
  · obtain ⟨a, b, N, rfl, _⟩ := h
    rfl
  · obtain ⟨a, b, N, rfl, ⟨us, ha, hp⟩, ⟨vs, hb, hq⟩, hl, q⟩ := h
    have nd := scRows.nd
    refine ⟨_, pss_cons (ps_if (PW.pt (pw_or (pt_not (pt_val (pe_callB call_isi (by rfl) mi (by decide +kernel) (pa_cons (pv 0) (pa_cons (pe_bltn (v := .ty "list") (by rfl) mt (by decide +kernel) rfl) pa_nil)))))
          (pw_or1 (pt_cmpR op_ne (pe_callB call_len_seq (by rfl) ml PySem.boot_len (pa_cons (pv 0) pa_nil)) (pe_callB call_len_seq (by rfl) ml PySem.boot_len (pa_cons (pv 1) pa_nil)) (nomark _))))) (pss_one (ps_ret pe_bl)) pss_nil)
      (pss_cons (ps_for PassesOwn.never rfl (pi_range1 (by rfl) mr (pa_cons (pe_callB call_len_seq (by rfl) ml PySem.boot_len (pa_cons (pv 1) pa_nil)) pa_nil)) (pg_name (i := 3) nd rfl (Or.inl rfl))
        (pss_one (ps_if (PW.pt (pw_or (pt_not (pt_val (pe_call cP.ok hr (by rfl) cP.g cP.kp cP.b .nil pass0 (pa_cons (pe_ix ix_list (pv 0) (pv 3) (fun _ _ => rfl)) (pa_cons (pv 2) pa_nil)))))
          (pw_or1 (pt_cmpR (op_neE eTr hr.units) (pe_ix ix_list (pv 0) (pv 3) (fun _ _ => rfl)) (pe_ix ix_list (pv 1) (pv 3) (fun _ _ => rfl)) (nomark _)))))
          (pss_one (ps_ret pe_bl)) pss_nil)))
      (pss_one (ps_ret pe_bl))), ?_⟩
    have l1 := paired_len' hp
    have l2 := paired_len' hq
    refine ⟨_, rfl, _, _, _, _, true, rfl, .ty "list", .base (.lst ha), kit_ty (by decide +kernel), true, rfl, iteF ?_⟩
    refine ⟨_, rfl, a, us, rfl, .inl (SqL.of ha), _, rfl, b, vs, rfl, .inl (SqL.of hb), rfl, _, rfl, ?_⟩
    have e : (!decide (V.int (us.length : Int) = V.int (vs.length : Int))) = false := by rw [l1, l2]; simp
    rw [e]
    refine iteF ?_
    refine ⟨_, rfl, b, vs, rfl, .inl (SqL.of hb), _, rfl, by omega, by omega, ?_⟩
    refine for_range (fun i σ H3 => H3 = H ∧ ∃ y, σ = [some (.ref a), some (.ref b), some (.int 3), y]) ⟨rfl, none, rfl⟩ (fun i σ H3 hi ⟨eH, y, es⟩ => ?_) (fun σ H3 ⟨eH, y, es⟩ => ?_)
    · subst es eH
      have hi : i < vs.length := by omega
      obtain ⟨v, hv⟩ : ∃ v, vs[i]? = some v := ⟨vs[i], List.getElem?_eq_getElem hi⟩
      obtain ⟨t, ht, rv⟩ := reps_get hq hv
      obtain ⟨u, hu, ru⟩ := reps_get' hp ht
      have au : atI us ((0 : Int) + (i : Int)) = some u := by rw [Int.zero_add]; exact atI_nat hu
      have av : atI vs ((0 : Int) + (i : Int)) = some v := by rw [Int.zero_add]; exact atI_nat hv
      refine ⟨_, rfl, _, rfl, a, us, _, u, rfl, rfl, SqL.of ha, au, _, rfl, u, t, rfl, ru, true, rfl, iteF ?_⟩
      refine ⟨_, rfl, _, rfl, a, us, _, u, rfl, rfl, SqL.of ha, au, _, rfl, _, rfl, b, vs, _, v, rfl, rfl, SqL.of hb, av, t, t, ru, rv, _, rfl, ?_⟩
      rw [dY rfl]
      exact iteF ⟨rfl, _, rfl⟩
    · subst es eH
      exact q
end
end NW

/-! _law_spoils, _law_clean. -/
namespace NW
open PySem PySem.Spec PyProof.Rows L2 NK
abbrev sLSpoils : Stmt := topS 42
abbrev sClean : Stmt := topS 45
/-! ### comprehensions that make one of each -/
section
variable {α β : Type} {F : Hp → V → α → Prop} {G : Hp → V → β → Prop} {K : PySem.W.Frag} {a : Addr} {us : List V} {xs : List α} {σ : L2.St} {H1 : Hp} {D : Addr} {Qd : Hp → Prop} {te : TE} {j : Nat}
def Made (G : Hp → V → β → Prop) (H1 : Hp) (D : Addr) (xs : List α) (f : α → β) (i : Nat) (H : Hp) : Prop := Same H1 H ∧ ∃ ws, H D = some (.lst ws) ∧ Paired (G H) ws ((xs.take i).map f) ∧ ws.length ≤ i
theorem rel_keep {G : Hp → V → β → Prop} (hG : ∀ H H' v y, G H v y → TupS H H' → G H' v y) {H H' : Hp} (t : TupS H H') : ∀ {us : List V} {ys : List β}, Paired (G H) us ys → Paired (G H') us ys
  | _, _, .nil => .nil
  | _, _, .cons h r => .cons (hG _ _ _ _ h t) (rel_keep hG t r)
theorem pget {F : V → α → Prop} : ∀ {us : List V} {xs : List α} {i : Nat} {u : V}, Paired F us xs → us[i]? = some u → ∃ x, xs[i]? = some x ∧ F u x
  | _, _, _, _, .nil, e => by simp at e
  | _, _, 0, _, .cons h _, e => by simp at e; subst e; exact ⟨_, rfl, h⟩
  | _, _, i + 1, u, .cons _ r, e => by
    obtain ⟨x, h1, h2⟩ := pget (i := i) (u := u) r (by simpa using e)
    exact ⟨x, by simpa using h1, h2⟩
theorem plen {F : V → α → Prop} : ∀ {us : List V} {xs : List α}, Paired F us xs → us.length = xs.length
  | _, _, .nil => rfl
  | _, _, .cons _ r => by rw [List.length_cons, List.length_cons, plen r]
theorem psnoc {F : V → α → Prop} {u : V} {x : α} (h : F u x) : ∀ {us : List V} {xs : List α}, Paired F us xs → Paired F (us ++ [u]) (xs ++ [x])
  | _, _, .nil => .cons h .nil
  | _, _, .cons k r => .cons k (psnoc h r)
theorem made_step {f : α → β} (hG : ∀ H H' v y, G H v y → TupS H H' → G H' v y) (hF : ∀ H H' v y, F H v y → TupS H H' → F H' v y) (hP : Paired (F H1) us xs) (hD : H1 D = none) (hl : us.length ≤ 1000)
    (turn : ∀ x u H (Rr : VK), x ∈ xs → Same H1 H → F H u x → (∀ H' y, Same H H' → G H' y (f x) → Rr y H') → te ((wipe σ [j]).set j (some u)) H Rr) {i : Nat} {u : V} {H : Hp} (hu : us[i]? = some u) (I : Made G H1 D xs f i H) :
    gName j u (wipe σ [j]) H fun σ2 H2 => wipe σ2 [j] = wipe σ [j] ∧ tYes σ2 H2 fun b H3 => if b = true then te σ2 H3 fun y H4 => ∃ acc, H4 D = some (.lst acc) ∧ acc.length < sizeLine ∧ Made G H1 D xs f (i + 1) (upd H4 D (.lst (acc ++ [y]))) else Made G H1 D xs f (i + 1) H3 := by
  obtain ⟨sm, ws, hw, hp, lw⟩ := I
  obtain ⟨x, hx, r⟩ := pget hP hu
  have hi : i < us.length := (List.getElem?_eq_some_iff.mp hu).1
  have tk : xs.take (i + 1) = xs.take i ++ [x] := by rw [List.take_add_one, hx]; rfl
  refine ⟨wipe_set _ _ _, ?_⟩
  show te _ H _
  refine turn x u H _ (List.mem_of_getElem? hx) sm (hF _ _ _ _ r (Same.tups sm)) fun H' y s' hy => ?_
  have hw' := s' _ _ hw
  have tp : TupS H' (upd H' D (.lst (ws ++ [y]))) := upd_tups hw' fun _ z => nomatch z
  refine ⟨ws, hw', small (by omega), same_at (sm.trans s') hD, _, upd_same, ?_, by rw [List.length_append]; simp; omega⟩
  rw [tk, List.map_append]
  exact psnoc (hG _ _ _ _ hy tp) (rel_keep hG tp (rel_keep hG (Same.tups s') hp))
theorem lcM_tup (f : α → β) (hG : ∀ H H' v y, G H v y → TupS H H' → G H' v y) (hF : ∀ H H' v y, F H v y → TupS H H' → F H' v y) (hS : SqT K H1 a us) (hP : Paired (F H1) us xs) (hD : H1 D = none) (hl : us.length ≤ 1000)
    (turn : ∀ x u H (Rr : VK), x ∈ xs → Same H1 H → F H u x → (∀ H' y, Same H H' → G H' y (f x) → Rr y H') → te ((wipe σ [j]).set j (some u)) H Rr)
    (fin : ∀ H' ws, Same H1 H' → H' D = some (.lst ws) → Paired (G H') ws (xs.map f) → Qd H') :
    ∃ W : Nat → Nat → Hp → Prop, (∃ m, W 0 m (upd H1 D (.lst []))) ∧ ∀ (i m : Nat) (H : Hp), W i m H → (Itt K a).stop i H ∧ Qd H ∨ (Itt K a).go i H ∧ ∃ Nx : Hp → Prop, (∀ H', Nx H' → ∃ m', m' < m ∧ W (i + 1) m' H') ∧ ∀ (x : V) (H' : Hp), (Itt K a).yld i H x H' →
      gName j x (wipe σ [j]) H' fun σ2 H2 => wipe σ2 [j] = wipe σ [j] ∧ tYes σ2 H2 fun b H3 => if b = true then te σ2 H3 fun y H4 => ∃ acc, H4 D = some (.lst acc) ∧ acc.length < sizeLine ∧ Nx (upd H4 D (.lst (acc ++ [y]))) else Nx H3 :=
  lc_tup (K := K) (a := a) (xs := us) (Qd := Qd) (Made G H1 D xs f) ⟨new_same hD, [], upd_same, .nil, Nat.le_refl _⟩ (fun i H _ I => Same.seqT I.1 hS) (fun i u H hu I => made_step hG hF hP hD hl turn hu I)
    (fun H ⟨sm, ws, hw, hp, _⟩ => by rw [plen hP, List.take_length] at hp; exact fin H ws sm hw hp)
theorem lcM_list (f : α → β) (hG : ∀ H H' v y, G H v y → TupS H H' → G H' v y) (hF : ∀ H H' v y, F H v y → TupS H H' → F H' v y) (hS : SqL K H1 a us) (hP : Paired (F H1) us xs) (hD : H1 D = none) (hl : us.length ≤ 1000)
    (turn : ∀ x u H (Rr : VK), x ∈ xs → Same H1 H → F H u x → (∀ H' y, Same H H' → G H' y (f x) → Rr y H') → te ((wipe σ [j]).set j (some u)) H Rr)
    (fin : ∀ H' ws, Same H1 H' → H' D = some (.lst ws) → Paired (G H') ws (xs.map f) → Qd H') :
    ∃ W : Nat → Nat → Hp → Prop, (∃ m, W 0 m (upd H1 D (.lst []))) ∧ ∀ (i m : Nat) (H : Hp), W i m H → (Itl K a).stop i H ∧ Qd H ∨ (Itl K a).go i H ∧ ∃ Nx : Hp → Prop, (∀ H', Nx H' → ∃ m', m' < m ∧ W (i + 1) m' H') ∧ ∀ (x : V) (H' : Hp), (Itl K a).yld i H x H' →
      gName j x (wipe σ [j]) H' fun σ2 H2 => wipe σ2 [j] = wipe σ [j] ∧ tYes σ2 H2 fun b H3 => if b = true then te σ2 H3 fun y H4 => ∃ acc, H4 D = some (.lst acc) ∧ acc.length < sizeLine ∧ Nx (upd H4 D (.lst (acc ++ [y]))) else Nx H3 :=
  lc_list (K := K) (a := a) (xs := us) (Qd := Qd) (Made G H1 D xs f) ⟨new_same hD, [], upd_same, .nil, Nat.le_refl _⟩ (fun i H _ I => I.1.seq hS) (fun i u H hu I => made_step hG hF hP hD hl turn hu I)
    (fun H ⟨sm, ws, hw, hp, _⟩ => by rw [plen hP, List.take_length] at hp; exact fin H ws sm hw hp)
end
/-- two ints in a tuple, any -/
def PrV (H : Hp) (v : V) (y : Int × Int) : Prop := ∃ T, v = .ref T ∧ H T = some (.tup [.int y.1, .int y.2])
def InV (_ : Hp) (v : V) (y : Int) : Prop := v = .int y
section
variable {X : Cx}
def tNr (c : Bool) (i : Nat) : TE := fun σ H Q => ∃ D ws ys y, σ[5]? = some (some (.ref D)) ∧ H D = some (.lst ws) ∧ Paired (PrV H) ws ys ∧ ys[i]? = some y ∧ Q (.int (if c then y.2 else y.1)) H
def tHg (i : Nat) : TE := fun σ H Q => ∃ D ws ys y, σ[6]? = some (some (.ref D)) ∧ H D = some (.lst ws) ∧ Paired (InV H) ws ys ∧ ys[i]? = some y ∧ Q (.int y) H
theorem pget' {α : Type} {F : V → α → Prop} : ∀ {us : List V} {xs : List α} {i : Nat} {x : α}, Paired F us xs → xs[i]? = some x → ∃ u, us[i]? = some u ∧ F u x
  | _, _, _, _, .nil, e => by simp at e
  | _, _, 0, _, .cons h _, e => by simp at e; subst e; exact ⟨_, rfl, h⟩
  | _, _, i + 1, x, .cons _ r, e => by
    obtain ⟨u, h1, h2⟩ := pget' (i := i) (x := x) r (by simpa using e)
    exact ⟨u, by simpa using h1, h2⟩
theorem pe_n0 {x : Str} {i : Nat} {pos : Pos} {k pos2 pos3 k4 pos4 pos5} (h : PE X (.Name x pos) (tVar 5)) : PE X (.Subscript (.Subscript (.Name x pos) (.Constant (.int (i : Int)) k pos2) pos3) (.Constant (.int 0) k4 pos4) pos5) (tNr false i) :=
  pe_weak (pe_ix ix_tup (pe_ix ix_list h pe_int (fun _ _ => rfl)) pe_int (fun _ _ => rfl)) fun σ H Q ⟨D, ws, ys, y, e, hw, hp, hy, q⟩ => by
    obtain ⟨u, hu, T, rfl, hT⟩ := pget' hp hy
    exact ⟨_, e, D, ws, _, .ref T, rfl, rfl, SqL.of hw, atI_nat hu, T, _, 0, _, rfl, rfl, SqT.of hT, atI_nat (j := 0) rfl, q⟩
theorem pe_n1 {x : Str} {i : Nat} {pos : Pos} {k pos2 pos3 k4 pos4 pos5} (h : PE X (.Name x pos) (tVar 5)) : PE X (.Subscript (.Subscript (.Name x pos) (.Constant (.int (i : Int)) k pos2) pos3) (.Constant (.int 1) k4 pos4) pos5) (tNr true i) :=
  pe_weak (pe_ix ix_tup (pe_ix ix_list h pe_int (fun _ _ => rfl)) pe_int (fun _ _ => rfl)) fun σ H Q ⟨D, ws, ys, y, e, hw, hp, hy, q⟩ => by
    obtain ⟨u, hu, T, rfl, hT⟩ := pget' hp hy
    exact ⟨_, e, D, ws, _, .ref T, rfl, rfl, SqL.of hw, atI_nat hu, T, _, 1, _, rfl, rfl, SqT.of hT, atI_nat (j := 1) rfl, q⟩
theorem pe_hg {x : Str} {i : Nat} {pos : Pos} {k pos2 pos3} (h : PE X (.Name x pos) (tVar 6)) : PE X (.Subscript (.Name x pos) (.Constant (.int (i : Int)) k pos2) pos3) (tHg i) :=
  pe_weak (pe_ix ix_list h pe_int (fun _ _ => rfl)) fun σ H Q ⟨D, ws, ys, y, e, hw, hp, hy, q⟩ => by
    obtain ⟨u, hu, rfl⟩ := pget' hp hy
    exact ⟨_, e, D, ws, _, _, rfl, rfl, SqL.of hw, atI_nat hu, q⟩
end
section
variable {P : Program} {w : World} {K : PySem.W.Frag} {mg : Str → Option Value} {base : Heap}
abbrev nLSpoils : List Str := ["_law_t", "_law_d", "_law_a", "_law_b", "_law_c", "_law_near", "_law_high", "_law_number", "_law_p"]
theorem scLSpoils : FnScope nLSpoils ["_law_t", "_law_d"] (defScope sLSpoils) := ⟨rfl, rfl, rfl, by decide +kernel, rfl, by decide +kernel, by decide +kernel⟩
def spLSpoils : Sp := fun vs H Q _ => ∃ (v u : V) (t : Tri) (d : Pl), vs = [v, u] ∧ TrV H v t ∧ PlV H u d ∧ ∀ H' b, Same H H' → (b = true → lawSp t d) → Q (.bl b) H'
theorem ok_lspoils {f : Addr} {fd : FuncData} (F : Fun K "_law_spoils" "_law_spoils" sLSpoils f fd) (c2 : Cal P w K mg base 1 "_law_twice" nLTwice spTwice) : FnOk P w K mg base CX0 2 f fd ["_law_t", "_law_d"] spLSpoils := by
  refine F.ok scLSpoils (fun vs H Q E h => ?_) (fun cdv A outer s H vs Q E hr h => ?_)
  · obtain ⟨v, u, t, d, rfl, _⟩ := h
    rfl
  · obtain ⟨v, u, t, d, rfl, ht, hd, q⟩ := h
    have nd := scLSpoils.nd
    refine ⟨_, pss_cons (ps_asg (pv 0) (pg_tup rfl (pgs_cons (pg_name (i := 2) nd rfl (.inl rfl)) (pgs_cons (pg_name (i := 3) nd rfl (.inl rfl)) (pgs_cons (pg_name (i := 4) nd rfl (.inl rfl)) pgs_nil)))))
      (pss_cons (ps_setLc (i := 5) (own := [("_law_p", 8)]) (g := gName 8) (by rfl) nd rfl rfl (sw_true rfl rfl rfl (by decide +kernel)) (pi_tup (pv 0)) (blkOk_by (N := nLSpoils) (sc := defScope sLSpoils) (by decide +kernel)) (fun _ _ _ _ _ => pg_name (i := 8) nd rfl (Or.inl rfl))
            (fun _ _ _ _ _ => pts_nil) (fun _ _ _ _ _ => pe_tup (pa_cons (pe_op op_sub (pe_weak (t' := tP0 (tVar 8)) (pe_ix (ixt (K := K) rfl) (pv 8) pe_int (fun _ _ => rfl)) (fun σ H Q ⟨v, hv, p, ⟨a, e, ha, _⟩, q⟩ => ⟨v, hv, a, _, 0, _, e, rfl, SqT.of ha, atI_nat (j := 0) rfl, q⟩)) (pe_weak (t' := tP0 (tVar 1)) (pe_ix (ixt (K := K) rfl) (pv 1) pe_int (fun _ _ => rfl)) (fun σ H Q ⟨v, hv, p, ⟨a, e, ha, _⟩, q⟩ => ⟨v, hv, a, _, 0, _, e, rfl, SqT.of ha, atI_nat (j := 0) rfl, q⟩)))
              (pa_cons (pe_op op_sub (pe_weak (t' := tP1 (tVar 8)) (pe_ix (ixt (K := K) rfl) (pv 8) pe_int (fun _ _ => rfl)) (fun σ H Q ⟨v, hv, p, ⟨a, e, ha, _⟩, q⟩ => ⟨v, hv, a, _, 1, _, e, rfl, SqT.of ha, atI_nat (j := 1) rfl, q⟩)) (pe_weak (t' := tP1 (tVar 1)) (pe_ix (ixt (K := K) rfl) (pv 1) pe_int (fun _ _ => rfl)) (fun σ H Q ⟨v, hv, p, ⟨a, e, ha, _⟩, q⟩ => ⟨v, hv, a, _, 1, _, e, rfl, SqT.of ha, atI_nat (j := 1) rfl, q⟩))) pa_nil))))
      (pss_cons (ps_setLc (i := 6) (own := [("_law_p", 8)]) (g := gName 8) (by rfl) nd rfl rfl (sw_true rfl rfl rfl (by decide +kernel)) (pi_list (pv 5)) (blkOk_by (N := nLSpoils) (sc := defScope sLSpoils) (by decide +kernel)) (fun _ _ _ _ _ => pg_name (i := 8) nd rfl (Or.inl rfl))
            (fun _ _ _ _ _ => pts_nil) (fun _ _ _ _ _ => pe_op op_add (pe_op op_mulX (pe_ix (ixt (K := K) rfl) (pv 8) pe_int (fun _ _ => rfl)) (pe_ix (ixt (K := K) rfl) (pv 8) pe_int (fun _ _ => rfl))) (pe_op op_mulX (pe_ix (ixt (K := K) rfl) (pv 8) pe_int (fun _ _ => rfl)) (pe_ix (ixt (K := K) rfl) (pv 8) pe_int (fun _ _ => rfl)))))
      (pss_cons (ps_set (i := 7) nd rfl (.inl rfl) (pe_op op_mulX (pe_hg (i := 0) (pv 6)) (pe_op op_sub (pe_op op_mulX (pe_n0 (i := 1) (pv 5)) (pe_n1 (i := 2) (pv 5))) (pe_op op_mulX (pe_n1 (i := 1) (pv 5)) (pe_n0 (i := 2) (pv 5))))))
      (pss_cons (ps_set (i := 7) nd rfl (.inl rfl) (pe_op op_sub (pv 7) (pe_op op_mulX (pe_hg (i := 1) (pv 6)) (pe_op op_sub (pe_op op_mulX (pe_n0 (i := 0) (pv 5)) (pe_n1 (i := 2) (pv 5))) (pe_op op_mulX (pe_n1 (i := 0) (pv 5)) (pe_n0 (i := 2) (pv 5)))))))
      (pss_cons (ps_set (i := 7) nd rfl (.inl rfl) (pe_op op_add (pv 7) (pe_op op_mulX (pe_hg (i := 2) (pv 6)) (pe_op op_sub (pe_op op_mulX (pe_n0 (i := 0) (pv 5)) (pe_n1 (i := 1) (pv 5))) (pe_op op_mulX (pe_n1 (i := 0) (pv 5)) (pe_n0 (i := 1) (pv 5)))))))
      (pss_one (ps_ret (pe_or (pe_cmpR op_gt (pv 7) pe_int (nomark _)) (pe_one (pe_and (pe_cmpR op_eq (pv 7) pe_int (nomark _)) (pe_one (pe_or (pe_cmpR (op_ltE ePl hr.units) (pv 1) (pv 2) (nomark _))
          (pe_one (pe_cmpR op_lt (pe_call c2.ok hr (by rfl) c2.g c2.kp c2.b .nil pass0 (pa_cons (pv 3) (pa_cons (pv 4) (pa_cons (pv 1) pa_nil)))) pe_int (nomark _))))))))))))))), ?_⟩
    obtain ⟨T, va, vb, vc, rfl, hT, ha, hb, hc⟩ := ht
    refine ⟨_, rfl, T, _, rfl, SqT.of hT, rfl, va, _, rfl, vb, _, rfl, vc, [], rfl, rfl, ?_⟩
    -- near
    refine ⟨_, rfl, T, rfl, ⟨_, SqT.of hT⟩, fun D nD => ?_⟩
    refine lcM_tup (j := 8) (F := PlV) (G := PrV) (xs := [t.1, t.2.1, t.2.2]) (fun p => (p.1 - d.1, p.2 - d.2)) (fun H H' v y ⟨T, e, h⟩ tp => ⟨T, e, tp _ _ h⟩) (fun H H' v y h tp => h.keep tp) (SqT.of hT) (.cons ha (.cons hb (.cons hc .nil))) nD (by simp) (fun p u H2 Rr _ sm hu k => ?_) (fun H2 ws sm hw hp => ?_)
    · have hd2 := hd.same sm
      refine ⟨_, rfl, p, hu, _, rfl, d, hd2, _, _, rfl, rfl, _, rfl, p, hu, _, rfl, d, hd2, _, _, rfl, rfl, by show 2 ≤ sizeLine; decide, fun t' nt => k _ _ (new_same nt) ⟨t', rfl, upd_same⟩⟩
    have ba := bd_sub ha.bd hd.bd
    have bb := bd_sub hb.bd hd.bd
    have bc := bd_sub hc.bd hd.bd
    -- high
    refine ⟨_, rfl, D, rfl, ⟨_, SqL.of hw⟩, fun D2 nD2 => ?_⟩
    refine lcM_list (j := 8) (F := fun H v y => PrV H v y ∧ y.1.natAbs < 2 ^ 201 ∧ y.2.natAbs < 2 ^ 201) (G := InV) (xs := [t.1, t.2.1, t.2.2].map fun p => (p.1 - d.1, p.2 - d.2)) (fun y => y.1 * y.1 + y.2 * y.2) (fun H H' v y e _ => e) (fun H H' v y ⟨⟨T, e, h⟩, b⟩ tp => ⟨⟨T, e, tp _ _ h⟩, b⟩) (SqL.of hw) ?_ nD2 (by rw [plen hp]; simp) (fun y u H3 Rr _ sm3 hu k => ?_) (fun H3 ws3 sm3 hw3 hp3 => ?_)
    · match ws, hp with
      | [w0, w1, w2], .cons h0 (.cons h1 (.cons h2 .nil)) => exact .cons ⟨h0, ba⟩ (.cons ⟨h1, bb⟩ (.cons ⟨h2, bc⟩ .nil))
    · obtain ⟨⟨T2, rfl, hT2⟩, b1, b2⟩ := hu
      exact ⟨_, rfl, T2, _, 0, _, rfl, rfl, SqT.of hT2, atI_nat (j := 0) rfl, _, rfl, T2, _, 0, _, rfl, rfl, SqT.of hT2, atI_nat (j := 0) rfl, _, _, rfl, rfl, mul_x b1 b1 (by decide), _, rfl, T2, _, 1, _, rfl, rfl, SqT.of hT2, atI_nat (j := 1) rfl, _, rfl, T2, _, 1, _, rfl, rfl, SqT.of hT2, atI_nat (j := 1) rfl, _, _, rfl, rfl, mul_x b2 b2 (by decide), _, _, rfl, rfl, k H3 _ (Same.refl H3) rfl⟩
    have hw2 := sm3 _ _ hw
    have hp2 : Paired (PrV H3) ws ([t.1, t.2.1, t.2.2].map fun p => (p.1 - d.1, p.2 - d.2)) := rel_keep (G := PrV) (fun H H' v y ⟨T, e, h⟩ tp => ⟨T, e, tp _ _ h⟩) (Same.tups sm3) hp
    have s13 := sm.trans sm3
    have bh : ∀ {x y : Int}, x.natAbs < 2 ^ 201 → y.natAbs < 2 ^ 201 → (x * x + y * y).natAbs < 2 ^ 403 := fun h k => add_lt (mul_lt h h) (mul_lt k k)
    have bm : ∀ {x y z v : Int}, x.natAbs < 2 ^ 201 → y.natAbs < 2 ^ 201 → z.natAbs < 2 ^ 201 → v.natAbs < 2 ^ 201 → (x * y - z * v).natAbs < 2 ^ 403 := fun h k l m => sub_lt (mul_lt h k) (mul_lt l m)
    refine ⟨D2, ws3, _, _, rfl, hw3, hp3, rfl, D, ws, _, _, rfl, hw2, hp2, rfl, D, ws, _, _, rfl, hw2, hp2, rfl, _, _, rfl, rfl, mul_x bb.1 bc.2 (by decide), D, ws, _, _, rfl, hw2, hp2, rfl, D, ws, _, _, rfl, hw2, hp2, rfl, _, _, rfl, rfl, mul_x bb.2 bc.1 (by decide), _, _, rfl, rfl, _, _, rfl, rfl, mul_x (bh ba.1 ba.2) (bm bb.1 bc.2 bb.2 bc.1) (by decide), ?_⟩
    refine ⟨_, rfl, D2, ws3, _, _, rfl, hw3, hp3, rfl, D, ws, _, _, rfl, hw2, hp2, rfl, D, ws, _, _, rfl, hw2, hp2, rfl, _, _, rfl, rfl, mul_x ba.1 bc.2 (by decide), D, ws, _, _, rfl, hw2, hp2, rfl, D, ws, _, _, rfl, hw2, hp2, rfl, _, _, rfl, rfl, mul_x ba.2 bc.1 (by decide), _, _, rfl, rfl, _, _, rfl, rfl, mul_x (bh bb.1 bb.2) (bm ba.1 bc.2 ba.2 bc.1) (by decide), _, _, rfl, rfl, ?_⟩
    refine ⟨_, rfl, D2, ws3, _, _, rfl, hw3, hp3, rfl, D, ws, _, _, rfl, hw2, hp2, rfl, D, ws, _, _, rfl, hw2, hp2, rfl, _, _, rfl, rfl, mul_x ba.1 bb.2 (by decide), D, ws, _, _, rfl, hw2, hp2, rfl, D, ws, _, _, rfl, hw2, hp2, rfl, _, _, rfl, rfl, mul_x ba.2 bb.1 (by decide), _, _, rfl, rfl, _, _, rfl, rfl, mul_x (bh bc.1 bc.2) (bm ba.1 bb.2 ba.2 bb.1) (by decide), _, _, rfl, rfl, ?_⟩
    have fin : ∀ b, (b = true → lawSp t d) → Q (.bl b) H3 := fun b h => q H3 b s13 h
    unfold lawSp at fin
    refine ⟨_, rfl, _, _, rfl, rfl, _, rfl, ite2 (fun e => fin true fun _ => .inl (NW.dT e)) (fun e => ?_)⟩
    refine ⟨_, rfl, rfl, _, rfl, ite2 (fun e2 => ?_) (fun e2 => fin false fun z => by cases z)⟩
    have e2 := V.int.inj (NW.dT e2)
    refine ⟨_, rfl, _, rfl, d, t.1, hd.same s13, ha.same s13, _, rfl, ite2 (fun e3 => fin true fun _ => .inr ⟨e2, .inl (NW.dT e3)⟩) (fun e3 => ?_)⟩
    refine ⟨_, rfl, _, rfl, _, rfl, vb, vc, u, t.2.1, t.2.2, d, rfl, hb.same s13, hc.same s13, hd.same s13, _, _, rfl, rfl, fin _ fun z => .inr ⟨e2, .inr (NW.dT z)⟩⟩
abbrev nClean : List Str := ["_law_places_here", "_law_cover", "_law_t", "_law_p"]
theorem scClean : FnScope nClean ["_law_places_here", "_law_cover"] (defScope sClean) := ⟨rfl, rfl, rfl, by decide +kernel, rfl, by decide +kernel, by decide +kernel⟩
def spClean : Sp := fun vs H Q _ => ∃ (a c : Addr) (R : List Pl) (N : List Tri), vs = [.ref a, .ref c] ∧ LsV ePl H a R ∧ LsV eTr H c N ∧ NetL R N ∧ ∀ H', Same H H' → Q (.bl true) H'
theorem ok_clean {f : Addr} {fd : FuncData} (F : Fun K "_law_clean" "_law_clean" sClean f fd) (cS : Cal P w K mg base 2 "_law_spoils" ["_law_t", "_law_d"] spLSpoils) : FnOk P w K mg base CX0 3 f fd ["_law_places_here", "_law_cover"] spClean := by
  refine F.ok scClean (fun vs H Q E h => ?_) (fun cdv A outer s H vs Q E hr h => ?_)
  · obtain ⟨a, c, R, N, rfl, _⟩ := h
    rfl
  · obtain ⟨a, c, R, N, rfl, ⟨us, ha, hp⟩, ⟨vs, hc, hq⟩, net, q⟩ := h
    have nd := scClean.nd
    refine ⟨_, pss_cons (ps_for PassesOwn.never rfl (pi_list (pv 1)) (pg_name (i := 2) nd rfl (Or.inl rfl))
        (pss_one (ps_for PassesOwn.never rfl (pi_list (pv 0)) (pg_name (i := 3) nd rfl (Or.inl rfl))
          (pss_one (ps_if (pt_val (pe_call cS.ok hr (by rfl) cS.g cS.kp cS.b .nil pass0 (pa_cons (pv 2) (pa_cons (pv 3) pa_nil)))) (pss_one (ps_ret pe_bl)) pss_nil)))))
      (pss_one (ps_ret pe_bl)), ?_⟩
    refine ⟨_, rfl, c, rfl, ⟨_, SqL.of hc⟩, for_list (xs := vs) (fun i σ H3 => ∃ (y2 y3 : Option V), σ = [some (.ref a), some (.ref c), y2, y3] ∧ Same H H3) ⟨none, none, rfl, Same.refl H⟩ (fun i σ H3 _ ⟨_, _, _, sm⟩ => SqL.of (sm _ _ hc)) (fun i u σ H3 hu ⟨y2, y3, es, sm⟩ => ?_) (fun σ H3 ⟨y2, y3, es, sm⟩ => ?_)⟩
    · subst es
      obtain ⟨t, ht, rt⟩ := reps_get hq hu
      have tN := List.mem_of_getElem? ht
      refine ⟨_, rfl, a, rfl, ⟨_, SqL.of (sm _ _ ha)⟩, for_list (xs := us) (fun i σ H4 => ∃ (y3 : Option V), σ = [some (.ref a), some (.ref c), some u, y3] ∧ Same H H4) ⟨y3, rfl, sm⟩ (fun i σ H4 _ ⟨_, _, sm⟩ => SqL.of (sm _ _ ha)) (fun i v σ H4 hv ⟨y3, es, sm4⟩ => ?_) (fun σ H4 ⟨y3, es, sm4⟩ => ?_)⟩
      · subst es
        obtain ⟨p, hp', rp⟩ := reps_get hp hv
        have pR := List.mem_of_getElem? hp'
        refine ⟨_, rfl, _, rfl, u, v, t, p, rfl, TrV.keep rt (Same.tups sm4), PlV.same rp sm4, fun H5 b s5 hb => ⟨b, rfl, ?_⟩⟩
        cases b with
        | true => exact (net.clean tN pR (hb rfl)).elim
        | false => exact iteF ⟨some v, rfl, sm4.trans s5⟩
      · subst es
        exact ⟨some u, y3, rfl, sm4⟩
    · subst es
      exact q H3 sm
end
end NW

/-! The table of a set, as far as its size goes. -/
namespace NW
open PySem PySem.Spec PyProof.Rows L2
def Mk (m : Nat) : Prop := m = 7 ∨ m = 31 ∨ m = 127 ∨ m = 511
def orb (m : Nat) : Nat → Nat → Nat → Nat
  | 0, _, acc => acc
  | f + 1, x, acc => orb m f ((x * 5 + 1) % (m + 1)) (acc ||| (1 <<< x))
theorem lcgI_front (m x : Nat) : ∀ k, lcgI m x (k + 1) = lcgI m ((x * 5 + 1) % (m + 1)) k
  | 0 => rfl
  | k + 1 => by
    have h := lcgI_front m x k
    show (lcgI m x (k + 1) * 5 + 1) % (m + 1) = (lcgI m ((x * 5 + 1) % (m + 1)) k * 5 + 1) % (m + 1)
    rw [h]
theorem orb_bit (m j : Nat) : ∀ (f x acc : Nat), (orb m f x acc).testBit j = true → acc.testBit j = true ∨ ∃ k, k < f ∧ lcgI m x k = j
  | 0, _, _, h => .inl h
  | f + 1, x, acc, h => by
    rcases orb_bit m j f _ _ h with k | ⟨k, kf, e⟩
    · rw [Nat.testBit_or, Bool.or_eq_true] at k
      rcases k with k | k
      · exact .inl k
      · refine .inr ⟨0, Nat.succ_pos _, ?_⟩
        rw [Nat.one_shiftLeft, Nat.testBit_two_pow] at k
        exact of_decide_eq_true k
    · exact .inr ⟨k + 1, Nat.succ_lt_succ kf, by rw [lcgI_front]; exact e⟩
theorem orb_full {m : Nat} (hm : Mk m) : orb m (m + 1) 0 0 = 2 ^ (m + 1) - 1 := by
  rcases hm with rfl | rfl | rfl | rfl <;> decide +kernel
theorem lcg_back {m : Nat} (hm : Mk m) : lcgN m (m + 1) = 0 := by
  rcases hm with rfl | rfl | rfl | rfl <;> decide +kernel
theorem lcg_turn {m : Nat} (hm : Mk m) : ∀ k, lcgN m (m + 1 + k) = lcgN m k
  | 0 => lcg_back hm
  | k + 1 => congrArg (fun z => (z * 5 + 1) % (m + 1)) (lcg_turn hm k)
theorem lcg_hit {m : Nat} (hm : Mk m) {j : Nat} (hj : j ≤ m) : ∃ k, k ≤ m ∧ lcgN m k = j := by
  have h : (orb m (m + 1) 0 0).testBit j = true := by rw [orb_full hm, Nat.testBit_two_pow_sub_one]; exact decide_eq_true (by omega)
  rcases orb_bit m j _ _ _ h with k | ⟨k, kf, e⟩
  · rw [Nat.zero_testBit] at k; cases k
  · refine ⟨k, by omega, ?_⟩
    have := lcgN_add m 0 k
    rw [Nat.zero_add] at this
    exact this.symm.trans e
/-- each slot begins a run soon enough -/
theorem meets {m : Nat} (hm : Mk m) (h : Int) {j : Nat} (hj : j ≤ m) : ∃ n, n ≤ m + 12 ∧ runI m (SetTable.bits h) n = j := by
  obtain ⟨a, ha, ea⟩ := lcg_hit hm (runI_le m (SetTable.bits h) 12)
  obtain ⟨b, hb, eb⟩ := lcg_hit hm hj
  have go : ∀ k, k ≤ m → lcgN m (a + k) = j → ∃ n, n ≤ m + 12 ∧ runI m (SetTable.bits h) n = j := fun k hk e =>
    ⟨12 + k, by omega, by rw [runI_tail (L2.bits_lt h), ← ea, lcgN_add]; exact e⟩
  by_cases c : a ≤ b
  · exact go (b - a) (by omega) (by rw [show a + (b - a) = b by omega]; exact eb)
  · exact go (b + (m + 1) - a) (by omega) (by rw [show a + (b + (m + 1) - a) = m + 1 + b by omega, lcg_turn hm]; exact eb)
abbrev stt (m : Nat) (h : Int) : SetTable.Probe := runAt m (SetTable.bits h % (m + 1)) (SetTable.bits h)
theorem some_free {t : SetTable} (hm : Mk t.mask) (hs : t.place.size ≤ t.mask) (h : Int) : ∃ K, K < 10 * SetTable.turns t.mask ∧ (nth t.mask (stt t.mask h) K).j ∉ t.place.toList := by
  obtain ⟨j, hj, nj⟩ := st_missing t.place.toList (t.mask + 1) (by rw [Array.length_toList]; omega)
  obtain ⟨n, hn, e⟩ := meets hm h (Nat.le_of_lt_succ hj)
  obtain ⟨k, hk, e2⟩ := run_nth t.mask (SetTable.bits h) n
  refine ⟨k, by unfold SetTable.turns; omega, ?_⟩
  rw [e2]
  show runI t.mask (SetTable.bits h) n ∉ _
  rw [e]
  exact nj
theorem slot_two {t : SetTable} (hd : t.dummies = #[]) (j : Nat) : t.slot j = .empty ∨ ∃ i, t.place[i]? = some j ∧ t.slot j = .live i := by
  by_cases c : j ∈ t.place.toList
  · by_cases k : t.place[SetTable.below t.place j]? = some j
    · refine .inr ⟨_, k, ?_⟩
      unfold SetTable.slot
      simp only [k, beq_self_eq_true, if_true]
    · refine .inl ?_
      unfold SetTable.slot
      have e : (t.place[SetTable.below t.place j]? == some j) = false := beq_eq_false_iff_ne.mpr k
      simp only [e, hd, L2.has_none]
      rfl
  · exact .inl (slot_empty hd c)
theorem adv_dm {m : Nat} {p : SetTable.Probe} (h : p.dummy = none) : (adv m p).dummy = none := by
  unfold adv
  split <;> exact h
theorem nth_dm {m : Nat} : ∀ (k : Nat) {p : SetTable.Probe}, p.dummy = none → (nth m p k).dummy = none
  | 0, _, h => h
  | k + 1, _, h => nth_dm k (adv_dm h)
/-- what a probe answers: a candidate on the way, or an empty slot -/
theorem go_weak {t : SetTable} (hd : t.dummies = #[]) (hashAt : Nat → Int) (h : Int) : ∀ (f K : Nat) (p : SetTable.Probe), p.dummy = none → K < f → (nth t.mask p K).j ∉ t.place.toList →
    (∃ q i, q < K ∧ t.place[i]? = some (nth t.mask p q).j ∧ t.slot (nth t.mask p q).j = .live i ∧ SetTable.probe.go t hashAt h f p = some (.candidate (nth t.mask p q).j i (nth t.mask p (q + 1)))) ∨ ∃ j, SetTable.probe.go t hashAt h f p = some (.empty j none)
  | 0, _, _, _, hK, _ => absurd hK (Nat.not_lt_zero _)
  | f + 1, K, p, hp, hK, he => by
    rcases slot_two hd p.j with s | ⟨i, hi, s⟩
    · refine .inr ⟨p.j, ?_⟩
      unfold SetTable.probe.go
      rw [s]
      show some (SetTable.Met.empty p.j p.dummy) = _
      rw [hp]
    · cases K with
      | zero => exact absurd (List.mem_of_getElem? (by rw [Array.getElem?_toList]; exact hi)) he
      | succ K =>
        by_cases hh : (hashAt i == h) = true
        · refine .inl ⟨0, i, Nat.succ_pos _, hi, s, ?_⟩
          unfold SetTable.probe.go
          rw [s]
          show (if (hashAt i == h) = true then some (SetTable.Met.candidate p.j i (t.advance p)) else _) = _
          rw [if_pos hh]
          rfl
        · have e : SetTable.probe.go t hashAt h (f + 1) p = SetTable.probe.go t hashAt h f (adv t.mask p) := by
            conv => lhs; unfold SetTable.probe.go
            rw [s]
            show (if (hashAt i == h) = true then _ else SetTable.probe.go t hashAt h f (t.advance p)) = _
            rw [if_neg hh]
            rfl
          rw [e]
          rcases go_weak hd hashAt h f K (adv t.mask p) (adv_dm hp) (by omega) he with ⟨q, i', hq, a1, a2, a3⟩ | r
          · exact .inl ⟨q + 1, i', Nat.succ_lt_succ hq, a1, a2, a3⟩
          · exact .inr r
/-! ### laid anew -/
theorem free_some (m : Nat) (owner : Array (Option Nat)) : ∀ (f n i b : Nat), n < f → oAt owner (itL m i b n).1 = none → ∃ j, SetTable.layClean.free m owner f i b = some j ∧ oAt owner j = none
  | 0, _, _, _, h, _ => absurd h (Nat.not_lt_zero _)
  | f + 1, n, i, b, h, e => by
    rw [free_succ]
    cases c : (List.range (SetTable.runEnd m i + 1 - i)).find? fun k => (oAt owner (i + k)).isNone with
    | some k => exact ⟨i + k, rfl, by have := List.find?_some c; simpa using this⟩
    | none =>
      cases n with
      | zero =>
        exfalso
        have := List.find?_eq_none.mp c 0 (List.mem_range.mpr (by have := runEnd_ge m i; omega))
        have e : oAt owner i = none := e
        rw [Nat.add_zero, e] at this
        exact this rfl
      | succ n => exact free_some m owner f n _ _ (by omega) e
def cnt (m : Nat) (owner : Array (Option Nat)) : Nat := (List.range (m + 1)).countP fun j => (oAt owner j).isSome
theorem countP_one {p q : Nat → Bool} {j : Nat} (hp : p j = false) (hq : q j = true) (o : ∀ i, i ≠ j → q i = p i) : ∀ {l : List Nat}, l.Nodup → j ∈ l → l.countP q = l.countP p + 1
  | [], _, h => by cases h
  | x :: l, n, h => by
    have n' := List.nodup_cons.mp n
    rw [List.countP_cons, List.countP_cons]
    by_cases c : x = j
    · subst c
      have e : l.countP q = l.countP p := List.countP_congr fun y hy => by rw [o y fun z => n'.1 (z ▸ hy)]
      rw [hp, hq, e]
      simp
    · rw [o x c, countP_one hp hq o n'.2 (by rcases List.mem_cons.mp h with z | z; exact absurd z.symm c; exact z)]
      omega
structure OwnW (m k : Nat) (owner : Array (Option Nat)) : Prop where
  sz : owner.size = m + 1
  ct : cnt m owner = k
  lt : ∀ j v, oAt owner j = some v → j ≤ m → v < k
theorem OwnW.step {m k : Nat} (hm : Mk m) {owner : Array (Option Nat)} (W : OwnW m k owner) (hk : k ≤ m) (h : Int) :
    ∃ j, SetTable.layClean.free m owner (SetTable.turns m) (SetTable.bits h % (m + 1)) (SetTable.bits h) = some j ∧ OwnW m (k + 1) (owner.setIfInBounds j (some k)) := by
  obtain ⟨j0, h0, e0⟩ : ∃ j0, j0 ≤ m ∧ oAt owner j0 = none := by
    by_cases c : ∃ j0, j0 ≤ m ∧ oAt owner j0 = none
    · exact c
    · exfalso
      have all : cnt m owner = (List.range (m + 1)).length := List.countP_eq_length.mpr fun j hj => by
        cases z : oAt owner j with
        | none => exact absurd ⟨j, Nat.le_of_lt_succ (List.mem_range.mp hj), z⟩ c
        | some v => rfl
      rw [W.ct, List.length_range] at all
      omega
  obtain ⟨n, hn, e⟩ := meets hm h h0
  obtain ⟨j, ej, fj⟩ := free_some m owner (SetTable.turns m) n (SetTable.bits h % (m + 1)) (SetTable.bits h) (by unfold SetTable.turns; omega) (by rw [itL_run]; show oAt owner (runI m (SetTable.bits h) n) = none; rw [e]; exact e0)
  have hj : j < owner.size := by
    by_cases c : j < owner.size
    · exact c
    · exfalso
      have : oAt owner j = some 0 := by
        show owner.getD j (some 0) = some 0
        rw [Array.getD_eq_getD_getElem?, Array.getElem?_eq_none (by omega)]
        rfl
      rw [this] at fj
      cases fj
  refine ⟨j, ej, by rw [Array.size_setIfInBounds]; exact W.sz, ?_, fun i v hv hi => ?_⟩
  · unfold cnt
    rw [countP_one (p := fun j => (oAt owner j).isSome) (j := j) (by rw [fj]; rfl) (by rw [oAt_set_self _ hj]; rfl) (fun i ne => by rw [oAt_set_ne _ ne]) List.nodup_range (List.mem_range.mpr (by rw [← W.sz]; exact hj))]
    exact congrArg (· + 1) W.ct
  · by_cases c : i = j
    · rw [c, oAt_set_self _ hj] at hv
      have := Option.some.inj hv
      omega
    · rw [oAt_set_ne _ c] at hv
      have := W.lt i v hv hi
      omega
theorem fold_w {m : Nat} (hm : Mk m) : ∀ (hs : List Int) (k : Nat) (owner : Array (Option Nat)), OwnW m k owner → k + hs.length ≤ m → ∃ owner', hs.foldl (stepF m) (some (owner, k)) = some (owner', k + hs.length) ∧ OwnW m (k + hs.length) owner'
  | [], k, owner, W, _ => ⟨owner, rfl, W⟩
  | h :: hs, k, owner, W, l => by
    rw [List.length_cons] at l
    obtain ⟨j, e, W'⟩ := W.step hm (by omega) h
    obtain ⟨o', e', W''⟩ := fold_w hm hs (k + 1) _ W' (by omega)
    have ek : k + (h :: hs).length = k + 1 + hs.length := by rw [List.length_cons]; omega
    refine ⟨o', ?_, by rw [ek]; exact W''⟩
    rw [List.foldl_cons, stepF_some e, e', ek]
theorem relaid_w (t : SetTable) {hs : Array Int} {wanted M : Nat} (hw : SetTable.sizeAbove wanted - 1 = M) (hM : Mk M) (hn : hs.size ≤ M) :
    ∃ t' order, t.relaid hs wanted = some (t', order) ∧ order.size = hs.size ∧ (∀ i ∈ order.toList, i < hs.size) ∧ t'.place.size = hs.size ∧ t'.dummies = #[] ∧ t'.mask = M ∧ t'.led = t.led ∧ t'.plain = t.plain := by
  have W0 : OwnW M 0 (Array.replicate (M + 1) none) := by
    refine ⟨by simp, ?_, fun j v hv hj => by rw [oAt_init hj] at hv; cases hv⟩
    exact List.countP_eq_zero.mpr fun j hj => by rw [oAt_init (Nat.le_of_lt_succ (List.mem_range.mp hj))]; simp
  obtain ⟨owner, e, W⟩ := fold_w hM hs.toList 0 _ W0 (by rw [Array.length_toList]; omega)
  rw [Nat.zero_add, Array.length_toList] at e W
  have el : SetTable.layClean M hs = some owner := by rw [layClean_eq, e]; rfl
  have len : (liveOf M owner).length = hs.size := by
    unfold liveOf
    rw [List.length_filterMap_eq_countP]
    have := W.ct
    unfold cnt at this
    rw [← this]
    refine List.countP_congr fun j hj => ?_
    rw [oAt_none (by rw [W.sz]; exact List.mem_range.mp hj)]
    simp
  refine ⟨tabOf t M owner, ((liveOf M owner).map (·.2)).toArray, by rw [relaid_eq, hw, el]; rfl, by rw [List.size_toArray, List.length_map]; exact len, fun i hi => ?_, ?_, rfl, rfl, rfl, rfl⟩
  · obtain ⟨⟨j, v⟩, hq, rfl⟩ := List.mem_map.mp (show i ∈ (liveOf M owner).map (·.2) from hi)
    obtain ⟨a, b⟩ := (mem_live W.sz).1 hq
    exact W.lt j v b a
  · show ((liveOf M owner).map (·.1)).toArray.size = hs.size
    rw [List.size_toArray, List.length_map]
    exact len
end NW

/-! Sides put into a set. -/
namespace NW
open PySem PySem.Spec PyProof.Rows L2
section
variable {P : Program} {w : World} {A : Around} {E : Value → Shared → Prop} {s : Shared}
/-- tuples of tuples .. of ints, to a depth -/
def Dt (h : Heap) : Nat → Value → Prop
  | 0, v => (∃ i t, v = .int i t) ∨ ∃ b, v = .bool b
  | d + 1, v => ∃ a o xs n, v = .ref a ∧ h.get? a = some o ∧ o.cls = .type "tuple" ∧ o.data = .seq xs n ∧ ∀ y ∈ xs.toList, Dt h d y
theorem hashBy_dt : ∀ (d n : Nat) (v : Value) (Q : Bool → Shared → Prop), Dt s.heap d v → d ≤ n → Q true s → wpAny (model P w) A (hashByValue n v) Q E s
  | 0, n, v, Q, hv, _, q => by
    rcases hv with ⟨i, t, rfl⟩ | ⟨b, rfl⟩
    · rw [show hashByValue n (.int i t) = pure true by cases n <;> rfl]; exact wpAny_pure q
    · rw [show hashByValue n (.bool b) = pure true by cases n <;> rfl]; exact wpAny_pure q
  | d + 1, n + 1, v, Q, ⟨a, o, xs, m, ev, ho, hc, hx, all⟩, l, q => by
    subst ev
    have ty : s.TypeIs (.ref a) "tuple" := ⟨o, ho, hc⟩
    unfold hashByValue
    refine wpAny_bind (wpAny_specialOf ty F.slot_tuple_hash.lookup (wpAny_bind (wpAny_seqItems ho hx ?_)))
    refine wpAny_bind (show wpAny _ _ (forIn xs _ _) _ _ s from ?_)
    rw [← Array.forIn_toList]
    refine wpAny_forIn_list _ (fun left r s' => r.1 = none ∧ s' = s ∧ ∀ y ∈ left, Dt s.heap d y) _ ?_ ?_ _ _ ⟨rfl, rfl, all⟩
    · rintro y left r s' ⟨hr, es, al⟩
      rw [es]
      refine wpAny_bind (hashBy_dt d n y _ (al y List.mem_cons_self) (by omega) ?_)
      simp only [Bool.not_true, Bool.false_eq_true, if_false]
      exact wpAny_pure ⟨rfl, rfl, fun z hz => al z (List.mem_cons_of_mem _ hz)⟩
    · rintro ⟨u, v⟩ s' ⟨hr, rfl, _⟩
      obtain rfl : u = none := hr
      exact wpAny_pure q
  | d + 1, 0, _, _, _, l, _ => absurd l (by omega)
theorem ofClass_dt : ∀ (d n : Nat) (v : Value) (Q : Bool → Shared → Prop), Dt s.heap d v → d ≤ n → Q false s → wpAny (model P w) A (ofAClassStatement n v) Q E s
  | 0, n, v, Q, hv, _, q => by
    rcases hv with ⟨i, t, rfl⟩ | ⟨b, rfl⟩
    · rw [show ofAClassStatement n (.int i t) = pure false by cases n <;> rfl]; exact wpAny_pure q
    · rw [show ofAClassStatement n (.bool b) = pure false by cases n <;> rfl]; exact wpAny_pure q
  | d + 1, n + 1, v, Q, ⟨a, o, xs, m, ev, ho, hc, hx, all⟩, l, q => by
    subst ev
    have ty : s.TypeIs (.ref a) "tuple" := ⟨o, ho, hc⟩
    unfold ofAClassStatement
    refine wpAny_bind (wpAny_typeOf ty ?_)
    dsimp only
    have same : (("tuple" : String) == "tuple") = true := by decide
    simp only [same, if_true, Bool.not_true, Bool.false_eq_true, if_false]
    try (refine wpAny_bind (wpAny_pure ?_); simp only [Bool.not_true, Bool.false_eq_true, if_false])
    refine wpAny_bind (show wpAny _ _ (seqItems? (.ref a)) _ _ s from wpAny_seqItems ho hx ?_)
    dsimp only
    refine wpAny_bind (show wpAny _ _ (forIn xs _ _) _ _ s from ?_)
    rw [← Array.forIn_toList]
    refine wpAny_forIn_list _ (fun left r s' => r.1 = none ∧ s' = s ∧ ∀ y ∈ left, Dt s.heap d y) _ ?_ ?_ _ _ ⟨rfl, rfl, all⟩
    · rintro y left r s' ⟨hr, es, al⟩
      rw [es]
      refine wpAny_bind (ofClass_dt d n y _ (al y List.mem_cons_self) (by omega) ?_)
      simp only [Bool.false_eq_true, if_false]
      exact wpAny_pure ⟨rfl, rfl, fun z hz => al z (List.mem_cons_of_mem _ hz)⟩
    · rintro ⟨u, v⟩ s' ⟨hr, rfl, _⟩
      obtain rfl : u = none := hr
      exact wpAny_pure q
  | d + 1, 0, _, _, _, l, _ => absurd l (by omega)
/-- a side's key at an address, as both the set and its look at it want it -/
structure IsSd (P : Program) (w : World) (h : Heap) (k : NestedKey) (b : Addr) : Prop where
  key : (nestedKind P w).is h k b
  deep : Dt h 2 (.ref b)
theorem Dt.keep {h h' : Heap} (k : ∀ b o vs n, h.get? b = some o → o.data = .seq vs n → h'.get? b = some o) : ∀ (d : Nat) (v : Value), Dt h d v → Dt h' d v
  | 0, _, x => x
  | d + 1, _, ⟨a, o, xs, n, e, ho, hc, hx, all⟩ => ⟨a, o, xs, n, e, k _ _ _ _ ho hx, hc, hx, fun y hy => Dt.keep k d y (all y hy)⟩
theorem IsSd.keep {h h' : Heap} {k : NestedKey} {b : Addr} (x : IsSd P w h k b) (c : ∀ b o vs n, h.get? b = some o → o.data = .seq vs n → h'.get? b = some o) : IsSd P w h' k b := ⟨nestedKind_stays.stays c x.key, Dt.keep c _ _ x.deep⟩
theorem seen_sd {k : NestedKey} {b : Addr} {Q : Bool → Shared → Prop} (hk : IsSd P w s.heap k b) {ys : List Value} (hy : ∀ y ∈ ys, ∃ k' c, y = Value.ref c ∧ IsSd P w s.heap k' c) (q : Q false s) : wpAny (model P w) A (searchCouldBeSeen (.ref b) ys) Q E s := by
  unfold searchCouldBeSeen
  refine wpAny_bind (wpAny_forIn_list _ (fun left r s' => r.1 = none ∧ s' = s ∧ ∀ y ∈ left, ∃ k' c, y = Value.ref c ∧ IsSd P w s.heap k' c) _ ?_ ?_ _ _ ⟨rfl, rfl, hy⟩)
  · rintro y left r s' ⟨hr, rfl, al⟩
    obtain ⟨k', c, rfl, hc⟩ := al y List.mem_cons_self
    have al' : ∀ y ∈ left, ∃ k' c, y = Value.ref c ∧ IsSd P w s'.heap k' c := fun z hz => al z (List.mem_cons_of_mem _ hz)
    dsimp only
    by_cases hv : (b == c || (carriedByValue (.ref b) && carriedByValue (.ref c))) = true
    · exact wp_if_pos hv (wpAny_pure ⟨rfl, rfl, al'⟩)
    · refine wp_if_neg hv (wpAny_bind ((nestedKind P w).quiet hk.key ?_))
      simp only [Bool.not_true, Bool.false_eq_true, if_false]
      refine wpAny_bind ((nestedKind P w).quiet hc.key ?_)
      simp only [Bool.not_true, Bool.false_eq_true, if_false]
      refine wpAny_bind (ofClass_dt 2 8 _ _ hk.deep (by decide) ?_)
      simp only [Bool.false_eq_true, if_false]
      refine wpAny_bind (ofClass_dt 2 8 _ _ hc.deep (by decide) ?_)
      simp only [Bool.false_eq_true, if_false]
      exact wpAny_pure ⟨rfl, rfl, al'⟩
  · rintro ⟨u, v⟩ s' ⟨hr, rfl, _⟩
    obtain rfl : u = none := hr
    exact wpAny_pure q
/-! ### the set, as far as its size goes -/
abbrev hsh (P : Program) (w : World) (k : NestedKey) : Int := (nestedKind P w).hash k
structure StN (P : Program) (w : World) (h : Heap) (S : Addr) (ks : List (Addr × NestedKey)) (es : Array (Int × Value)) (ep : Nat) (t : SetTable) : Prop where
  ob : ∃ o, h.get? S = some o ∧ o.ExactSet ∧ o.data = .set es ep t
  sz : es.size = ks.length
  pl : t.place.size = ks.length
  dm : t.dummies = #[]
  mm : Mk t.mask
  el : ∀ e ∈ es.toList, ∃ p ∈ ks, e = (hsh P w p.2, Value.ref p.1)
  is : ∀ p ∈ ks, IsSd P w h p.2 p.1
  plain : t.plain = true
  led : w.params.followText "set-order" = true ∨ t.led = true
  room : ks.length * 5 < t.mask * 3
variable {S : Addr} {ks : List (Addr × NestedKey)} {es : Array (Int × Value)} {ep : Nat} {t : SetTable}
theorem fits_of {n : Nat} {t : SetTable} (h1 : t.place.size = n) (h2 : t.dummies = #[]) (h3 : n ≤ t.mask) : t.fits n = true := by
  unfold SetTable.fits SetTable.fill
  rw [h2, h1, Bool.and_eq_true, beq_iff_eq, decide_eq_true_eq]
  exact ⟨rfl, by show n + 0 ≤ t.mask; omega⟩
theorem StN.fits (R : StN P w s.heap S ks es ep t) : t.fits es.size = true := by
  rw [R.sz]
  exact fits_of R.pl R.dm (by have := R.room; omega)
theorem mk_gave {t : SetTable} (h : Mk t.mask) : ¬ t.gaveWay = true := by
  unfold SetTable.gaveWay
  rcases h with e | e | e | e <;> rw [e] <;> decide
/-- the search for what isn't in -/
theorem search_no (R : StN P w s.heap S ks es ep t) {x : Addr} {k : NestedKey} (hx : IsSd P w s.heap k x) (hn : k ∉ ks.map (·.2)) (hu : A.units + 8 < cLine) {Q : SetFound → Shared → Prop} (q : ∀ j, Q (.free j false) s) :
    ∀ (f K : Nat) (stand : Option SetTable.Probe) (p : SetTable.Probe), stand.getD (t.probeStart (hsh P w k)) = p → p.dummy = none → K < 10 * SetTable.turns t.mask → K < f → (nth t.mask p K).j ∉ t.place.toList →
      wpAny (model P w) A (setSearchFrom S (.ref x) (hsh P w k) true f stand) Q E s
  | 0, _, _, _, _, _, _, h, _ => absurd h (Nat.not_lt_zero _)
  | f + 1, K, stand, p, es0, hp, hK, hf, he => by
    obtain ⟨o, ho, hex, hd⟩ := R.ob
    rw [setSearchFrom_succ]
    refine wpAny_bind (wpAny_setState_of ho hd R.fits ?_)
    dsimp only
    refine wp_if_neg (mk_gave R.mm) ?_
    try refine wpAny_bind (wpAny_pure ?_)
    rw [es0]
    rcases go_weak R.dm (fun i => (es[i]?.map (·.1)).getD 0) (hsh P w k) (10 * SetTable.turns t.mask) K p hp hK he with ⟨c, i, hc, hi, hs, hpr⟩ | ⟨j, hpr⟩
    · have hpr' : t.probe (fun i => (es[i]?.map (·.1)).getD 0) (hsh P w k) p = some (.candidate (nth t.mask p c).j i (nth t.mask p (c + 1))) := hpr
      rw [hpr']
      dsimp only
      have il : i < es.size := by
        have := (Array.getElem?_eq_some_iff.mp hi).1
        rw [R.pl] at this
        rw [R.sz]
        exact this
      obtain ⟨e, hee⟩ : ∃ e, es[i]? = some e := ⟨es[i], Array.getElem?_eq_getElem il⟩
      obtain ⟨pp, hpp, epp⟩ := R.el e (List.mem_of_getElem? (by rw [Array.getElem?_toList]; exact hee))
      subst epp
      have ne : ¬ pp.2 = k := fun z => hn (List.mem_map.mpr ⟨pp, hpp, z⟩)
      have onward : wpAny (model P w) A (searchRest S (.ref x) (hsh P w k) true f es t (nth t.mask p c).j i (nth t.mask p (c + 1))) Q E s := by
        unfold searchRest
        rw [hee]
        dsimp only
        refine wpAny_bind (wpAny_holding ((nestedKind P w).eqBool hu (R.is pp hpp).key hx.key (wpAny_bind (wpAny_setState_of ho hd R.fits ?_))))
        dsimp only
        refine wp_if_neg (by simp [ne]) ?_
        try refine wpAny_bind (wpAny_pure ?_)
        rw [sameMem]
        dsimp only
        simp only [if_true, hs, hee]
        refine wpAny_bind (wpAny_isSame_ref_self (wpAny_bind (wpAny_pure ?_)))
        simp only [if_true]
        refine wp_if_neg (by simp [ne]) ?_
        refine search_no R hx hn hu q f (K - (c + 1)) _ (nth t.mask p (c + 1)) rfl (nth_dm _ hp) (by omega) (by omega) ?_
        rw [← nth_add, show c + 1 + (K - (c + 1)) = K by omega]
        exact he
      by_cases hl : t.led = true
      · refine wp_if_neg (by simp [hl]) ?_
        try refine wpAny_bind (wpAny_pure ?_)
        exact onward
      · refine wp_if_pos (by simp [hl]) (wpAny_bind (seen_sd hx (fun y hy => ?_) ?_))
        · obtain ⟨e, he, ey⟩ := List.mem_map.mp hy
          have he1 : e ∈ es ∧ e.1 = hsh P w k := by simpa using he
          obtain ⟨p2, hp2, e2⟩ := R.el e (by simpa using he1.1)
          exact ⟨p2.2, p2.1, by rw [← ey, e2], R.is p2 hp2⟩
        · refine wp_if_neg (by decide) ?_
          try refine wpAny_bind (wpAny_pure ?_)
          exact onward
    · have hpr' : t.probe (fun i => (es[i]?.map (·.1)).getD 0) (hsh P w k) p = some (.empty j none) := hpr
      rw [hpr']
      dsimp only
      exact wpAny_pure (q j)
end
end NW

/-! Sides put into a set: adding, all of a list. -/
namespace NW
open PySem PySem.Spec PyProof.Rows L2
section
variable {P : Program} {w : World} {A : Around} {E : Value → Shared → Prop} {s : Shared}
variable {S : Addr} {ks : List (Addr × NestedKey)} {es : Array (Int × Value)} {ep : Nat} {t : SetTable}
theorem sd_but {h h' : Heap} {k : NestedKey} {b : Addr} {o : Obj} (x : IsSd P w h k b) (ho : h.get? S = some o) (hd : o.data = .set es ep t) (sb : Heap.SameBut S h h') : IsSd P w h' k b :=
  x.keep fun c oc vs n hc hv => by
    refine (sb.2 c fun z => ?_).trans hc
    subst z
    rw [ho] at hc
    cases hc
    rw [hd] at hv
    cases hv
theorem grown_512 : SetTable.sizeAbove (SetTable.grown 77) = 512 := by decide +kernel
/-- the table laid anew -/
theorem relay_n {o : Obj} (ho : s.heap.get? S = some o) (hex : o.ExactSet) (hd : o.data = .set es ep t) (hsz : es.size = ks.length) (hpl : t.place.size = ks.length) (hdm : t.dummies = #[]) (hfl : ks.length ≤ t.mask)
    (el : ∀ e ∈ es.toList, ∃ p ∈ ks, e = (hsh P w p.2, Value.ref p.1)) (is : ∀ p ∈ ks, IsSd P w s.heap p.2 p.1) (pl : t.plain = true) (ld : w.params.followText "set-order" = true ∨ t.led = true) {wanted M : Nat}
    (hw : SetTable.sizeAbove wanted = M + 1) (hM : Mk M) (hn : ks.length * 5 < M * 3) {Q : Unit → Shared → Prop}
    (q : ∀ h' es' ep' t', Heap.SameBut S s.heap h' → StN P w h' S ks es' ep' t' → Q () { s with heap := h' }) : wpAny (model P w) A (setRelay S wanted) Q E s := by
  have M5 : M ≤ 511 := by rcases hM with e | e | e | e <;> omega
  obtain ⟨t', order, e, o1, o2, p1, p2, p3, p4, p5⟩ := relaid_w t (hs := es.map (·.1)) (wanted := wanted) (by rw [hw]; rfl) hM (by rw [Array.size_map, hsz]; omega)
  rw [Array.size_map] at o1 o2 p1
  have sz2 : (order.filterMap (es[·]?)).toList.length = es.size ∧ ∀ x ∈ (order.filterMap (es[·]?)).toList, x ∈ es.toList := by
    have key : ∀ l : List Nat, (∀ i ∈ l, i < es.size) → (l.filterMap fun i => es[i]?).length = l.length ∧ ∀ x ∈ l.filterMap (fun i => es[i]?), x ∈ es.toList := by
      intro l
      induction l with
      | nil => intro _; exact ⟨rfl, fun x hx => by cases hx⟩
      | cons i l ih =>
        intro hl
        obtain ⟨a, b⟩ := ih fun j hj => hl j (List.mem_cons_of_mem _ hj)
        have hi := Array.getElem?_eq_getElem (hl i List.mem_cons_self)
        rw [List.filterMap_cons_some hi]
        refine ⟨by rw [List.length_cons, List.length_cons, a], fun x hx => ?_⟩
        rcases List.mem_cons.mp hx with rfl | hx
        · exact List.mem_of_getElem? (by rw [Array.getElem?_toList]; exact hi)
        · exact b x hx
    have k := key order.toList o2
    have et : (order.filterMap (es[·]?)).toList = order.toList.filterMap fun i => es[i]? := by simp
    rw [et]
    exact ⟨by rw [k.1, Array.length_toList, o1], k.2⟩
  have sz3 : (order.filterMap (es[·]?)).size = es.size := by rw [← Array.length_toList]; exact sz2.1
  rw [setRelay_eq]
  refine wpAny_bind (wpAny_setState_of ho hd (by rw [hsz]; exact fits_of hpl hdm hfl) ?_)
  dsimp only
  refine wp_if_neg (by rw [hw, sizeLine_eq]; omega) ?_
  try refine wpAny_bind (wpAny_pure ?_)
  rw [e]
  dsimp only
  refine wpAny_bind (wp_if_neg (by rw [sz3]; simp) ?_)
  try refine wpAny_bind (wpAny_pure ?_)
  refine wpAny_pure ?_
  dsimp only
  have few : ks.length * 5 < 1533 := by omega
  refine wpAny_storeSet_of ho hd ?_ (by rw [sz3, hsz, sizeLine_eq]; omega)
  have sb : Heap.SameBut S s.heap (s.heap.update S (Obj.putSet (order.filterMap (es[·]?)) t')) := Heap.SameBut.update ..
  refine q _ (order.filterMap (es[·]?)) (ep + 1) t' sb ⟨⟨_, store_at ho hd, ⟨hex.1, hex.2.1, hex.2.2⟩, rfl⟩, by rw [sz3, hsz], by rw [p1, hsz], p2, by rw [p3]; exact hM, fun e he => el e (sz2.2 e he), fun p hp => sd_but (is p hp) ho hd sb, by rw [p5]; exact pl, by rw [p4]; exact ld, by rw [p3]; exact hn⟩
/-- one more -/
theorem add_n (R : StN P w s.heap S ks es ep t) {x : Addr} {k : NestedKey} (hx : IsSd P w s.heap k x) (hn : k ∉ ks.map (·.2)) (hu : A.units + 8 < cLine) (few : ks.length + 1 ≤ 256) {Q : Bool → Shared → Prop}
    (q : ∀ b h' es' ep' t', Heap.SameBut S s.heap h' → StN P w h' S (ks ++ [(x, k)]) es' ep' t' → Q b { s with heap := h' }) : wpAny (model P w) A (setAddHashed S (.ref x) (hsh P w k)) Q E s := by
  obtain ⟨o, ho, hex, hd⟩ := R.ob
  have room := R.room
  unfold setAddHashed
  refine wpAny_holding ?_
  rw [show (100000 : Nat) = 99999 + 1 from rfl, setAddHashedIn_succ]
  refine wpAny_bind (wpAny_setState_of ho hd R.fits ?_)
  dsimp only
  refine wp_if_neg (by simp [byScan, Value.scannable]) ?_
  try refine wpAny_bind (wpAny_pure ?_)
  obtain ⟨K, hK, hf⟩ := some_free R.mm (by rw [R.pl]; omega) (hsh P w k)
  have K5 : K < 100000 := by
    have : 10 * SetTable.turns t.mask ≤ 5260 := by
      unfold SetTable.turns
      rcases R.mm with e | e | e | e <;> omega
    omega
  unfold setSearch
  refine wpAny_bind (search_no R hx hn hu (fun j => ?_) 100000 K none (stt t.mask (hsh P w k)) rfl rfl hK K5 hf)
  dsimp only
  refine wpAny_bind (wpAny_setState_of ho hd R.fits ?_)
  dsimp only
  have pp : (t.put j).1.place.size = ks.length + 1 := by
    rw [← Array.length_toList, put_place, List.length_append, List.length_cons, List.length_take, List.length_drop, Array.length_toList, R.pl]
    omega
  have pd := put_dm R.dm j
  have pm : (t.put j).1.mask = t.mask := rfl
  have pl1 : (t.put j).1.plain = true := R.plain
  have ld1 : w.params.followText "set-order" = true ∨ (t.put j).1.led = true := R.led
  generalize t.put j = pt at pp pd pm pl1 ld1 ⊢
  obtain ⟨t1, c⟩ := pt
  dsimp only at pp pd pm pl1 ld1 ⊢
  first
    | refine wpAny_bind (wp_if_pos pl1 (hashBy_dt 2 8 _ _ hx.deep (by decide) ?_))
    | refine wp_if_pos pl1 (wpAny_bind (hashBy_dt 2 8 _ _ hx.deep (by decide) ?_))
  simp only [if_true]
  have ins : (SetTable.insertAt es c (hsh P w k, Value.ref x)).toList = es.toList.take c ++ (hsh P w k, Value.ref x) :: es.toList.drop c := SetTable.toList_insertAt _ _ _
  have isz : (SetTable.insertAt es c (hsh P w k, Value.ref x)).size = ks.length + 1 := by
    rw [← Array.length_toList, ins, List.length_append, List.length_cons, List.length_take, List.length_drop, Array.length_toList, R.sz]
    omega
  have iel : ∀ e ∈ (SetTable.insertAt es c (hsh P w k, Value.ref x)).toList, ∃ p ∈ ks ++ [(x, k)], e = (hsh P w p.2, Value.ref p.1) := fun e he => by
    rw [ins] at he
    rcases mem_ins.1 he with z | z
    · exact ⟨(x, k), by simp, z⟩
    · obtain ⟨p, hp, e'⟩ := R.el e z
      exact ⟨p, List.mem_append_left _ hp, e'⟩
  generalize SetTable.insertAt es c (hsh P w k, Value.ref x) = es1 at ins isz iel ⊢
  refine wpAny_bind (wpAny_storeSet_of ho hd ?_ (by rw [isz, sizeLine_eq]; omega))
  have sb : Heap.SameBut S s.heap (s.heap.update S (Obj.putSet es1 t1)) := Heap.SameBut.update ..
  have ho1 := store_at (es' := es1) (t' := t1) ho hd
  generalize s.heap.update S (Obj.putSet es1 t1) = h1 at sb ho1 ⊢
  have is1 : ∀ p ∈ ks ++ [(x, k)], IsSd P w h1 p.2 p.1 := fun p hp => by
    rcases List.mem_append.mp hp with z | z
    · exact sd_but (R.is p z) ho hd sb
    · rw [List.mem_singleton.mp z]; exact sd_but hx ho hd sb
  have kl : (ks ++ [(x, k)]).length = ks.length + 1 := by rw [List.length_append]; rfl
  have fill1 : t1.fill = ks.length + 1 := by unfold SetTable.fill; rw [pd, pp]; rfl
  by_cases hfull : t1.tooFull = true
  · have full : (ks.length + 1) * 5 ≥ t.mask * 3 := by
      have z := hfull
      unfold SetTable.tooFull at z
      rw [decide_eq_true_eq, fill1, pm] at z
      exact z
    rw [R.sz]
    have go : ∀ M, SetTable.sizeAbove (SetTable.grown (ks.length + 1)) = M + 1 → Mk M → (ks.length + 1) * 5 < M * 3 →
        wpAny (model P w) A (setRelay S (SetTable.grown (ks.length + 1))) (fun _ s' => wpAny (model P w) A (pure true) Q E s') E { s with heap := h1 } := fun M a b d => by
      refine relay_n (s := { s with heap := h1 }) (ks := ks ++ [(x, k)]) ho1 ⟨hex.1, hex.2.1, hex.2.2⟩ rfl (by rw [isz, kl]) (by rw [pp, kl]) pd (by rw [kl, pm]; rcases R.mm with e | e | e | e <;> omega) iel is1 pl1 ld1 a b (by rw [kl]; exact d) fun h2 es2 ep2 t2 sb2 R2 => ?_
      exact wpAny_pure (q true h2 es2 ep2 t2 (sb.trans sb2) R2)
    first
      | refine wpAny_bind (wp_if_pos (by simp [hfull]) ?_)
      | refine wp_if_pos (by simp [hfull]) (wpAny_bind ?_)
    rcases R.mm with e | e | e | e
    · have : ks.length = 4 := by omega
      exact go 31 (by rw [this]; exact size_20) (.inr (.inl rfl)) (by omega)
    · have : ks.length = 18 := by omega
      exact go 127 (by rw [this]; exact size_76) (.inr (.inr (.inl rfl))) (by omega)
    · have : ks.length = 76 := by omega
      exact go 511 (by rw [this]; exact grown_512) (.inr (.inr (.inr rfl))) (by omega)
    · exfalso; omega
  · have fin : StN P w h1 S (ks ++ [(x, k)]) es1 (ep + 1) t1 := by
      refine ⟨⟨_, ho1, ⟨hex.1, hex.2.1, hex.2.2⟩, rfl⟩, by rw [isz, kl], by rw [pp, kl], pd, by rw [pm]; exact R.mm, iel, is1, pl1, ld1, ?_⟩
      have z := hfull
      unfold SetTable.tooFull at z
      rw [decide_eq_true_eq, fill1, pm] at z
      rw [kl, pm]
      omega
    first
      | refine wp_if_neg (by simp [hfull]) (wpAny_pure (q true h1 es1 (ep + 1) t1 sb fin))
      | refine wpAny_bind (wp_if_neg (by simp [hfull]) (wpAny_pure (wpAny_pure (q true h1 es1 (ep + 1) t1 sb fin))))
end
end NW

/-! set(sides), its length. -/
namespace NW
open PySem PySem.Spec PyProof.Rows L2
section
variable {P : Program} {w : World} {A : Around} {E : Value → Shared → Prop} {s : Shared}
theorem StN.keep {h h' : Heap} {S : Addr} {ks : List (Addr × NestedKey)} {es : Array (Int × Value)} {ep : Nat} {t : SetTable} (R : StN P w h S ks es ep t) (a : ∀ o, h.get? S = some o → h'.get? S = some o) (b : ∀ p ∈ ks, IsSd P w h' p.2 p.1) : StN P w h' S ks es ep t :=
  let ⟨o, ho, r⟩ := R.ob
  ⟨⟨o, a o ho, r⟩, R.sz, R.pl, R.dm, R.mm, R.el, b, R.plain, R.led, R.room⟩
abbrev set0 (w : World) : Obj := { cls := .type "set", dict := none, data := .set #[] 0 (.fresh 0 0 (!w.params.followText "set-order")) }
theorem stN_new {h : Heap} {S : Addr} (ho : h.get? S = some (set0 w)) : StN P w h S [] #[] 0 (.fresh 0 0 (!w.params.followText "set-order")) := by
  refine ⟨⟨_, ho, ⟨rfl, rfl, rfl⟩, rfl⟩, rfl, rfl, rfl, .inl rfl, fun e he => (by cases he), fun p hp => (by cases hp), rfl, ?_, by show 0 * 5 < 7 * 3; decide⟩
  show _ ∨ (!w.params.followText "set-order") = true
  cases w.params.followText "set-order" <;> simp
theorem sd_keep {h h' : Heap} {k : NestedKey} {b : Addr} (x : IsSd P w h k b) (c : ∀ b o, h.get? b = some o → h'.get? b = some o) : IsSd P w h' k b := x.keep fun b o _ _ e _ => c b o e
/-- the loop that puts all in -/
theorem upd_n {I : Addr} {fp wr : List Addr} {G : Array GenState → Array GenState → Prop} {n : Nat} {Pv : Nat → Value → Prop} {St : Nat → Shared → Prop} {R : Result → Shared → Prop} (W : WalksS P w A.in1 I fp wr G n Pv St) (S : Addr) (hSf : S ∉ fp)
    (all : List (Addr × NestedKey)) (hn : n = all.length) (nd : (all.map (·.2)).Nodup) (few : all.length ≤ 256) (hval : ∀ i v, Pv i v → ∃ p, all[i]? = some p ∧ v = .ref p.1) (h0 : Heap) (hk : ∀ p ∈ all, IsSd P w h0 p.2 p.1)
    (hS0 : h0.get? S = none) (hw0 : ∀ b ∈ wr, h0.get? b = none) (hu : A.in1.units + 8 < cLine) :
    ∀ (k i : Nat) (s : Shared), n - i = k → i ≤ n → St i s → (∀ b o, h0.get? b = some o → s.heap.get? b = some o) → (∃ es ep t, StN P w s.heap S (all.take i) es ep t) →
      (∀ s' es ep t, Moved (S :: wr) G s s' → StN P w s'.heap S all es ep t → (∀ b o, h0.get? b = some o → s'.heap.get? b = some o) → R (.ok (.ret .none)) s') → codeAny (model P w) A (.builtin "set.update.loop" ⟨[.ref S, .ref I], []⟩) R s := by
  have nSw : S ∉ wr := fun z => hSf (W.sub _ z)
  have more : ∀ b ∈ wr, b ∈ S :: wr := fun b z => List.mem_cons_of_mem _ z
  have still : ∀ {u u' : Shared}, Moved wr G u u' → (∀ b o, h0.get? b = some o → u.heap.get? b = some o) → ∀ b o, h0.get? b = some o → u'.heap.get? b = some o := fun mv c b o e => mv.heap b o (fun z => by rw [hw0 b z] at e; cases e) (c b o e)
  intro k
  induction k with
  | zero =>
    intro i s ek hi hst c ⟨es, ep, t, hS⟩ fin
    obtain rfl : i = n := by omega
    rw [List.take_of_length_le (by omega)] at hS
    refine codeAny_builtin F.entry_set_update_loop ?_
    rw [Around.under_plainId F.plain_set_update_loop]
    refine wpAny_bind (show wpAny _ A.in1 (pyNext (.ref I)) _ _ s from W.done s _ _ hst fun s' mv => ?_)
    have c' := still mv c
    exact wpAny_pure (fin s' es ep t (mv.mono more) (hS.keep (fun o e => mv.heap S o nSw e) fun p hp => sd_keep (hk p hp) c') c')
  | succ k ih =>
    intro i s ek hi hst c ⟨es, ep, t, hS⟩ fin
    have lt : i < n := by omega
    refine codeAny_builtin F.entry_set_update_loop ?_
    rw [Around.under_plainId F.plain_set_update_loop]
    refine wpAny_bind (show wpAny _ A.in1 (pyNext (.ref I)) _ _ s from W.item i s _ _ lt hst fun v s' hP hst' mv => ?_)
    obtain ⟨p, hp, rfl⟩ := hval i v hP
    have c' := still mv c
    have old : ∀ q ∈ all.take i, IsSd P w s'.heap q.2 q.1 := fun q hq => sd_keep (hk q (List.mem_of_mem_take hq)) c'
    have hS' := hS.keep (fun o e => mv.heap S o nSw e) old
    have hx : IsSd P w s'.heap p.2 p.1 := sd_keep (hk p (List.mem_of_getElem? hp)) c'
    have il : i < all.length := by omega
    have tk : all.take (i + 1) = all.take i ++ [p] := by rw [List.take_add_one, hp]; rfl
    have fresh : p.2 ∉ (all.take i).map (·.2) := fun z => by
      have n1 : ((all.take (i + 1)).map (·.2)).Nodup := nd.sublist (List.Sublist.map _ (List.take_sublist _ _))
      rw [tk, List.map_append] at n1
      exact (List.nodup_append.mp n1).2.2 _ z p.2 (by simp) rfl
    refine wpAny_bind (show wpAny _ A.in1 (holding [Value.ref p.1] (setAdd S (.ref p.1))) _ _ s' from wpAny_holding ?_)
    unfold setAdd
    refine wpAny_holding (wpAny_bind ((nestedKind P w).pyHash hu hx.key ?_))
    refine add_n (s := { s' with toks := s'.toks + (nestedKind P w).draws p.2 }) hS' hx fresh hu (by rw [List.length_take]; omega) fun b h' es' ep' t' sb hS2 => ?_
    rw [show (all.take i ++ [(p.1, p.2)]) = all.take (i + 1) from tk.symm] at hS2
    have c2 : ∀ b o, h0.get? b = some o → h'.get? b = some o := fun b o e => (sb.2 b (fun z => by rw [z, hS0] at e; cases e)).trans (c' b o e)
    refine wpAny_pure ⟨plainId_quiet F.plain_set_update_loop _, ih (i + 1) _ (by omega) lt (W.frame _ s' _ _ hst' (Nat.le_add_right _ _) fun b hb o e => ?_) c2 ⟨es', ep', t', hS2⟩ fun s'' es2 ep2 t2 mv2 hS3 c3 => ?_⟩
    · rw [sb.2 b fun z => hSf (z ▸ hb)]
      exact e
    · refine fin s'' es2 ep2 t2 (Moved.trans W.gtrans ((mv.mono more).then_heap (Nat.le_add_right _ _) fun b o nb e => ?_) mv2) hS3 c3
      rw [sb.2 b fun z => nb (z ▸ List.mem_cons_self)]
      exact e
end
end NW

/-! set(a list of sides). -/
namespace NW
open PySem PySem.Spec PyProof.Rows L2
section
variable {P : Program} {w : World} {A : Around} {E : Value → Shared → Prop} {s : Shared}
theorem call_set_n {l : Addr} {items : Array Value} (all : List (Addr × NestedKey)) {Q : Value → Shared → Prop} (hh : A.handled = none) (hl : s.heap.IsList l items) (hit : items.toList = all.map fun p => Value.ref p.1)
    (hk : ∀ p ∈ all, IsSd P w s.heap p.2 p.1) (nd : (all.map (·.2)).Nodup) (few : all.length ≤ 256) (hu : A.units + 20 < cLine)
    (fin : ∀ (h' : Heap) (tk : Nat) es ep t, StN P w h' s.heap.objs.size all es ep t → (∀ b o, s.heap.get? b = some o → h'.get? b = some o) → Q (.ref s.heap.objs.size) { s with heap := h', toks := tk }) :
    wpAny (model P w) A (call (.type "set") [.ref l]) Q E s := by
  have isz : items.size = all.length := by
    have z := congrArg List.length hit
    rwa [Array.length_toList, List.length_map] at z
  obtain ⟨kc, kt, kmro⟩ := F.called_set.mro
  have kmade := F.called_set.made
  have ksub := F.called_set.sub
  refine wpAny_call (codeAny_of_tree (show wpAny _ _ (callAny (.type "set") _) _ _ _ from ?_))
  refine wpAny_pure (And.intro (Code.quiet_builtin _ (by decide +kernel)) (codeAny_builtin F.entry_type_call ?_))
  have wgt := weight_type_call_type "set" [.ref l] []
  rw [Around.under_plain wgt rfl]
  have kn := F.called_set.notType
  have kcr := F.called_set.canCreate
  have kct := F.typeCall_set_1 (.ref l)
  repeat (any_goals (first | assumption | wp_step))
  refine codeAny_mono (code_set_led1 (.ref l) (E := E) (Q₁ := fun v s₁ => v = .ref s.heap.objs.size ∧ s₁ = { s with heap := s.heap.push (set0 w) }) ⟨rfl, rfl⟩) fun r s₁ hr => ?_
  cases r with
  | error e => exact hr
  | ok fl =>
    cases fl with
    | ret v =>
      obtain ⟨rfl, rfl⟩ := hr
      have gS : (s.heap.push (set0 w)).get? s.heap.objs.size = some (set0 w) := Heap.get?_push_size _ rfl
      have tS : Shared.TypeIs { s with heap := s.heap.push (set0 w) } (.ref s.heap.objs.size) "set" := ⟨_, gS, rfl⟩
      have kli := F.called_set.init.lookup
      have kbi := F.called_set.init.bind (.ref s.heap.objs.size)
      repeat (any_goals (first | assumption | wp_step))
      refine codeAny_mono (codeAny_call_builtin (R := wants (fun r s₂ => r = .none ∧ ∃ h' tk es ep t, s₂ = { s with heap := h', toks := tk } ∧ StN P w h' s.heap.objs.size all es ep t ∧ (∀ b o, s.heap.get? b = some o → h'.get? b = some o)) E) F.called_set.init.plain F.entry_set_init (check_set_init_1 tS ?_)) fun r₂ s₂ hr₂ => ?_
      · obtain ⟨⟨c0, d0, x0, sl0⟩, gl, cl, nl, dl⟩ := hl
        simp only at cl dl
        subst cl dl
        have gl1 : (s.heap.push (set0 w)).get? l = some { cls := .type "list", dict := d0, data := .seq items nl, slots := sl0 } := Heap.get?_push_of_some _ gl
        have ks1 := F.sub_list_set
        have ks2 := F.sub_list_frozenset
        have kne : (Value.type "list" == Value.type "dict") = false := by decide
        have il : (s.heap.push (set0 w)).IsList l items := ⟨_, gl1, rfl, nl, rfl⟩
        unfold Builtin.«set.__init__» noKeywords Builtin.Frozenset.updateFrom
        generalize hq : pyIter = itf
        wp_walk
        subst hq
        refine wpAny_pyIter_list il (wpAny_bind (wpAny_runValue ?_))
        have lS : l < s.heap.objs.size := Heap.lt_size gl
        have hh3 : A.in1.in1.in1.handled = none := by simp [hh]
        have nI : l ≠ (s.heap.push (set0 w)).objs.size := by rw [Heap.size_push]; exact Nat.ne_of_lt (Nat.lt_succ_of_lt lS)
        have nF : s.heap.objs.size ∉ [(s.heap.push (set0 w)).objs.size, l] := by
          rw [Heap.size_push]
          simp only [List.mem_cons, List.not_mem_nil, or_false]
          exact fun z => z.elim (fun z => Nat.ne_of_lt (Nat.lt_succ_self _) z) fun z => Nat.ne_of_gt lS z
        have vals : ∀ (i : Nat) (v : Value), items[i]? = some v → ∃ p, all[i]? = some p ∧ v = .ref p.1 := fun i v hv => by
          have z : items.toList[i]? = some v := by rw [Array.getElem?_toList]; exact hv
          rw [hit, List.getElem?_map] at z
          obtain ⟨p, hp, e⟩ := Option.map_eq_some_iff.mp z
          exact ⟨p, hp, e.symm⟩
        have out : ∀ b, s.heap.objs.size ≤ b → s.heap.get? b = none := fun b hb => by
          cases z : s.heap.get? b with
          | none => rfl
          | some o => exact (Nat.lt_irrefl _ (Nat.lt_of_lt_of_le (Heap.lt_size z) hb)).elim
        refine upd_n ((Walks.list hh3 _ l nI items).toS) s.heap.objs.size nF all isz nd few vals s.heap hk (out _ (Nat.le_refl _)) (fun b hb => out b (by rw [List.mem_singleton.mp hb, Heap.size_push]; exact Nat.le_succ _)) (show A.units + 1 + 1 + 1 + 8 < cLine by omega) (items.size - 0) 0 _ (by omega) (Nat.zero_le _)
          ⟨⟨_, Heap.get?_push_size _ rfl, rfl, rfl⟩, (il.push _)⟩ (fun b o e => Heap.get?_push_of_some _ (Heap.get?_push_of_some _ e)) ⟨#[], 0, _, stN_new (Heap.get?_push_of_some _ gS)⟩ ?_
        intro s' es ep t mv hS' c'
        obtain ⟨h', g', d', tk', os'⟩ := s'
        obtain rfl : g' = s.gens := mv.gens
        obtain rfl : d' = s.drawn := mv.drawn
        obtain rfl : os' = s.os := mv.os
        refine (show wpAny _ _ _ _ _ _ from wpAny_pure ?_)
        exact wpAny_pure ⟨rfl, h', tk', es, ep, t, rfl, hS', c'⟩
      · cases r₂ with
        | error e => exact hr₂
        | ok fl₂ =>
          cases fl₂ with
          | ret r =>
            obtain ⟨rfl, h', tk, es, ep, t, rfl, hS', c'⟩ := hr₂
            repeat (any_goals (first | assumption | wp_step))
            exact fin _ _ _ _ _ hS' c'
          | _ => exact hr₂.elim
    | _ => exact hr.elim
end
end NW

/-! len(set(a list of sides)). -/
namespace NW
open PySem PySem.Spec PyProof.Rows L2 NK
section
variable {X : Cx}
theorem pl_deep {H : Hp} {pins : List (Addr × Obj)} {σ : L2.St} {s : Shared} (I : Inv X pins σ H s) {v : V} {p : Pl} {u : Value} (h : PlV H v p) (r : RelV v u) : Dt s.heap 1 u := by
  obtain ⟨a, rfl, ha, _⟩ := h
  obtain rfl : u = Value.ref a := r
  obtain ⟨_, its, rv, o, g1, g2, n, g3⟩ := I.hok a _ ha
  obtain ⟨u1, u2, rfl, r1, r2⟩ := vals2 rv
  refine ⟨a, o, _, n, rfl, g1, g2, g3, fun y hy => ?_⟩
  have : y = u1 ∨ y = u2 := by simpa using hy
  rcases this with rfl | rfl
  · obtain ⟨t, rfl⟩ := r1; exact .inl ⟨_, t, rfl⟩
  · obtain ⟨t, rfl⟩ := r2; exact .inl ⟨_, t, rfl⟩
theorem sd_is {H : Hp} {pins : List (Addr × Obj)} {σ : L2.St} {s : Shared} (I : Inv X pins σ H s) {a : Addr} {k : Sd} (h : SdV H (.ref a) k) : IsSd X.prog X.w s.heap (skey k) a := by
  refine ⟨sd_nested I h, ?_⟩
  obtain ⟨b, u, v, e, hb, h1, h2⟩ := h
  cases e
  obtain ⟨_, its, rv, o, g1, g2, n, g3⟩ := I.hok a _ hb
  obtain ⟨u1, u2, rfl, r1, r2⟩ := vals2 rv
  refine ⟨a, o, _, n, rfl, g1, g2, g3, fun y hy => ?_⟩
  have : y = u1 ∨ y = u2 := by simpa using hy
  rcases this with rfl | rfl
  · exact pl_deep I h1 r1
  · exact pl_deep I h2 r2
theorem sides_at {H : Hp} {pins : List (Addr × Obj)} {σ : L2.St} {s : Shared} (I : Inv X pins σ H s) : ∀ {us : List V} {xs : List Sd} {its : List Value}, Paired (SdV H) us xs → Vals us its → ∃ all : List (Addr × NestedKey), its = all.map (fun p => Value.ref p.1) ∧ all.map (·.2) = xs.map skey ∧ ∀ p ∈ all, IsSd X.prog X.w s.heap p.2 p.1
  | _, _, _, .nil, .nil => ⟨[], rfl, rfl, fun p h => by cases h⟩
  | _, _, _, .cons (b := x) h r, .cons rv rs => by
    obtain ⟨all, e1, e2, e3⟩ := sides_at I r rs
    obtain ⟨a, u, z, rfl, _⟩ := id h
    obtain rfl := rv
    refine ⟨(a, skey x) :: all, by rw [List.map_cons, e1], by rw [List.map_cons, List.map_cons, e2], fun p hp => ?_⟩
    rcases List.mem_cons.mp hp with rfl | hp
    · exact sd_is I h
    · exact e3 p hp
def tLenSet (te : TE) : TE := fun σ H Q => te σ H fun v H1 => ∃ (a : Addr) (xs : List Sd), v = .ref a ∧ LsV eSd H1 a xs ∧ xs.Nodup ∧ xs.length ≤ 256 ∧ Q (.int (xs.length : Int)) H1
theorem pe_lenSetN {e : Expr} {te : TE} {p p2 q pos : Pos} (hc : X.calm = true) (hu : X.A.units + 64 < cLine) (hg : Gl X "len") (hm : X.mg "len" = none) (hg2 : Gl X "set") (hm2 : X.mg "set" = none) (he : PE X e te)
    (na : starEach [e] X.env = (false, eval e X.env) :: starEach [] X.env := by rfl) : PE X (.Call (.Name "len" p) [.Call (.Name "set" p2) [e] [] q] [] pos) (tLenSet te) := by
  refine ⟨fun pins s σ H Q I h => Call_ (ld_blt I hg hm PySem.boot_len (callWith_builtin1 (args_cons (Call_ (ld_blt I hg2 hm2 boot_set (callWith_type1 (args_cons (thn (he.run pins s σ H _ I h) fun v s1 ⟨x, H1, I1, r1, a, xs, ex, ⟨us, ha, hp⟩, nd, few, k⟩ => args_nil ?_) na) na rfl))) rfl) rfl rfl))⟩
  subst ex
  obtain rfl : v = Value.ref a := r1
  obtain ⟨its, rv, hl, hz⟩ := I1.list (SqL.of ha)
  obtain ⟨all, e1, e2, e3⟩ := sides_at I1 hp rv
  have la : all.length = xs.length := by
    have := congrArg List.length e2
    rwa [List.length_map, List.length_map] at this
  have nd2 : (all.map (·.2)).Nodup := by
    rw [e2]
    exact List.Pairwise.map skey (fun a b ne z => ne (skey_inj z)) nd
  refine call_set_n all (I1.ok.hd hc) hl.isList (by simpa using e1) e3 nd2 (by omega) (by omega) fun h' tk es ep t R c => args_nil ?_
  obtain ⟨o, ho, hex, hd⟩ := R.ob
  have I2 : Inv X pins σ H1 { s1 with heap := h', toks := tk } := I1.kept c
  refine call_len_set ho hex hd (by rw [R.sz]; exact fits_of R.pl R.dm (by have := R.room; omega)) (by rw [R.sz]; omega) ⟨.int (xs.length : Int), H1, I2.tok _, ⟨_, by rw [R.sz, la]⟩, k⟩
end
end NW

/-! _law_covers. -/
namespace NW
open PySem PySem.Spec PyProof.Rows L2 NK
abbrev sCovers : Stmt := topS 44
section
variable {P : Program} {w : World} {K : PySem.W.Frag} {mg : Str → Option Value} {base : Heap}
abbrev nCovers : List Str := ["_law_places_here", "_law_cover", "_law_sides", "_law_t", "_law_p", "_law_a", "_law_b", "_law_hand"]
theorem scCovers : FnScope nCovers ["_law_places_here", "_law_cover"] (defScope sCovers) := ⟨rfl, rfl, rfl, by decide +kernel, rfl, by decide +kernel, by decide +kernel⟩
def spCovers : Sp := fun vs H Q _ => ∃ (a c : Addr) (R : List Pl) (N : List Tri), vs = [.ref a, .ref c] ∧ LsV ePl H a R ∧ LsV eTr H c N ∧ CovL R N ∧ ¬ Lin (· ∈ R) ∧ R.length ≤ 16 ∧ ∀ H', Same H H' → Q (.bl true) H'
theorem sidesL_take {N : List Tri} {i : Nat} {t : Tri} (h : N[i]? = some t) : sidesL (N.take (i + 1)) = sidesL (N.take i) ++ sidesT t := by
  have tk : N.take (i + 1) = N.take i ++ [t] := by rw [List.take_add_one, h]; rfl
  unfold sidesL
  rw [tk, List.flatMap_append]
  simp
theorem he_between {R : Pl → Prop} {a b p : Pl} (h : HE R a b) (hp : R p) (z : tw a b p = 0) (l1 : lt (mn a b) p) (l2 : lt p (mx a b)) : False := by
  have no := h.no p hp z
  unfold mn at l1
  unfold mx at l2
  rcases lt_total a b with k | k | k
  · rw [if_neg (lt_asymm k)] at l1
    rw [if_pos k] at l2
    exact no.1 ⟨l1, l2⟩
  · exact h.ne k
  · rw [if_pos k] at l1
    rw [if_neg (lt_asymm k)] at l2
    exact no.2 ⟨l1, l2⟩
theorem ok_covers {f : Addr} {fd : FuncData} (F : Fun K "_law_covers" "_law_covers" sCovers f fd) (c2 : Cal P w K mg base 1 "_law_twice" nLTwice spTwice) (cT : Cal P w K mg base 2 "_law_triangle" nLTwice spTriangle)
    (ms : mg "sorted" = none) (ml : mg "len" = none) (me : mg "set" = none) (mn' : mg "min" = none) (mx' : mg "max" = none) : FnOk P w K mg base CX0 3 f fd ["_law_places_here", "_law_cover"] spCovers := by
  refine F.ok scCovers (fun vs H Q E h => ?_) (fun cdv A outer s H vs Q E hr h => ?_)
  · obtain ⟨a, c, R, N, rfl, _⟩ := h
    rfl
  · obtain ⟨a, c, R, N, rfl, ⟨us, ha, hp⟩, ⟨vs, hc, hq⟩, C, nl, hR, q⟩ := h
    have nd := scCovers.nd
    have r1 := hr.mono (show 1 ≤ 2 by decide)
    refine ⟨_, pss_cons (ps_set (i := 2) nd rfl (.inl rfl) (pe_lst pa_nil))
      (pss_cons (ps_for PassesOwn.never rfl (pi_list (pv 1)) (pg_name (i := 3) nd rfl (Or.inl rfl))
        (pss_cons (ps_if (PW.pt (pw_or (pt_cmpR (op_neL ePl hr.units) (pe_lc (own := [("_law_p", 4)]) (g := gName 4) (by rfl) nd (pi_tup (pv 3)) (blkOk_by (N := nCovers) (sc := defScope sCovers) (by decide +kernel)) (fun _ _ _ _ _ => pg_name (i := 4) nd rfl (Or.inl rfl))
              (fun _ _ _ _ _ => pts_one (pt_cmpR (op_notInL ePl (Room.units65 hr)) (pv 4) (pv 0) (by rfl))) (fun _ _ _ _ _ => pv 4)) (pe_lst pa_nil) (nomark _))
            (pw_or1 (pt_cmpR (op_neE eTr hr.units) (pv 3) (pe_call cT.ok hr (by rfl) cT.g cT.kp cT.b .nil pass0 (pa_cons (pe_ix ix_tup (pv 3) pe_int (fun _ _ => rfl)) (pa_cons (pe_ix ix_tup (pv 3) pe_int (fun _ _ => rfl)) (pa_cons (pe_ix ix_tup (pv 3) pe_int (fun _ _ => rfl)) pa_nil)))) (nomark _)))))
          (pss_one (ps_ret pe_bl)) pss_nil)
        (pss_cons (ps_if (pt_cmpR op_eq (pe_call c2.ok r1 (by rfl) c2.g c2.kp c2.b .nil pass0 (pa_cons (pe_ix ix_tup (pv 3) pe_int (fun _ _ => rfl)) (pa_cons (pe_ix ix_tup (pv 3) pe_int (fun _ _ => rfl)) (pa_cons (pe_ix ix_tup (pv 3) pe_int (fun _ _ => rfl)) pa_nil)))) pe_int (nomark _))
          (pss_one (ps_ret pe_bl)) pss_nil)
        (pss_one (ps_set (i := 2) nd rfl (.inl rfl) (pe_op op_cat (pv 2) (pe_lst (pa_cons (pe_tup (pa_cons (pe_ix ix_tup (pv 3) pe_int (fun _ _ => rfl)) (pa_cons (pe_ix ix_tup (pv 3) pe_int (fun _ _ => rfl)) pa_nil)))
          (pa_cons (pe_tup (pa_cons (pe_ix ix_tup (pv 3) pe_int (fun _ _ => rfl)) (pa_cons (pe_ix ix_tup (pv 3) pe_int (fun _ _ => rfl)) pa_nil))) (pa_cons (pe_tup (pa_cons (pe_ix ix_tup (pv 3) pe_int (fun _ _ => rfl)) (pa_cons (pe_ix ix_tup (pv 3) pe_int (fun _ _ => rfl)) pa_nil))) pa_nil))))))))))
      (pss_cons (ps_for PassesOwn.never rfl (pi_list (pv 2)) (pg_tup rfl (pgs_cons (pg_name (i := 5) nd rfl (.inl rfl)) (pgs_cons (pg_name (i := 6) nd rfl (.inl rfl)) pgs_nil)))
        (pss_one (ps_if (pt_cmpR (op_notInL eSd (Room.units65 hr)) (pe_tup (pa_cons (pv 6) (pa_cons (pv 5) pa_nil))) (pv 2) (by rfl))
          (pss_one (ps_for PassesOwn.never rfl (pi_list (pv 0)) (pg_name (i := 4) nd rfl (Or.inr rfl))
            (pss_cons (ps_set (i := 7) nd rfl (.inl rfl) (pe_call c2.ok r1 (by rfl) c2.g c2.kp c2.b .nil pass0 (pa_cons (pv 5) (pa_cons (pv 6) (pa_cons (pv 4) pa_nil)))))
            (pss_one (ps_if (PW.pt (pw_or (pt_cmpR op_lt (pv 7) pe_int (nomark _)) (pw_or1 (PW.pt (pw_and (pt_cmpR op_eq (pv 7) pe_int (nomark _))
                (pw_and (pt_cmpR (op_ltE ePl hr.units) (pe_callB (cr_min2 rfl hr.units) (by rfl) mn' (by decide +kernel) (pa_cons (pv 5) (pa_cons (pv 6) pa_nil))) (pv 4) (nomark _))
                (pw_and1 (pt_cmpR (op_ltE ePl hr.units) (pv 4) (pe_callB (cr_max2 rfl hr.units) (by rfl) mx' (by decide +kernel) (pa_cons (pv 5) (pa_cons (pv 6) pa_nil))) (nomark _)))))))))
              (pss_one (ps_ret pe_bl)) pss_nil))))) pss_nil)))
      (pss_cons (ps_for PassesOwn.never rfl (pi_list (pv 0)) (pg_name (i := 4) nd rfl (Or.inr rfl))
        (pss_one (ps_if (pt_cmpR (op_eqL eTr hr.units) (pe_lc (own := [("_law_t", 3)]) (g := gName 3) (by rfl) nd (pi_list (pv 1)) (blkOk_by (N := nCovers) (sc := defScope sCovers) (by decide +kernel)) (fun _ _ _ _ _ => pg_name (i := 3) nd rfl (Or.inl rfl))
              (fun _ _ _ _ _ => pts_one (pt_cmpR (op_inT ePl hr.units) (pv 4) (pv 3) (by rfl))) (fun _ _ _ _ _ => pv 3)) (pe_lst pa_nil) (nomark _))
          (pss_one (ps_ret pe_bl)) pss_nil)))
      (pss_one (ps_ret (pe_and (pe_cmpR op_eq (pe_lenSetN rfl hr.units (by rfl) ml (by rfl) me (pv 2)) (pe_callB call_len_seq (by rfl) ml PySem.boot_len (pa_cons (pv 2) pa_nil)) (nomark _))
        (pe_one (pe_cmpR (op_eqL eTr hr.units) (pv 1) (pe_callB (cr_sortE eTr hr.units) (by rfl) ms (by decide +kernel) (pa_cons (pv 1) pa_nil)) (nomark _))))))))), ?_⟩
    have hlen := paired_len' hp
    have hlen2 := paired_len' hq
    have cf := covL_few C hR
    refine ⟨Nat.zero_le _, fun l0 nl0 => ?_⟩
    have s0 := new_same (o := .lst []) nl0
    refine ⟨_, rfl, c, rfl, ⟨_, SqL.of (s0 _ _ hc)⟩, for_list (xs := vs) (fun i σ H3 => ∃ (l : Addr) (y3 y4 y5 y6 y7 : Option V), σ = [some (.ref a), some (.ref c), some (.ref l), y3, y4, y5, y6, y7] ∧ Same H H3 ∧ LsV eSd H3 l (sidesL (N.take i)))
      ⟨l0, none, none, none, none, none, rfl, s0, [], upd_same, .nil⟩ (fun i σ H3 _ ⟨_, _, _, _, _, _, _, sm, _⟩ => SqL.of (sm _ _ hc)) (fun i u σ H3 hu ⟨l, y3, y4, y5, y6, y7, es, sm, hL⟩ => ?_) (fun σ H3 ⟨l, y3, y4, y5, y6, y7, es, sm, hL⟩ => ?_)⟩
    · subst es
      obtain ⟨t, ht, rt⟩ := reps_get hq hu
      have tN := List.mem_of_getElem? ht
      obtain ⟨⟨p1, p2, p3⟩, self, pos⟩ := C.tri tN
      obtain ⟨T, v1, v2, v3, rfl, hT, f1, f2, f3⟩ := TrV.keep rt (Same.tups sm)
      have ha3 := sm _ _ ha
      have hp3 := paired_same (E := ePl) sm hp
      -- its corners are places
      refine ⟨_, rfl, T, rfl, ⟨_, SqT.of hT⟩, fun D nD => ?_⟩
      refine lcF_tup (j := 4) (E := ePl) (xs := cors t) (fun p => !decide (p ∈ R)) (SqT.of hT) (.cons f1 (.cons f2 (.cons f3 .nil))) nD (by simp) ?_ (fun p v H4 Rr _ sm4 hv k => ?_) (fun H4 ws sm4 hw hpw => ?_)
      · exact (by decide : 4 < 8)
      · refine ⟨_, rfl, _, rfl, p, a, R, hv, rfl, ⟨us, sm4 _ _ ha3, paired_same (E := ePl) sm4 hp3⟩, _, rfl, ?_⟩
        have := k H4 (Same.refl H4)
        have e : ∀ {i j : Decidable (p ∈ R)}, (!@decide (p ∈ R) i) = !@decide (p ∈ R) j := fun {i j} => by rw [dE]
        rw [e (j := inferInstance)]
        exact this
      have e0 : (cors t).filter (fun p => !decide (p ∈ R)) = [] := List.filter_eq_nil_iff.mpr fun p hp => by
        unfold cors at hp
        simp only [List.mem_cons, List.not_mem_nil, or_false] at hp
        have : p ∈ R := by rcases hp with rfl | rfl | rfl <;> assumption
        simp [this]
      rw [e0] at hpw
      refine ⟨Nat.zero_le _, fun z nz => ?_⟩
      have s5 := new_same (o := .lst []) nz
      refine ⟨D, z, [], [], rfl, rfl, ⟨ws, s5 _ _ hw, paired_same (E := ePl) s5 hpw⟩, ⟨[], upd_same, .nil⟩, _, rfl, ?_⟩
      rw [dY rfl]
      refine iteF ?_
      have s35 := sm4.trans s5
      have hT5 := s35 _ _ hT
      have g1 := f1.same s35
      have g2 := f2.same s35
      have g3 := f3.same s35
      have hL5 := hL.same s35
      generalize upd H4 z (.lst []) = H5 at s5 s35 hT5 g1 g2 g3 hL5 ⊢
      have x1 := atI_nat (xs := [v1, v2, v3]) (j := 0) (v := v1) rfl
      have x2 := atI_nat (xs := [v1, v2, v3]) (j := 1) (v := v2) rfl
      have x3 := atI_nat (xs := [v1, v2, v3]) (j := 2) (v := v3) rfl
      refine ⟨_, rfl, _, rfl, T, _, 0, v1, rfl, rfl, SqT.of hT5, x1, _, rfl, T, _, 1, v2, rfl, rfl, SqT.of hT5, x2, _, rfl, T, _, 2, v3, rfl, rfl, SqT.of hT5, x3, v1, v2, v3, t.1, t.2.1, t.2.2, rfl, g1, g2, g3, fun H6 w6 s6 h6 => ?_⟩
      rw [self] at h6
      have ht6 : TrV H6 (.ref T) t := ⟨T, v1, v2, v3, rfl, s6 _ _ hT5, g1.same s6, g2.same s6, g3.same s6⟩
      refine ⟨t, t, ht6, h6, _, rfl, ?_⟩
      rw [dY rfl]
      refine iteF ?_
      have hT6 := s6 _ _ hT5
      have k1 := g1.same s6
      have k2 := g2.same s6
      have k3 := g3.same s6
      refine ⟨_, rfl, T, _, 0, v1, rfl, rfl, SqT.of hT6, x1, _, rfl, T, _, 1, v2, rfl, rfl, SqT.of hT6, x2, _, rfl, T, _, 2, v3, rfl, rfl, SqT.of hT6, x3, v1, v2, v3, t.1, t.2.1, t.2.2, rfl, k1, k2, k3, rfl, _, rfl, ?_⟩
      have ez : decide (V.int (tw t.1 t.2.1 t.2.2) = V.int 0) = false := decide_eq_false fun z => by have := V.int.inj z; omega
      rw [ez]
      refine iteF ?_
      have s36 := s35.trans s6
      obtain ⟨ls, hl6, hpl6⟩ := hL5.same s6
      refine ⟨_, rfl, _, rfl, T, _, 0, v1, rfl, rfl, SqT.of hT6, x1, _, rfl, T, _, 1, v2, rfl, rfl, SqT.of hT6, x2, by show 2 ≤ sizeLine; decide, fun q1 n1 => ?_⟩
      have t1 := new_same (o := .tup [v1, v2]) n1
      refine ⟨_, rfl, T, _, 1, v2, rfl, rfl, SqT.of (t1 _ _ hT6), x2, _, rfl, T, _, 2, v3, rfl, rfl, SqT.of (t1 _ _ hT6), x3, by show 2 ≤ sizeLine; decide, fun q2 n2 => ?_⟩
      have t2 := new_same (o := .tup [v2, v3]) n2
      have t12 := t1.trans t2
      refine ⟨_, rfl, T, _, 2, v3, rfl, rfl, SqT.of (t12 _ _ hT6), x3, _, rfl, T, _, 0, v1, rfl, rfl, SqT.of (t12 _ _ hT6), x1, by show 2 ≤ sizeLine; decide, fun q3 n3 => ?_⟩
      have t3 := new_same (o := .tup [v3, v1]) n3
      have t13 := t12.trans t3
      refine ⟨by show 3 ≤ sizeLine; decide, fun q4 n4 => ?_⟩
      have t4 := new_same (o := .lst [.ref q1, .ref q2, .ref q3]) n4
      have t14 := t13.trans t4
      refine ⟨l, q4, ls, _, rfl, rfl, t14 _ _ hl6, upd_same, ?_, fun q5 n5 => ?_⟩
      · have h1 := paired_len' hpl6
        have h2 := sides_len (N.take i)
        rw [List.length_take] at h2
        exact small' (by simp only [List.length_cons, List.length_nil]; omega)
      have t5 := new_same (o := .lst (ls ++ [.ref q1, .ref q2, .ref q3])) n5
      refine ⟨q5, _, _, _, _, _, rfl, ((sm.trans s36).trans t14).trans t5, _, upd_same, ?_⟩
      rw [sidesL_take ht]
      refine paired_app (.cons ?_ (.cons ?_ (.cons ?_ .nil))) (paired_same (E := eSd) (t14.trans t5) hpl6)
      · exact (sd_new n1 k1 k2).keep (Same.tups (((t2.trans t3).trans t4).trans t5))
      · exact (sd_new n2 (k2.same t1) (k3.same t1)).keep (Same.tups ((t3.trans t4).trans t5))
      · exact (sd_new n3 (k3.same t12) (k1.same t12)).keep (Same.tups (t4.trans t5))
    · subst es
      rw [hlen2, List.take_length] at hL
      obtain ⟨ls, hl3, hpl3⟩ := id hL
      -- the sides without a back
      refine ⟨_, rfl, l, rfl, ⟨_, SqL.of hl3⟩, for_list (xs := ls) (fun i σ H4 => ∃ (y3 y4 y5 y6 y7 : Option V), σ = [some (.ref a), some (.ref c), some (.ref l), y3, y4, y5, y6, y7] ∧ Same H3 H4)
        ⟨y3, y4, y5, y6, y7, rfl, Same.refl H3⟩ (fun i σ H4 _ ⟨_, _, _, _, _, _, sm4⟩ => SqL.of (sm4 _ _ hl3)) (fun i u σ H4 hu ⟨y3, y4, y5, y6, y7, es, sm4⟩ => ?_) (fun σ H4 ⟨y3, y4, y5, y6, y7, es, sm4⟩ => ?_)⟩
      · subst es
        obtain ⟨sd, hsd, rsd⟩ := reps_get hpl3 hu
        have sdm := List.mem_of_getElem? hsd
        obtain ⟨T, va, vb, rfl, hT, ra, rb⟩ := SdV.keep rsd (Same.tups sm4)
        refine ⟨T, [va, vb], rfl, SqT.of hT, rfl, va, _, rfl, vb, [], rfl, rfl, ?_⟩
        refine ⟨_, rfl, _, rfl, by show 2 ≤ sizeLine; decide, fun q1 n1 => ?_⟩
        have t1 := new_same (o := .tup [vb, va]) n1
        refine ⟨_, rfl, (sd.2, sd.1), l, sidesL N, sd_new n1 rb ra, rfl, hL.same (sm4.trans t1), _, rfl, ite2 (fun e => ?_) (fun e => ⟨_, _, _, _, _, rfl, sm4.trans t1⟩)⟩
        have nm : (sd.2, sd.1) ∉ sidesL N := by simpa using e
        have he : HE (· ∈ R) sd.1 sd.2 := C.rim sdm nm
        have s4 := sm.trans (sm4.trans t1)
        have ra1 := ra.same t1
        have rb1 := rb.same t1
        have sm5 := sm4.trans t1
        generalize upd H4 q1 (.tup [vb, va]) = H5 at s4 ra1 rb1 sm5 ⊢
        refine ⟨_, rfl, a, rfl, ⟨_, SqL.of (s4 _ _ ha)⟩, for_list (xs := us) (fun i σ H6 => H6 = H5 ∧ ∃ (y4 y7 : Option V), σ = [some (.ref a), some (.ref c), some (.ref l), y3, y4, some va, some vb, y7])
          ⟨rfl, y4, y7, rfl⟩ (fun i σ H6 _ ⟨e, _⟩ => by rw [e]; exact SqL.of (s4 _ _ ha)) (fun i v σ H6 hv ⟨eH, y4, y7, es⟩ => ?_) (fun σ H6 ⟨eH, y4, y7, es⟩ => ?_)⟩
        · subst es eH
          obtain ⟨p, hpg, rp⟩ := reps_get hp hv
          have pR := List.mem_of_getElem? hpg
          have rp5 : PlV H6 v p := PlV.same rp s4
          have left := he.left p pR
          refine ⟨_, rfl, _, rfl, _, rfl, va, vb, v, sd.1, sd.2, p, rfl, ra1, rb1, rp5, ?_⟩
          refine ⟨_, rfl, _, _, rfl, rfl, _, rfl, ite2 (fun k => absurd (NW.dT k) (by omega)) (fun _ => ?_)⟩
          refine ⟨_, rfl, rfl, _, rfl, ite2 (fun k => ?_) (fun k => ⟨rfl, _, _, rfl⟩)⟩
          have z := V.int.inj (NW.dT k)
          refine ⟨_, rfl, _, rfl, va, vb, sd.1, sd.2, rfl, ra1, rb1, fun zz _ hz => ⟨_, rfl, _, p, hz, rp5, _, rfl, ite2 (fun k2 => ?_) (fun k2 => ⟨rfl, _, _, rfl⟩)⟩⟩
          refine ⟨_, rfl, _, rfl, _, rfl, va, vb, sd.1, sd.2, rfl, ra1, rb1, fun zz2 _ hz2 => ⟨p, _, rp5, hz2, _, rfl, ite2 (fun k3 => ?_) (fun k3 => ⟨rfl, _, _, rfl⟩)⟩⟩
          exact (he_between he pR z (NW.dT k2) (NW.dT k3)).elim
        · subst es eH
          exact ⟨_, _, _, _, _, rfl, sm5⟩
      · subst es
        -- each place is a corner
        have s4 := sm.trans sm4
        refine ⟨_, rfl, a, rfl, ⟨_, SqL.of (s4 _ _ ha)⟩, for_list (xs := us) (fun i σ H5 => ∃ (y3 y4 : Option V), σ = [some (.ref a), some (.ref c), some (.ref l), y3, y4, y5, y6, y7] ∧ Same H4 H5)
          ⟨y3, y4, rfl, Same.refl H4⟩ (fun i σ H5 _ ⟨_, _, _, sm5⟩ => SqL.of (sm5 _ _ (s4 _ _ ha))) (fun i v σ H5 hv ⟨y3, y4, es, sm5⟩ => ?_) (fun σ H5 ⟨y3, y4, es, sm5⟩ => ?_)⟩
        · subst es
          obtain ⟨p, hpg, rp⟩ := reps_get hp hv
          have pR := List.mem_of_getElem? hpg
          have s5 := s4.trans sm5
          have rp5 : PlV H5 v p := PlV.same rp s5
          have hc5 := s5 _ _ hc
          have hq5 := paired_same (E := eTr) s5 hq
          refine ⟨_, rfl, c, rfl, ⟨_, SqL.of hc5⟩, fun D nD => ?_⟩
          refine lcF_list (j := 3) (E := eTr) (xs := N) (fun t => decide (p ∈ cors t)) (SqL.of hc5) hq5 nD (by omega) ?_ (fun t x H6 Rr _ sm6 hx k => ?_) (fun H6 ws sm6 hw hpw => ?_)
          · exact (by decide : 3 < 8)
          · obtain ⟨T, ts, rfl, hT, hts, _⟩ := tr_cors hx
            refine ⟨_, rfl, _, rfl, p, T, ts, cors t, PlV.same rp5 sm6, rfl, hT, hts, _, rfl, ?_⟩
            have := k H6 (Same.refl H6)
            rw [dE]
            exact this
          · refine ⟨Nat.zero_le _, fun z nz => ?_⟩
            have s7 := new_same (o := .lst []) nz
            refine ⟨D, z, _, [], rfl, rfl, ⟨ws, s7 _ _ hw, paired_same (E := eTr) s7 hpw⟩, ⟨[], upd_same, .nil⟩, _, rfl, ite2 (fun e => ?_) (fun e => ⟨_, _, rfl, (sm5.trans sm6).trans s7⟩)⟩
            obtain ⟨t, tN, tp⟩ := C.corner nl pR
            have e := List.filter_eq_nil_iff.mp (NW.dT e) t tN
            exact (e (decide_eq_true tp)).elim
        · subst es
          have s5 := s4.trans sm5
          have hL5 := hL.same (sm4.trans sm5)
          have few := C.sides_few
          have h16 : R.length * R.length ≤ 16 * 16 := Nat.mul_le_mul hR hR
          obtain ⟨ks, hk5, hpk⟩ := id hL5
          refine ⟨_, rfl, l, sidesL N, rfl, hL5, C.sides_nd, by omega, _, rfl, l, ks, rfl, .inl (SqL.of hk5), rfl, _, rfl, ?_⟩
          have el : ks.length = (sidesL N).length := paired_len' hpk
          rw [el, dY rfl]
          refine iteT ?_
          refine ⟨_, rfl, _, rfl, c, N, rfl, ⟨vs, s5 _ _ hc, paired_same (E := eTr) s5 hq⟩, fun z wz nz hz => ?_⟩
          have s8 := new_same (o := .lst wz) nz
          rw [srt_eTr, show srtT N = N from srtBy_self ltT ltT_irrefl ltT_trans ltT_total C.up] at hz
          refine ⟨c, z, N, N, rfl, rfl, ⟨vs, s8 _ _ (s5 _ _ hc), paired_same (E := eTr) s8 (paired_same (E := eTr) s5 hq)⟩, ⟨wz, upd_same, paired_same (E := eTr) s8 hz⟩, ?_⟩
          rw [dY rfl]
          exact q _ (s5.trans s8)
end
end NW

/-! law. -/
namespace NW
open PySem PySem.Spec PyProof.Rows L2 NK
abbrev sLaw : Stmt := topS 46
theorem netL_congr {R S : List Pl} (h : ∀ q, q ∈ R ↔ q ∈ S) {N : List Tri} (C : NetL R N) : NetL S N := by
  have e : (· ∈ R) = (· ∈ S) := funext fun q => propext (h q)
  have k := C.kov
  refine { kov := { toCov0 := by rw [← e]; exact k.toCov0, cor := fun nl p hp => k.cor (by rw [e]; exact nl) ((h p).mpr hp) }, up := C.up, first := C.first, loc := C.loc }
theorem cut_ints (ns : List Int) (lo hi : Option Int) : ∃ ts : List Int, cutV (ns.map V.int) lo hi = ts.map V.int := by
  unfold cutV
  exact ⟨(ns.drop (HT.sIx (ns.map V.int).length 0 lo)).take (HT.sIx (ns.map V.int).length (ns.map V.int).length hi - HT.sIx (ns.map V.int).length 0 lo), by rw [List.map_take, List.map_drop]⟩
section
variable {P : Program} {w : World} {K : PySem.W.Frag} {mg : Str → Option Value} {base : Heap}
abbrev nLaw : List Str := ["_law_script", "_law_many_here", "_law_places_here", "_law_turns", "_law_k", "_law_handed", "_law_net", "_law_cover", "_law_kept", "_law_told"]
theorem scLaw : FnScope nLaw ["_law_script"] (defScope sLaw) := ⟨rfl, rfl, rfl, by decide +kernel, rfl, by decide +kernel, by decide +kernel⟩
def spLaw (K : PySem.W.Frag) : Sp := fun vs H Q _ => ∃ (a : Addr) (ns : List Int), vs = [.ref a] ∧ SqL K H a (ns.map V.int) ∧ ns.length ≤ 63 ∧ (∀ z ∈ ns, Big z) ∧ ∀ H', Q (.bl true) H'
def tDig (K : PySem.W.Frag) : TS := fun D σ H => ∃ (a lp lt : Addr) (ns : List Int) (m : Int) (xs : List Pl) (ts : List Int), σ = [some (.ref a), some (.int m), some (.ref lp), some (.ref lt), none, none, none, none, none, none] ∧ SqL K H a (ns.map V.int) ∧ ns.length ≤ 1000 ∧ (∀ z ∈ ns, Big z) ∧
  LsV ePl H lp xs ∧ xs.Nodup ∧ xs.length ≤ 16 ∧ H lt = some (.lst (ts.map V.int)) ∧ ∀ (lp' lt' : Addr) (y4 : Option V) (H' : Hp) (xs' : List Pl) (ts' : List Int), Same H H' → LsV ePl H' lp' xs' → xs'.Nodup → xs'.length ≤ 16 → H' lt' = some (.lst (ts'.map V.int)) →
    D.nx [some (.ref a), some (.int m), some (.ref lp'), some (.ref lt'), y4, none, none, none, none, none] H'
theorem ok_law {f : Addr} {fd : FuncData} (F : Fun K "law" "law" sLaw f fd) (cA : Cal P w K mg base 1 "_law_at" nAt (spAt K)) (cM : Cal P w K mg base 1 "_law_many" nMany spMany) (cP : Cal P w K mg base 2 "_law_places" ["_law_script", "_law_most"] (spPlaces K))
    (cD : Cal P w K mg base 1 "_law_dug" ["_law_cell"] spDug) (cR : Cal P w K mg base 1 "_law_row" ["_law_cell", "_law_most", "_law_by"] spRow) (cB : Cal P w K mg base 7 "by_turning" ["places"] spByTurning)
    (cW : Cal P w K mg base 3 "_law_rows" ["_law_found", "_law_due", "_law_many_here"] spRows) (cL : Cal P w K mg base 2 "_law_in_line" ["_law_places_here"] spInLine) (cC : Cal P w K mg base 3 "_law_covers" ["_law_places_here", "_law_cover"] spCovers)
    (cN : Cal P w K mg base 3 "_law_clean" ["_law_places_here", "_law_cover"] spClean) (cS : Cal P w K mg base 4 "_law_shaken" ["_law_cover", "_law_cells"] (spShaken K)) (cE : Cal P w K mg base 6 "swept" ["places"] spSwept) (cT : Cal P w K mg base 6 "turnings" ["cover"] spTurnings)
    (ml : mg "list" = none) (mr : mg "range" = none) (mi : mg "isinstance" = none) (mv : mg "reversed" = none) : FnOk P w K mg base CX0 8 f fd ["_law_script"] (spLaw K) := by
  refine F.ok scLaw (fun vs H Q E h => ?_) (fun cdv A outer s H vs Q E hr h => ?_)
  · obtain ⟨a, ns, rfl, _⟩ := h
    rfl
  · obtain ⟨a, ns, rfl, hA, hlen, hb, q⟩ := h
    have nd := scLaw.nd
    have r1 := hr.mono (show 1 ≤ 7 by decide)
    have r2 := hr.mono (show 2 ≤ 7 by decide)
    have r3 := hr.mono (show 3 ≤ 7 by decide)
    have r4 := hr.mono (show 4 ≤ 7 by decide)
    have r6 := hr.mono (show 6 ≤ 7 by decide)
    refine ⟨_, pss_cons (ps_set (i := 1) nd rfl (.inl rfl) (pe_call cM.ok r1 (by rfl) cM.g cM.kp cM.b .nil pass0 (pa_cons (pe_call cA.ok r1 (by rfl) cA.g cA.kp cA.b .nil pass0 (pa_cons (pv 0) (pa_cons pe_int pa_nil))) pa_nil)))
      (pss_cons (ps_set (i := 2) nd rfl (.inl rfl) (pe_call cP.ok r2 (by rfl) cP.g cP.kp cP.b .nil pass0 (pa_cons (pv 0) (pa_cons (pv 1) pa_nil))))
      (pss_cons (ps_set (i := 3) nd rfl (.inl rfl) (pe_slice sl_list (pv 0) (po_some (pe_op op_add pe_int (pv 1))) (po_some (pe_op op_add pe_int (pv 1)))))
      (pss_cons (ps_weak (t' := tDig K) (ps_if (pt_cmpR op_eq (pe_op op_mod (pe_op op_fdiv (pe_call cA.ok r1 (by rfl) cA.g cA.kp cA.b .nil pass0 (pa_cons (pv 0) (pa_cons pe_int pa_nil))) pe_int) pe_int) pe_int (nomark _))
        (pss_cons (ps_set (i := 2) nd rfl (.inl rfl) (pe_call cD.ok r1 (by rfl) cD.g cD.kp cD.b .nil pass0 (pa_cons (pe_call cA.ok r1 (by rfl) cA.g cA.kp cA.b .nil pass0 (pa_cons (pv 0) (pa_cons pe_int pa_nil))) pa_nil)))
        (pss_cons (ps_set (i := 3) nd rfl (.inl rfl) (pe_lst pa_nil))
        (pss_one (ps_for PassesOwn.never rfl (pi_range2 (by rfl) mr (pa_cons pe_int (pa_cons pe_int pa_nil))) (pg_name (i := 4) nd rfl (Or.inl rfl))
          (pss_one (ps_set (i := 3) nd rfl (.inl rfl) (pe_op op_cat (pv 3) (pe_call cR.ok r1 (by rfl) cR.g cR.kp cR.b .nil pass0 (pa_cons (pe_call cA.ok r1 (by rfl) cA.g cA.kp cA.b .nil pass0 (pa_cons (pv 0) (pa_cons (pv 4) pa_nil))) (pa_cons pe_int (pa_cons pe_int pa_nil)))))))))))
        pss_nil) ?_)
      (pss_cons (ps_set (i := 5) nd rfl (.inl rfl) (pe_callTy call_list_of (by rfl) ml (by decide +kernel) (pa_cons (pv 2) pa_nil)))
      (pss_cons (ps_set (i := 6) nd rfl (.inl rfl) (pe_call cB.ok hr (by rfl) cB.g cB.kp cB.b .nil pass0 (pa_cons (pv 5) pa_nil)))
      (pss_cons (ps_if (PW.pt (pw_or (pt_cmpR (op_neL ePl hr.units) (pv 5) (pv 2) (nomark _)) (pw_or (pt_not (pt_val (pe_callB call_isi (by rfl) mi (by decide +kernel) (pa_cons (pv 6) (pa_cons (pe_bltn (v := .ty "list") (by rfl) ml (by decide +kernel) rfl) pa_nil)))))
          (pw_or1 (pt_not (pt_val (pe_call cW.ok r3 (by rfl) cW.g cW.kp cW.b .nil pass0 (pa_cons (pv 6) (pa_cons (pe_callTy call_list_of (by rfl) ml (by decide +kernel) (pa_cons (pv 6) pa_nil)) (pa_cons pe_int pa_nil))))))))))
        (pss_one (ps_ret pe_bl)) pss_nil)
      (pss_cons (ps_if (pt_val (pe_call cL.ok r2 (by rfl) cL.g cL.kp cL.b .nil pass0 (pa_cons (pv 2) pa_nil))) (pss_one (ps_ret (pe_cmpR (op_eqL eTr hr.units) (pv 6) (pe_lst pa_nil) (nomark _)))) pss_nil)
      (pss_cons (ps_if (PW.pt (pw_or (pt_not (pt_val (pe_call cC.ok r3 (by rfl) cC.g cC.kp cC.b .nil pass0 (pa_cons (pv 2) (pa_cons (pv 6) pa_nil))))) (pw_or1 (pt_not (pt_val (pe_call cN.ok r3 (by rfl) cN.g cN.kp cN.b .nil pass0 (pa_cons (pv 2) (pa_cons (pv 6) pa_nil))))))))
        (pss_one (ps_ret pe_bl)) pss_nil)
      (pss_cons (ps_set (i := 7) nd rfl (.inl rfl) (pe_call cS.ok r4 (by rfl) cS.g cS.kp cS.b .nil pass0 (pa_cons (pe_call cE.ok r6 (by rfl) cE.g cE.kp cE.b .nil pass0 (pa_cons (pe_callTy call_list_of (by rfl) ml (by decide +kernel) (pa_cons (pv 2) pa_nil)) pa_nil)) (pa_cons (pv 3) pa_nil))))
      (pss_cons (ps_set (i := 8) nd rfl (.inl rfl) (pe_callTy call_list_of (by rfl) ml (by decide +kernel) (pa_cons (pv 7) pa_nil)))
      (pss_cons (ps_set (i := 9) nd rfl (.inl rfl) (pe_call cT.ok r6 (by rfl) cT.g cT.kp cT.b .nil pass0 (pa_cons (pv 7) pa_nil)))
      (pss_one (ps_ret (pe_and (pe_cmpR (op_eqL eTr hr.units) (pe_ix ix_tup (pv 9) pe_int (fun _ _ => rfl)) (pv 6) (nomark _)) (pe_and (pe_cmpR (op_eqL eTr hr.units) (pv 7) (pv 8) (nomark _))
        (pe_one (pe_cmpR (op_eqL eTr hr.units) (pe_call cB.ok hr (by rfl) cB.g cB.kp cB.b .nil pass0 (pa_cons (pe_listRev rfl (by rfl) ml (by rfl) mv (pv 2)) pa_nil)) (pv 6) (nomark _)))))))))))))))))), ?_⟩
    · rintro D σ H ⟨a, lp, lt, ns, m, xs, ts, rfl, hA, hlen, hb, hP, hn, h16, ht, k⟩
      refine ⟨_, rfl, a, ns, 1, rfl, hA, hlen, fun H1 s1 => ⟨_, _, rfl, rfl, ⟨by decide, by decide⟩, _, _, rfl, rfl, (by show (0 : Int) < 2; decide), rfl, _, rfl, ite2 (fun _ => ?_) (fun _ => ?_)⟩⟩
      · refine ⟨_, rfl, a, ns, 2, rfl, s1.seq hA, hlen, fun H2 s2 => ⟨_, rfl, at_big hb 2, fun H3 l xs' s3 _ hP' hn' h16' => ?_⟩⟩
        have s13 := (s1.trans s2).trans s3
        refine ⟨Nat.zero_le _, fun l0 nl0 => ?_⟩
        have s4 := new_same (o := .lst []) nl0
        refine ⟨_, _, rfl, ⟨by decide, by decide, by decide, by decide⟩, ?_⟩
        refine for_range (lo := 3) (n := 4) (fun i σ H5 => ∃ (lt' : Addr) (y4 : Option V) (ts' : List Int), σ = [some (.ref a), some (.int m), some (.ref l), some (.ref lt'), y4, none, none, none, none, none] ∧ Same H3 H5 ∧ H5 lt' = some (.lst (ts'.map V.int)) ∧ ts'.length ≤ 60 * i)
          ⟨l0, none, [], rfl, s4, upd_same, Nat.zero_le _⟩ (fun i σ H5 hi ⟨lt', y4, ts', es, sm, hl, hlen'⟩ => ?_) (fun σ H5 ⟨lt', y4, ts', es, sm, hl, hlen'⟩ => ?_)
        · subst es
          refine ⟨_, rfl, _, rfl, _, rfl, a, ns, 3 + i, by rw [show ((3 + i : Nat) : Int) = 3 + (i : Int) by omega]; rfl, (s13.trans sm).seq hA, hlen, fun H6 s6 => ⟨_, rfl, at_big hb _, fun H7 l2 ms s7 _ hl2 hms _ => ?_⟩⟩
          have s67 := s6.trans s7
          refine ⟨lt', l2, _, _, rfl, rfl, s67 _ _ hl, hl2, small' (by rw [List.length_map, List.length_map]; omega), fun p np => ?_⟩
          refine ⟨p, some (.int (3 + (i : Int))), ts' ++ ms, rfl, (sm.trans s67).trans (new_same np), by rw [upd_same, List.map_append], by rw [List.length_append]; omega⟩
        · subst es
          exact k l lt' y4 H5 xs' ts' (s13.trans sm) (hP'.same sm) hn' h16' hl
      · exact k lp lt none H1 xs ts s1 (hP.same s1) hn h16 (s1 _ _ ht)
    refine ⟨_, rfl, a, ns, 1, rfl, hA, by omega, fun H1 s1 => ⟨_, rfl, fun H2 m s2 hm => ?_⟩⟩
    have s12 := s1.trans s2
    refine ⟨_, rfl, _, rfl, a, ns, m, rfl, s12.seq hA, by omega, hb, hm, fun H3 lp xs s3 _ hP hn h16 => ?_⟩
    have s13 := s12.trans s3
    refine ⟨_, rfl, _, rfl, _, _, rfl, rfl, _, rfl, _, rfl, _, _, rfl, rfl, _, rfl, a, _, rfl, s13.seq hA, fun lt nlt => ?_⟩
    obtain ⟨ts, hts⟩ := cut_ints ns (some (3 + (m : Int))) (some (63 + (m : Int)))
    rw [hts]
    have s4 := new_same (o := .lst (ts.map V.int)) nlt
    refine ⟨a, lp, lt, ns, m, xs, ts, rfl, (s13.trans s4).seq hA, by omega, hb, hP.same s4, hn, h16, upd_same, fun lp lt y4 H5 R ts s5 hP hn h16 ht => ?_⟩
    clear s4 hts s13 s12 s3 s2 s1
    obtain ⟨us, hus, hpu⟩ := id hP
    -- handed
    refine ⟨_, rfl, lp, us, rfl, .inl (SqL.of hus), fun hd nhd => ?_⟩
    have k1 := new_same (o := .lst us) nhd
    have hP1 := hP.same k1
    have hH1 : LsV ePl (upd H5 hd (.lst us)) hd R := ⟨us, upd_same, paired_same (E := ePl) k1 hpu⟩
    have ht1 := k1 _ _ ht
    generalize upd H5 hd (.lst us) = H6 at hP1 hH1 ht1 ⊢
    refine ⟨_, rfl, hd, R, rfl, hH1, hn, h16, fun H7 n N s7 hN net => ?_⟩
    have hP7 := hP1.same s7
    have hH7 := hH1.same s7
    have ht7 := s7 _ _ ht1
    have cf := covL_few net.toCovL h16
    refine ⟨_, rfl, _, rfl, hd, lp, R, R, rfl, rfl, hH7, hP7, _, rfl, ?_⟩
    rw [dY rfl]
    refine iteF ?_
    obtain ⟨ws, hws, hpw⟩ := id hN
    refine ⟨_, rfl, _, _, _, _, true, rfl, .ty "list", .base (.lst hws), kit_ty (by decide +kernel), true, rfl, iteF ?_⟩
    refine ⟨_, rfl, _, rfl, n, ws, rfl, .inl (SqL.of hws), fun n2 nn2 => ?_⟩
    have k2 := new_same (o := .lst ws) nn2
    refine ⟨n, n2, N, rfl, hN.same k2, ⟨ws, upd_same, paired_same (E := eTr) k2 hpw⟩, by omega, true, rfl, iteF ?_⟩
    have hP8 := hP7.same k2
    have hN8 := hN.same k2
    have ht8 := k2 _ _ ht7
    generalize upd H7 n2 (.lst ws) = H8 at hP8 hN8 ht8 ⊢
    -- in line
    refine ⟨_, rfl, lp, R, rfl, hP8, hn, h16, fun H9 b s9 hb1 hb2 => ⟨b, rfl, ?_⟩⟩
    have hP9 := hP8.same s9
    have hN9 := hN8.same s9
    have ht9 := s9 _ _ ht8
    cases b with
    | true =>
      refine iteT ?_
      have e : N = [] := net.toCovL.lin (hb1 rfl)
      refine ⟨_, rfl, Nat.zero_le _, fun z nz => ⟨n, z, N, [], rfl, rfl, hN9.same (new_same nz), ⟨[], upd_same, .nil⟩, ?_⟩⟩
      rw [dY e]
      exact q _
    | false =>
      refine iteF ?_
      have nl := hb2 rfl
      refine ⟨_, rfl, _, rfl, lp, n, R, N, rfl, hP9, hN9, net.toCovL, nl, h16, fun H10 s10 => ⟨true, rfl, iteF ?_⟩⟩
      refine ⟨_, rfl, _, rfl, lp, n, R, N, rfl, hP9.same s10, hN9.same s10, net, fun H11 s11 => ⟨true, rfl, iteF ?_⟩⟩
      have s911 := s10.trans s11
      have hPa := hP9.same s911
      have hNa := hN9.same s911
      have hta := s911 _ _ ht9
      obtain ⟨vs, hvs, hpv⟩ := id hPa
      -- shaken
      refine ⟨_, rfl, lp, vs, rfl, .inl (SqL.of hvs), fun c1 nc1 => ?_⟩
      have k3 := new_same (o := .lst vs) nc1
      refine ⟨c1, R, rfl, ⟨vs, upd_same, paired_same (E := ePl) k3 hpv⟩, h16, fun H12 l2 s12 _ hl2 => ?_⟩
      have k4 := k3.trans s12
      refine ⟨_, rfl, l2, lt, sweptP R, ts, R, rfl, hl2, swept_covL hn, h16, SqL.of (k4 _ _ hta), fun H13 cv M s13 hM CM => ?_⟩
      have k5 := k4.trans s13
      have hPb := hPa.same k5
      have hNb := hNa.same k5
      obtain ⟨ms, hms, hpm⟩ := id hM
      refine ⟨_, rfl, cv, ms, rfl, .inl (SqL.of hms), fun kp nkp => ?_⟩
      have k6 := new_same (o := .lst ms) nkp
      have hPc := hPb.same k6
      have hNc := hNb.same k6
      have hMc := hM.same k6
      have hKc : LsV eTr (upd H13 kp (.lst ms)) kp M := ⟨ms, upd_same, paired_same (E := eTr) k6 hpm⟩
      generalize upd H13 kp (.lst ms) = H14 at hPc hNc hMc hKc ⊢
      refine ⟨_, rfl, cv, M, R, rfl, hMc, CM, h16, fun H15 T x n3 N3 s15 hT hN3 net3 => ?_⟩
      have e3 : N3 = N := net3.one net
      subst e3
      refine ⟨_, rfl, T, _, 1, .ref n3, rfl, rfl, SqT.of hT, atI_nat (j := 1) rfl, _, rfl, n3, n, N3, N3, rfl, rfl, hN3, hNc.same s15, _, rfl, ?_⟩
      rw [dY rfl]
      refine iteT ?_
      refine ⟨_, rfl, _, rfl, cv, kp, M, M, rfl, rfl, hMc.same s15, hKc.same s15, _, rfl, ?_⟩
      rw [dY rfl]
      refine iteT ?_
      obtain ⟨zs, hzs, hpz⟩ := hPc.same s15
      refine ⟨_, rfl, lp, zs, rfl, SqL.of hzs, fun rv nrv => ?_⟩
      have k7 := new_same (o := .lst zs.reverse) nrv
      refine ⟨rv, R.reverse, rfl, ⟨zs.reverse, upd_same, paired_same (E := ePl) k7 (paired_rev hpz)⟩, nodup_rev hn, by rw [List.length_reverse]; exact h16, fun H16 n4 N4 s16 hN4 net4 => ?_⟩
      have e4 : N4 = N3 := (netL_congr (fun q => List.mem_reverse) net4).one net
      subst e4
      refine ⟨_, rfl, n4, n, N4, N4, rfl, rfl, hN4, ((hNc.same s15).same k7).same s16, ?_⟩
      rw [dY rfl]
      exact q _
end
end NW

/-! The end: which def stands where; the law. -/
namespace NW
open PySem PySem.Spec PyProof.Rows L2 NK
/-- a def of the top, where it stands -/
structure DefAt (K : PySem.W.Frag) (x : Str) (st : Stmt) where
  f : Addr
  od : Option Addr
  an : Option Addr
  sl : Array (Option Value)
  oc : Value
  kV : Value
  dc : Value
  pm : Value
  cd : Value
  ct : Value
  a : PySem.W.nsIn K mainGlobals x = some (some (.ref f))
  l : K.lookup f = some ⟨oc, od, .func (PySem.W.fnOf x x (defArgs st) (defBody st) (defScope st) .none kV dc pm an cd ct), sl⟩
  c : PySem.W.codeIn K cd x = true
  k : PySem.W.keepIn K (.ref f) = true
def mkD {K : PySem.W.Frag} {x : Str} {st : Stmt} {f : Addr} {od an : Option Addr} {sl : Array (Option Value)} {oc kV dc pm cd ct : Value} (a : PySem.W.nsIn K mainGlobals x = some (some (.ref f)))
    (l : K.lookup f = some ⟨oc, od, .func (PySem.W.fnOf x x (defArgs st) (defBody st) (defScope st) .none kV dc pm an cd ct), sl⟩) (c : PySem.W.codeIn K cd x = true) (k : PySem.W.keepIn K (.ref f) = true) : DefAt K x st := ⟨f, od, an, sl, oc, kV, dc, pm, cd, ct, a, l, c, k⟩
abbrev DefAt.fd {K : PySem.W.Frag} {x : Str} {st : Stmt} (D : DefAt K x st) : FuncData := PySem.W.fnOf x x (defArgs st) (defBody st) (defScope st) .none D.kV D.dc D.pm D.an D.cd D.ct
theorem DefAt.fn {K : PySem.W.Frag} {x : Str} {st : Stmt} (D : DefAt K x st) : Fun K x x st D.f D.fd := fun_mk (st := st) D.l D.c D.k
theorem all_mk {l : PySem.W.OpenLaw} {w : World} {K : PySem.W.Frag} {h : Heap} {mg : Str → Option Value} {fa : Addr} (X : K.In h) (G : h.Ns mainGlobals mg) (hfa : mg "law" = some (.ref fa))
    (D4 : DefAt K "twice" sTwice)
    (D5 : DefAt K "sign_of" sSign)
    (D6 : DefAt K "turn" sTurn)
    (D8 : DefAt K "height" sHeight)
    (D9 : DefAt K "ring" sRing)
    (D10 : DefAt K "spoils" sSpoils)
    (D12 : DefAt K "thread" sThread)
    (D13 : DefAt K "outline" sOutline)
    (D14 : DefAt K "rim" sRim)
    (D16 : DefAt K "laid" sLaid)
    (D17 : DefAt K "swept" sSwept)
    (D19 : DefAt K "far_corners" sFar)
    (D20 : DefAt K "cover_of" sCoverOf)
    (D21 : DefAt K "in_order" sInOrder)
    (D22 : DefAt K "has_two" sHasTwo)
    (D23 : DefAt K "is_wrong" sIsWrong)
    (D24 : DefAt K "cut_over" sCutOver)
    (D25 : DefAt K "turnings" sTurnings)
    (D26 : DefAt K "by_turning" sByTurning)
    (D28 : DefAt K "_law_at" sAt)
    (D29 : DefAt K "_law_spot" sSpot)
    (D30 : DefAt K "_law_many" sMany)
    (D31 : DefAt K "_law_places" sPlaces)
    (D32 : DefAt K "_law_dug" sDug)
    (D33 : DefAt K "_law_row" sRow)
    (D34 : DefAt K "_law_twice" sLTwice)
    (D35 : DefAt K "_law_triangle" sTriangle)
    (D36 : DefAt K "_law_int" sInt)
    (D37 : DefAt K "_law_places_of" sPlacesOf)
    (D38 : DefAt K "_law_rows" sRows)
    (D39 : DefAt K "_law_flipped" sFlipped)
    (D40 : DefAt K "_law_pick" sPick)
    (D41 : DefAt K "_law_shaken" sShaken)
    (D42 : DefAt K "_law_spoils" sLSpoils)
    (D43 : DefAt K "_law_in_line" sInLine)
    (D44 : DefAt K "_law_covers" sCovers)
    (D45 : DefAt K "_law_clean" sClean)
    (D46 : DefAt K "law" sLaw)
    (ymin : PySem.W.nsIn K mainGlobals "min" = some none)
    (ymax : PySem.W.nsIn K mainGlobals "max" = some none)
    (ylen : PySem.W.nsIn K mainGlobals "len" = some none)
    (ysorted : PySem.W.nsIn K mainGlobals "sorted" = some none)
    (ylist : PySem.W.nsIn K mainGlobals "list" = some none)
    (yreversed : PySem.W.nsIn K mainGlobals "reversed" = some none)
    (yrange : PySem.W.nsIn K mainGlobals "range" = some none)
    (yint : PySem.W.nsIn K mainGlobals "int" = some none)
    (yisinstance : PySem.W.nsIn K mainGlobals "isinstance" = some none)
    (ytuple : PySem.W.nsIn K mainGlobals "tuple" = some none)
    (yset : PySem.W.nsIn K mainGlobals "set" = some none)
    : ∃ fd : FuncData, (∀ (s : Shared) (v : Value), BindsTo s fd ⟨[v], []⟩ [("_law_script", v)]) ∧ ∀ base : Heap, K.In base → base.Ns mainGlobals mg → FnOk l.prog w K mg base CX0 8 fa fd ["_law_script"] (spLaw K) := by
  have e := hfa.symm.trans (PySem.W.mg_of X G D46.a)
  have e : fa = D46.f := by injection e with e; injection e
  subst e
  refine ⟨D46.fd, fun s v => .of_eq rfl, fun base _ _ => ?_⟩
  have zmin := PySem.W.mg_none_of X G ymin
  have zmax := PySem.W.mg_none_of X G ymax
  have zlen := PySem.W.mg_none_of X G ylen
  have zsorted := PySem.W.mg_none_of X G ysorted
  have zlist := PySem.W.mg_none_of X G ylist
  have zreversed := PySem.W.mg_none_of X G yreversed
  have zrange := PySem.W.mg_none_of X G yrange
  have zint := PySem.W.mg_none_of X G yint
  have zisinstance := PySem.W.mg_none_of X G yisinstance
  have ztuple := PySem.W.mg_none_of X G ytuple
  have zset := PySem.W.mg_none_of X G yset
  have F4 := D4.fn
  have b4 := F4.binds (ps := ["a", "b", "c"]) fun _ _ _ _ _ _ us hl => match us, hl with | [_, _, _], _ => rfl
  have g4 := PySem.W.mg_of X G D4.a
  let C4 : Cal l.prog w K mg base 1 "twice" ["a", "b", "c"] spTwice := ⟨D4.f, D4.fd, ok_twice F4, g4, F4.kp, b4⟩
  have F5 := D5.fn
  have b5 := F5.binds (ps := ["number"]) fun _ _ _ _ _ _ us hl => match us, hl with | [_], _ => rfl
  have g5 := PySem.W.mg_of X G D5.a
  let C5 : Cal l.prog w K mg base 1 "sign_of" ["number"] spSign := ⟨D5.f, D5.fd, ok_sign F5, g5, F5.kp, b5⟩
  have F6 := D6.fn
  have b6 := F6.binds (ps := ["a", "b", "c"]) fun _ _ _ _ _ _ us hl => match us, hl with | [_, _, _], _ => rfl
  have g6 := PySem.W.mg_of X G D6.a
  let C6 : Cal l.prog w K mg base 2 "turn" ["a", "b", "c"] spTurn := ⟨D6.f, D6.fd, ok_turn F6 F5 F4 b5 b4 g5 g4, g6, F6.kp, b6⟩
  have F8 := D8.fn
  have b8 := F8.binds (ps := ["a", "d"]) fun _ _ _ _ _ _ us hl => match us, hl with | [_, _], _ => rfl
  have g8 := PySem.W.mg_of X G D8.a
  let C8 : Cal l.prog w K mg base 1 "height" ["a", "d"] spHeight := ⟨D8.f, D8.fd, ok_height F8, g8, F8.kp, b8⟩
  have F9 := D9.fn
  have b9 := F9.binds (ps := ["a", "b", "c", "d"]) fun _ _ _ _ _ _ us hl => match us, hl with | [_, _, _, _], _ => rfl
  have g9 := PySem.W.mg_of X G D9.a
  let C9 : Cal l.prog w K mg base 3 "ring" ["a", "b", "c", "d"] spRing := ⟨D9.f, D9.fd, ok_ring F9 C6 C8 C4 C5, g9, F9.kp, b9⟩
  have F10 := D10.fn
  have b10 := F10.binds (ps := ["a", "b", "c", "d"]) fun _ _ _ _ _ _ us hl => match us, hl with | [_, _, _, _], _ => rfl
  have g10 := PySem.W.mg_of X G D10.a
  let C10 : Cal l.prog w K mg base 4 "spoils" ["a", "b", "c", "d"] spSpoils := ⟨D10.f, D10.fd, ok_spoils F10 C9 C6 zmin, g10, F10.kp, b10⟩
  have F12 := D12.fn
  have b12 := F12.binds (ps := ["row"]) fun _ _ _ _ _ _ us hl => match us, hl with | [_], _ => rfl
  have g12 := PySem.W.mg_of X G D12.a
  let C12 : Cal l.prog w K mg base 3 "thread" ["row"] spThread := ⟨D12.f, D12.fd, ok_thread F12 C6 zlen, g12, F12.kp, b12⟩
  have F13 := D13.fn
  have b13 := F13.binds (ps := ["places"]) fun _ _ _ _ _ _ us hl => match us, hl with | [_], _ => rfl
  have g13 := PySem.W.mg_of X G D13.a
  let C13 : Cal l.prog w K mg base 4 "outline" ["places"] spOutline := ⟨D13.f, D13.fd, ok_outline F13 C12 zsorted zlen zlist zreversed, g13, F13.kp, b13⟩
  have F14 := D14.fn
  have b14 := F14.binds (ps := ["places"]) fun _ _ _ _ _ _ us hl => match us, hl with | [_], _ => rfl
  have g14 := PySem.W.mg_of X G D14.a
  let C14 : Cal l.prog w K mg base 5 "rim" ["places"] spRim := ⟨D14.f, D14.fd, ok_rim F14 C13 zlen zrange, g14, F14.kp, b14⟩
  have F16 := D16.fn
  have b16 := F16.binds (ps := ["a", "b", "c"]) fun _ _ _ _ _ _ us hl => match us, hl with | [_, _, _], _ => rfl
  have g16 := PySem.W.mg_of X G D16.a
  let C16 : Cal l.prog w K mg base 1 "laid" ["a", "b", "c"] spLaid := ⟨D16.f, D16.fd, ok_laid F16, g16, F16.kp, b16⟩
  have F17 := D17.fn
  have b17 := F17.binds (ps := ["places"]) fun _ _ _ _ _ _ us hl => match us, hl with | [_], _ => rfl
  have g17 := PySem.W.mg_of X G D17.a
  let C17 : Cal l.prog w K mg base 6 "swept" ["places"] spSwept := ⟨D17.f, D17.fd, ok_swept F17 C14 C6 C16 zsorted zlen zrange, g17, F17.kp, b17⟩
  have F19 := D19.fn
  have b19 := F19.binds (ps := ["cover"]) fun _ _ _ _ _ _ us hl => match us, hl with | [_], _ => rfl
  have g19 := PySem.W.mg_of X G D19.a
  let C19 : Cal l.prog w K mg base 1 "far_corners" ["cover"] (spFar l.prog w) := ⟨D19.f, D19.fd, ok_far F19, g19, F19.kp, b19⟩
  have F20 := D20.fn
  have b20 := F20.binds (ps := ["far"]) fun _ _ _ _ _ _ us hl => match us, hl with | [_], _ => rfl
  have g20 := PySem.W.mg_of X G D20.a
  let C20 : Cal l.prog w K mg base 1 "cover_of" ["far"] (spCoverOf l.prog w) := ⟨D20.f, D20.fd, ok_cover_of F20 zsorted, g20, F20.kp, b20⟩
  have F21 := D21.fn
  have b21 := F21.binds (ps := ["a", "b"]) fun _ _ _ _ _ _ us hl => match us, hl with | [_, _], _ => rfl
  have g21 := PySem.W.mg_of X G D21.a
  let C21 : Cal l.prog w K mg base 1 "in_order" ["a", "b"] spInOrder := ⟨D21.f, D21.fd, ok_in_order F21, g21, F21.kp, b21⟩
  have F22 := D22.fn
  have b22 := F22.binds (ps := ["far", "side"]) fun _ _ _ _ _ _ us hl => match us, hl with | [_, _], _ => rfl
  have g22 := PySem.W.mg_of X G D22.a
  let C22 : Cal l.prog w K mg base 1 "has_two" ["far", "side"] (spHasTwo l.prog w) := ⟨D22.f, D22.fd, ok_has_two F22, g22, F22.kp, b22⟩
  have F23 := D23.fn
  have b23 := F23.binds (ps := ["far", "side"]) fun _ _ _ _ _ _ us hl => match us, hl with | [_, _], _ => rfl
  have g23 := PySem.W.mg_of X G D23.a
  let C23 : Cal l.prog w K mg base 5 "is_wrong" ["far", "side"] (spIsWrong l.prog w) := ⟨D23.f, D23.fd, ok_is_wrong F23 C22 C10, g23, F23.kp, b23⟩
  have F24 := D24.fn
  have b24 := F24.binds (ps := ["far", "side"]) fun _ _ _ _ _ _ us hl => match us, hl with | [_, _], _ => rfl
  have g24 := PySem.W.mg_of X G D24.a
  let C24 : Cal l.prog w K mg base 2 "cut_over" ["far", "side"] (spCutOver l.prog w) := ⟨D24.f, D24.fd, ok_cut_over F24 C21, g24, F24.kp, b24⟩
  have F25 := D25.fn
  have b25 := F25.binds (ps := ["cover"]) fun _ _ _ _ _ _ us hl => match us, hl with | [_], _ => rfl
  have g25 := PySem.W.mg_of X G D25.a
  let C25 : Cal l.prog w K mg base 6 "turnings" ["cover"] spTurnings := ⟨D25.f, D25.fd, ok_turnings F25 C19 C22 C23 C24 C21 C20 zsorted, g25, F25.kp, b25⟩
  have F26 := D26.fn
  have b26 := F26.binds (ps := ["places"]) fun _ _ _ _ _ _ us hl => match us, hl with | [_], _ => rfl
  have g26 := PySem.W.mg_of X G D26.a
  let C26 : Cal l.prog w K mg base 7 "by_turning" ["places"] spByTurning := ⟨D26.f, D26.fd, ok_by_turning F26 C25 C17, g26, F26.kp, b26⟩
  have F28 := D28.fn
  have b28 := F28.binds (ps := nAt) fun _ _ _ _ _ _ us hl => match us, hl with | [_, _], _ => rfl
  have g28 := PySem.W.mg_of X G D28.a
  let C28 : Cal l.prog w K mg base 1 "_law_at" nAt (spAt K) := ⟨D28.f, D28.fd, ok_at F28, g28, F28.kp, b28⟩
  have F29 := D29.fn
  have b29 := F29.binds (ps := ["_law_kind", "_law_cell", "_law_head"]) fun _ _ _ _ _ _ us hl => match us, hl with | [_, _, _], _ => rfl
  have g29 := PySem.W.mg_of X G D29.a
  let C29 : Cal l.prog w K mg base 1 "_law_spot" ["_law_kind", "_law_cell", "_law_head"] spSpot := ⟨D29.f, D29.fd, ok_spot F29, g29, F29.kp, b29⟩
  have F30 := D30.fn
  have b30 := F30.binds (ps := nMany) fun _ _ _ _ _ _ us hl => match us, hl with | [_], _ => rfl
  have g30 := PySem.W.mg_of X G D30.a
  let C30 : Cal l.prog w K mg base 1 "_law_many" nMany spMany := ⟨D30.f, D30.fd, ok_many F30, g30, F30.kp, b30⟩
  have F31 := D31.fn
  have b31 := F31.binds (ps := ["_law_script", "_law_most"]) fun _ _ _ _ _ _ us hl => match us, hl with | [_, _], _ => rfl
  have g31 := PySem.W.mg_of X G D31.a
  let C31 : Cal l.prog w K mg base 2 "_law_places" ["_law_script", "_law_most"] (spPlaces K) := ⟨D31.f, D31.fd, ok_places F31 C29 C28, g31, F31.kp, b31⟩
  have F32 := D32.fn
  have b32 := F32.binds (ps := ["_law_cell"]) fun _ _ _ _ _ _ us hl => match us, hl with | [_], _ => rfl
  have g32 := PySem.W.mg_of X G D32.a
  let C32 : Cal l.prog w K mg base 1 "_law_dug" ["_law_cell"] spDug := ⟨D32.f, D32.fd, ok_dug F32 zrange zint, g32, F32.kp, b32⟩
  have F33 := D33.fn
  have b33 := F33.binds (ps := ["_law_cell", "_law_most", "_law_by"]) fun _ _ _ _ _ _ us hl => match us, hl with | [_, _, _], _ => rfl
  have g33 := PySem.W.mg_of X G D33.a
  let C33 : Cal l.prog w K mg base 1 "_law_row" ["_law_cell", "_law_most", "_law_by"] spRow := ⟨D33.f, D33.fd, ok_row F33 zrange, g33, F33.kp, b33⟩
  have F34 := D34.fn
  have b34 := F34.binds (ps := nLTwice) fun _ _ _ _ _ _ us hl => match us, hl with | [_, _, _], _ => rfl
  have g34 := PySem.W.mg_of X G D34.a
  let C34 : Cal l.prog w K mg base 1 "_law_twice" nLTwice spTwice := ⟨D34.f, D34.fd, ok_ltwice F34, g34, F34.kp, b34⟩
  have F35 := D35.fn
  have b35 := F35.binds (ps := nLTwice) fun _ _ _ _ _ _ us hl => match us, hl with | [_, _, _], _ => rfl
  have g35 := PySem.W.mg_of X G D35.a
  let C35 : Cal l.prog w K mg base 2 "_law_triangle" nLTwice spTriangle := ⟨D35.f, D35.fd, ok_triangle F35 C34 zsorted ztuple, g35, F35.kp, b35⟩
  have F36 := D36.fn
  have b36 := F36.binds (ps := nInt) fun _ _ _ _ _ _ us hl => match us, hl with | [_], _ => rfl
  have g36 := PySem.W.mg_of X G D36.a
  let C36 : Cal l.prog w K mg base 1 "_law_int" nInt spInt := ⟨D36.f, D36.fd, ok_int F36 zisinstance zint, g36, F36.kp, b36⟩
  have F37 := D37.fn
  have b37 := F37.binds (ps := ["_law_found", "_law_many_here"]) fun _ _ _ _ _ _ us hl => match us, hl with | [_, _], _ => rfl
  have g37 := PySem.W.mg_of X G D37.a
  let C37 : Cal l.prog w K mg base 2 "_law_places_of" ["_law_found", "_law_many_here"] spPlacesOf := ⟨D37.f, D37.fd, ok_places_of F37 C36 zisinstance ztuple zlen, g37, F37.kp, b37⟩
  have F38 := D38.fn
  have b38 := F38.binds (ps := ["_law_found", "_law_due", "_law_many_here"]) fun _ _ _ _ _ _ us hl => match us, hl with | [_, _, _], _ => rfl
  have g38 := PySem.W.mg_of X G D38.a
  let C38 : Cal l.prog w K mg base 3 "_law_rows" ["_law_found", "_law_due", "_law_many_here"] spRows := ⟨D38.f, D38.fd, ok_rows F38 C37 zisinstance zlist zlen zrange, g38, F38.kp, b38⟩
  have F39 := D39.fn
  have b39 := F39.binds (ps := ["_law_cover", "_law_a", "_law_b"]) fun _ _ _ _ _ _ us hl => match us, hl with | [_, _, _], _ => rfl
  have g39 := PySem.W.mg_of X G D39.a
  let C39 : Cal l.prog w K mg base 3 "_law_flipped" ["_law_cover", "_law_a", "_law_b"] spFlipped := ⟨D39.f, D39.fd, ok_flipped F39 C34 C35 zsorted zlen, g39, F39.kp, b39⟩
  have F40 := D40.fn
  have b40 := F40.binds (ps := ["_law_cover", "_law_cell"]) fun _ _ _ _ _ _ us hl => match us, hl with | [_, _], _ => rfl
  have g40 := PySem.W.mg_of X G D40.a
  let C40 : Cal l.prog w K mg base 1 "_law_pick" ["_law_cover", "_law_cell"] spPick := ⟨D40.f, D40.fd, ok_pick F40 zlen zmin zmax, g40, F40.kp, b40⟩
  have F41 := D41.fn
  have b41 := F41.binds (ps := ["_law_cover", "_law_cells"]) fun _ _ _ _ _ _ us hl => match us, hl with | [_, _], _ => rfl
  have g41 := PySem.W.mg_of X G D41.a
  let C41 : Cal l.prog w K mg base 4 "_law_shaken" ["_law_cover", "_law_cells"] (spShaken K) := ⟨D41.f, D41.fd, ok_shaken F41 C40 C39, g41, F41.kp, b41⟩
  have F42 := D42.fn
  have b42 := F42.binds (ps := ["_law_t", "_law_d"]) fun _ _ _ _ _ _ us hl => match us, hl with | [_, _], _ => rfl
  have g42 := PySem.W.mg_of X G D42.a
  let C42 : Cal l.prog w K mg base 2 "_law_spoils" ["_law_t", "_law_d"] spLSpoils := ⟨D42.f, D42.fd, ok_lspoils F42 C34, g42, F42.kp, b42⟩
  have F43 := D43.fn
  have b43 := F43.binds (ps := ["_law_places_here"]) fun _ _ _ _ _ _ us hl => match us, hl with | [_], _ => rfl
  have g43 := PySem.W.mg_of X G D43.a
  let C43 : Cal l.prog w K mg base 2 "_law_in_line" ["_law_places_here"] spInLine := ⟨D43.f, D43.fd, ok_in_line F43 C34, g43, F43.kp, b43⟩
  have F44 := D44.fn
  have b44 := F44.binds (ps := ["_law_places_here", "_law_cover"]) fun _ _ _ _ _ _ us hl => match us, hl with | [_, _], _ => rfl
  have g44 := PySem.W.mg_of X G D44.a
  let C44 : Cal l.prog w K mg base 3 "_law_covers" ["_law_places_here", "_law_cover"] spCovers := ⟨D44.f, D44.fd, ok_covers F44 C34 C35 zsorted zlen zset zmin zmax, g44, F44.kp, b44⟩
  have F45 := D45.fn
  have b45 := F45.binds (ps := ["_law_places_here", "_law_cover"]) fun _ _ _ _ _ _ us hl => match us, hl with | [_, _], _ => rfl
  have g45 := PySem.W.mg_of X G D45.a
  let C45 : Cal l.prog w K mg base 3 "_law_clean" ["_law_places_here", "_law_cover"] spClean := ⟨D45.f, D45.fd, ok_clean F45 C42, g45, F45.kp, b45⟩
  exact ok_law D46.fn C28 C30 C31 C32 C33 C26 C38 C43 C44 C45 C41 C17 C25 zlist zrange zisinstance zreversed
end NW
open PySem PySem.W PyProof.Rows
set_option maxHeartbeats 0 in
theorem PySem.Challenge.cw_nearland_k36_whole_turned_to_the_net_holds : PySem.Challenge.rw_nearland_k36_whole_turned_to_the_net.Holds := by
  w_on; o_law; k_head; (case hw => w_witness2)
  k_fill
  refine L2.walk_ofB (l := PySem.Challenge.rw_nearland_k36_whole_turned_to_the_net) (n := 63) (k := 8) (x := "_law_script") (CX := fun _ => L2.CX0) (sp := fun w => NW.spLaw _) rfl (by decide) rfl ⟨rfl, by decide, by decide⟩ (fun w h Y => PySem.W.kIn_of Y) ?F (fun _ _ a ns hl hb _ hS => ⟨a, ns, rfl, hS, hl, hb, fun _ => rfl⟩) (fun _ _ _ _ _ h => h)
  case F =>
    intro w mg fa h KX G hmg
    refine' NW.all_mk KX G hmg (NW.mkD ?a4 ?l4 ?c4 ?k4) (NW.mkD ?a5 ?l5 ?c5 ?k5) (NW.mkD ?a6 ?l6 ?c6 ?k6) (NW.mkD ?a8 ?l8 ?c8 ?k8) (NW.mkD ?a9 ?l9 ?c9 ?k9) (NW.mkD ?a10 ?l10 ?c10 ?k10) (NW.mkD ?a12 ?l12 ?c12 ?k12) (NW.mkD ?a13 ?l13 ?c13 ?k13) (NW.mkD ?a14 ?l14 ?c14 ?k14) (NW.mkD ?a16 ?l16 ?c16 ?k16) (NW.mkD ?a17 ?l17 ?c17 ?k17) (NW.mkD ?a19 ?l19 ?c19 ?k19) (NW.mkD ?a20 ?l20 ?c20 ?k20) (NW.mkD ?a21 ?l21 ?c21 ?k21) (NW.mkD ?a22 ?l22 ?c22 ?k22) (NW.mkD ?a23 ?l23 ?c23 ?k23) (NW.mkD ?a24 ?l24 ?c24 ?k24) (NW.mkD ?a25 ?l25 ?c25 ?k25) (NW.mkD ?a26 ?l26 ?c26 ?k26) (NW.mkD ?a28 ?l28 ?c28 ?k28) (NW.mkD ?a29 ?l29 ?c29 ?k29) (NW.mkD ?a30 ?l30 ?c30 ?k30) (NW.mkD ?a31 ?l31 ?c31 ?k31) (NW.mkD ?a32 ?l32 ?c32 ?k32) (NW.mkD ?a33 ?l33 ?c33 ?k33) (NW.mkD ?a34 ?l34 ?c34 ?k34) (NW.mkD ?a35 ?l35 ?c35 ?k35) (NW.mkD ?a36 ?l36 ?c36 ?k36) (NW.mkD ?a37 ?l37 ?c37 ?k37) (NW.mkD ?a38 ?l38 ?c38 ?k38) (NW.mkD ?a39 ?l39 ?c39 ?k39) (NW.mkD ?a40 ?l40 ?c40 ?k40) (NW.mkD ?a41 ?l41 ?c41 ?k41) (NW.mkD ?a42 ?l42 ?c42 ?k42) (NW.mkD ?a43 ?l43 ?c43 ?k43) (NW.mkD ?a44 ?l44 ?c44 ?k44) (NW.mkD ?a45 ?l45 ?c45 ?k45) (NW.mkD ?a46 ?l46 ?c46 ?k46) ?zmin ?zmax ?zlen ?zsorted ?zlist ?zreversed ?zrange ?zint ?zisinstance ?ztuple ?zset
    (case a4 => k_is); (case l4 => k_is); (case c4 => k_is); (case k4 => k_is)
    (case a5 => k_is); (case l5 => k_is); (case c5 => k_is); (case k5 => k_is)
    (case a6 => k_is); (case l6 => k_is); (case c6 => k_is); (case k6 => k_is)
    (case a8 => k_is); (case l8 => k_is); (case c8 => k_is); (case k8 => k_is)
    (case a9 => k_is); (case l9 => k_is); (case c9 => k_is); (case k9 => k_is)
    (case a10 => k_is); (case l10 => k_is); (case c10 => k_is); (case k10 => k_is)
    (case a12 => k_is); (case l12 => k_is); (case c12 => k_is); (case k12 => k_is)
    (case a13 => k_is); (case l13 => k_is); (case c13 => k_is); (case k13 => k_is)
    (case a14 => k_is); (case l14 => k_is); (case c14 => k_is); (case k14 => k_is)
    (case a16 => k_is); (case l16 => k_is); (case c16 => k_is); (case k16 => k_is)
    (case a17 => k_is); (case l17 => k_is); (case c17 => k_is); (case k17 => k_is)
    (case a19 => k_is); (case l19 => k_is); (case c19 => k_is); (case k19 => k_is)
    (case a20 => k_is); (case l20 => k_is); (case c20 => k_is); (case k20 => k_is)
    (case a21 => k_is); (case l21 => k_is); (case c21 => k_is); (case k21 => k_is)
    (case a22 => k_is); (case l22 => k_is); (case c22 => k_is); (case k22 => k_is)
    (case a23 => k_is); (case l23 => k_is); (case c23 => k_is); (case k23 => k_is)
    (case a24 => k_is); (case l24 => k_is); (case c24 => k_is); (case k24 => k_is)
    (case a25 => k_is); (case l25 => k_is); (case c25 => k_is); (case k25 => k_is)
    (case a26 => k_is); (case l26 => k_is); (case c26 => k_is); (case k26 => k_is)
    (case a28 => k_is); (case l28 => k_is); (case c28 => k_is); (case k28 => k_is)
    (case a29 => k_is); (case l29 => k_is); (case c29 => k_is); (case k29 => k_is)
    (case a30 => k_is); (case l30 => k_is); (case c30 => k_is); (case k30 => k_is)
    (case a31 => k_is); (case l31 => k_is); (case c31 => k_is); (case k31 => k_is)
    (case a32 => k_is); (case l32 => k_is); (case c32 => k_is); (case k32 => k_is)
    (case a33 => k_is); (case l33 => k_is); (case c33 => k_is); (case k33 => k_is)
    (case a34 => k_is); (case l34 => k_is); (case c34 => k_is); (case k34 => k_is)
    (case a35 => k_is); (case l35 => k_is); (case c35 => k_is); (case k35 => k_is)
    (case a36 => k_is); (case l36 => k_is); (case c36 => k_is); (case k36 => k_is)
    (case a37 => k_is); (case l37 => k_is); (case c37 => k_is); (case k37 => k_is)
    (case a38 => k_is); (case l38 => k_is); (case c38 => k_is); (case k38 => k_is)
    (case a39 => k_is); (case l39 => k_is); (case c39 => k_is); (case k39 => k_is)
    (case a40 => k_is); (case l40 => k_is); (case c40 => k_is); (case k40 => k_is)
    (case a41 => k_is); (case l41 => k_is); (case c41 => k_is); (case k41 => k_is)
    (case a42 => k_is); (case l42 => k_is); (case c42 => k_is); (case k42 => k_is)
    (case a43 => k_is); (case l43 => k_is); (case c43 => k_is); (case k43 => k_is)
    (case a44 => k_is); (case l44 => k_is); (case c44 => k_is); (case k44 => k_is)
    (case a45 => k_is); (case l45 => k_is); (case c45 => k_is); (case k45 => k_is)
    (case a46 => k_is); (case l46 => k_is); (case c46 => k_is); (case k46 => k_is)
    (case zmin => k_is); (case zmax => k_is); (case zlen => k_is); (case zsorted => k_is); (case zlist => k_is); (case zreversed => k_is); (case zrange => k_is); (case zint => k_is); (case zisinstance => k_is); (case ztuple => k_is); (case zset => k_is)
