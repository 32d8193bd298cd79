import PyProof.Rows.All
import Wide.All
import OpenK.AllK
import Wide.FinOn
import HandS.ForMost
import HandS.Wide
import HandS.TupSets
import HandS.Gcd
import HandS.Style
import HandS.Deep
import HandS.NoneIn
import HandS.Defaults
import HandS.Evl
import KE.KMathG
import PySem.Challenge.RW_wholeconic_k19_whole_group_of_classes
import HandS.TryOnly
import KE.KStateDown
import HandS.Base
import HandS.Call
import HandS.Ends
import HandS.More
import HandS.Words
import HandS.WordsExc
import HandS.Head0
import HandS.Head1
import HandS.Head2
import HandS.HeadEnd
import HandS.HeadHook1
import HandS.HeadHook2
import HandS.HeadHook3
import HandS.HeadHook4
/-! K19MathA -/
set_option maxRecDepth 10000
namespace K19
/-! ### forms and matrices -/
structure Fm where
  a : Int
  b : Int
  c : Int
  deriving DecidableEq, Repr
structure Mx where
  p : Int
  q : Int
  r : Int
  s : Int
  deriving DecidableEq, Repr
theorem Fm.ext' {f g : Fm} (h1 : f.a = g.a) (h2 : f.b = g.b) (h3 : f.c = g.c) : f = g := by
  cases f; cases g; simp_all
theorem Mx.ext' {f g : Mx} (h1 : f.p = g.p) (h2 : f.q = g.q) (h3 : f.r = g.r) (h4 : f.s = g.s) : f = g := by
  cases f; cases g; simp_all
def disc (f : Fm) : Int := f.b * f.b - 4 * f.a * f.c
def val (f : Fm) (x y : Int) : Int := f.a * x * x + f.b * x * y + f.c * y * y
def act (f : Fm) (m : Mx) : Fm := ⟨val f m.p m.r, 2 * f.a * m.p * m.q + f.b * (m.p * m.s + m.q * m.r) + 2 * f.c * m.r * m.s, val f m.q m.s⟩
def det (m : Mx) : Int := m.p * m.s - m.q * m.r
def mul (m n : Mx) : Mx := ⟨m.p * n.p + m.q * n.r, m.p * n.q + m.q * n.s, m.r * n.p + m.s * n.r, m.r * n.q + m.s * n.s⟩
def inv (m : Mx) : Mx := ⟨m.s, -m.q, -m.r, m.p⟩
def one : Mx := ⟨1, 0, 0, 1⟩
theorem act_mul (f : Fm) (m n : Mx) : act (act f m) n = act f (mul m n) := by
  apply Fm.ext' <;> simp only [act, mul, val] <;> grind
theorem det_mul (m n : Mx) : det (mul m n) = det m * det n := by
  simp only [det, mul]; grind
theorem det_inv (m : Mx) : det (inv m) = det m := by
  simp only [det, inv]; grind
theorem disc_act (f : Fm) (m : Mx) : disc (act f m) = disc f * (det m * det m) := by
  simp only [disc, act, det, val]; grind
theorem act_one (f : Fm) : act f one = f := by
  apply Fm.ext' <;> simp only [act, one, val] <;> grind
theorem mul_inv {m : Mx} (h : det m = 1) : mul m (inv m) = one := by
  simp only [det] at h
  apply Mx.ext' <;> simp only [mul, inv, one] <;> grind
theorem act_inv {f g : Fm} {m : Mx} (h : det m = 1) (e : act f m = g) : act g (inv m) = f := by
  rw [← e, act_mul, mul_inv h, act_one]
/-- alike -/
def Eqv (f g : Fm) : Prop := ∃ m, det m = 1 ∧ act f m = g
theorem Eqv.refl (f : Fm) : Eqv f f := ⟨one, by decide, act_one f⟩
theorem Eqv.symm {f g : Fm} : Eqv f g → Eqv g f := fun ⟨m, h, e⟩ => ⟨inv m, by rw [det_inv, h], act_inv h e⟩
theorem Eqv.trans {f g h : Fm} : Eqv f g → Eqv g h → Eqv f h := fun ⟨m, d, e⟩ ⟨n, d', e'⟩ => ⟨mul m n, by rw [det_mul, d, d']; rfl, by rw [← act_mul, e, e']⟩
theorem Eqv.disc {f g : Fm} : Eqv f g → disc f = disc g := fun ⟨m, h, e⟩ => by rw [← e, disc_act, h]; grind
/-- content 1, by a Bezout triple -/
def Prim (f : Fm) : Prop := ∃ u v w : Int, u * f.a + v * f.b + w * f.c = 1
theorem Prim.act {f : Fm} {m : Mx} (d : det m = 1) (h : Prim (act f m)) : Prim f := by
  obtain ⟨u, v, w, e⟩ := h
  simp only [K19.act, val] at e
  refine ⟨u * m.p * m.p + v * 2 * m.p * m.q + w * m.q * m.q, u * m.p * m.r + v * (m.p * m.s + m.q * m.r) + w * m.q * m.s, u * m.r * m.r + v * 2 * m.r * m.s + w * m.s * m.s, ?_⟩
  grind
theorem Prim.eqv {f g : Fm} (e : Eqv f g) (h : Prim f) : Prim g := by
  obtain ⟨m, d, e⟩ := e.symm
  subst e
  exact Prim.act d h
/-! ### cubes -/
structure Cb where
  x0 : Int
  x1 : Int
  x2 : Int
  x3 : Int
  y0 : Int
  y1 : Int
  y2 : Int
  y3 : Int
def cF (m : Cb) : Fm := ⟨m.x0 * m.y1 - m.x1 * m.y0, (m.x0 * m.y3 - m.x3 * m.y0) - (m.x1 * m.y2 - m.x2 * m.y1), m.x2 * m.y3 - m.x3 * m.y2⟩
def cG (m : Cb) : Fm := ⟨m.x0 * m.y2 - m.x2 * m.y0, (m.x0 * m.y3 - m.x3 * m.y0) + (m.x1 * m.y2 - m.x2 * m.y1), m.x1 * m.y3 - m.x3 * m.y1⟩
def cH (m : Cb) : Fm := ⟨m.y1 * m.y2 - m.y0 * m.y3, m.x0 * m.y3 + m.x3 * m.y0 - m.x1 * m.y2 - m.x2 * m.y1, m.x1 * m.x2 - m.x0 * m.x3⟩
/-- a change of the first form's unknowns, of the second's -/
def cA (m : Cb) (g : Mx) : Cb := ⟨m.x0 * g.p + m.x2 * g.r, m.x1 * g.p + m.x3 * g.r, m.x0 * g.q + m.x2 * g.s, m.x1 * g.q + m.x3 * g.s, m.y0 * g.p + m.y2 * g.r, m.y1 * g.p + m.y3 * g.r, m.y0 * g.q + m.y2 * g.s, m.y1 * g.q + m.y3 * g.s⟩
def cB (m : Cb) (g : Mx) : Cb := ⟨m.x0 * g.p + m.x1 * g.r, m.x0 * g.q + m.x1 * g.s, m.x2 * g.p + m.x3 * g.r, m.x2 * g.q + m.x3 * g.s, m.y0 * g.p + m.y1 * g.r, m.y0 * g.q + m.y1 * g.s, m.y2 * g.p + m.y3 * g.r, m.y2 * g.q + m.y3 * g.s⟩
theorem cA_F (m : Cb) (g : Mx) : cF (cA m g) = act (cF m) g := by
  apply Fm.ext' <;> simp only [cF, cA, act, val] <;> grind
theorem cA_G (m : Cb) {g : Mx} (h : det g = 1) : cG (cA m g) = cG m := by
  simp only [det] at h
  apply Fm.ext' <;> simp only [cG, cA] <;> grind
theorem cA_H (m : Cb) {g : Mx} (h : det g = 1) : cH (cA m g) = cH m := by
  simp only [det] at h
  apply Fm.ext' <;> simp only [cH, cA] <;> grind
theorem cB_F (m : Cb) {g : Mx} (h : det g = 1) : cF (cB m g) = cF m := by
  simp only [det] at h
  apply Fm.ext' <;> simp only [cF, cB] <;> grind
theorem cB_G (m : Cb) (g : Mx) : cG (cB m g) = act (cG m) g := by
  apply Fm.ext' <;> simp only [cG, cB, act, val] <;> grind
theorem cB_H (m : Cb) {g : Mx} (h : det g = 1) : cH (cB m g) = cH m := by
  simp only [det] at h
  apply Fm.ext' <;> simp only [cH, cB] <;> grind
end K19
/-! K19MathB -/
set_option maxRecDepth 10000
set_option linter.all false
namespace K19
/-- the six minors -/
def P01 (m : Cb) : Int := m.x0 * m.y1 - m.x1 * m.y0
def P02 (m : Cb) : Int := m.x0 * m.y2 - m.x2 * m.y0
def P03 (m : Cb) : Int := m.x0 * m.y3 - m.x3 * m.y0
def P12 (m : Cb) : Int := m.x1 * m.y2 - m.x2 * m.y1
def P13 (m : Cb) : Int := m.x1 * m.y3 - m.x3 * m.y1
def P23 (m : Cb) : Int := m.x2 * m.y3 - m.x3 * m.y2
/-- the rows changed -/
def cU (m : Cb) (u : Mx) : Cb := ⟨u.p * m.x0 + u.q * m.y0, u.p * m.x1 + u.q * m.y1, u.p * m.x2 + u.q * m.y2, u.p * m.x3 + u.q * m.y3,
  u.r * m.x0 + u.s * m.y0, u.r * m.x1 + u.s * m.y1, u.r * m.x2 + u.s * m.y2, u.r * m.x3 + u.s * m.y3⟩
theorem cU_H (m : Cb) (u : Mx) : cH (cU m u) = act (cH m) ⟨u.s, -u.q, -u.r, u.p⟩ := by
  apply Fm.ext' <;> simp only [cH, cU, act, val] <;> grind
theorem cU_P01 (m : Cb) (u : Mx) : P01 (cU m u) = det u * P01 m := by
  simp only [P01, cU, det]; grind
theorem cU_P02 (m : Cb) (u : Mx) : P02 (cU m u) = det u * P02 m := by
  simp only [P02, cU, det]; grind
theorem fin4 {k1 k2 k3 l A B C D x y u1 u2 u3 u4 v1 v2 v3 v4 : Int} (d : k1 * A + k2 * (B - C) + k3 * D = 1) (e1 : l * A = u1 * x + v1 * y) (e2 : l * B = u2 * x + v2 * y) (e3 : l * C = u3 * x + v3 * y) (e4 : l * D = u4 * x + v4 * y) :
    l = (k1 * u1 + k2 * (u2 - u3) + k3 * u4) * x + (k1 * v1 + k2 * (v2 - v3) + k3 * v4) * y := by
  have h : l = l * (k1 * A + k2 * (B - C) + k3 * D) := by rw [d, Int.mul_one]
  have h2 : l * (k1 * A + k2 * (B - C) + k3 * D) = k1 * (l * A) + k2 * (l * B - l * C) + k3 * (l * D) := by grind
  rw [h2, e1, e2, e3, e4] at h
  grind
theorem fin1 {k1 k2 k3 t A B C : Int} (d : k1 * A + k2 * B + k3 * C = 1) (e1 : A = t * A) (e2 : B = t * B) (e3 : C = t * C) : t = 1 := by
  have h : t = t * (k1 * A + k2 * B + k3 * C) := by rw [d, Int.mul_one]
  have h2 : t * (k1 * A + k2 * B + k3 * C) = k1 * (t * A) + k2 * (t * B) + k3 * (t * C) := by grind
  rw [h2, ← e1, ← e2, ← e3, d] at h
  exact h
theorem cube_one {m n : Cb} (hF : cF m = cF n) (hG : cG m = cG n) (hp : Prim (cF m)) : ∃ u, det u = 1 ∧ n = cU m u := by
  obtain ⟨k1, k2, k3, e⟩ := hp
  have f1 : (cF m).a = (cF n).a := by rw [hF]
  have f2 : (cF m).b = (cF n).b := by rw [hF]
  have f3 : (cF m).c = (cF n).c := by rw [hF]
  have g1 : (cG m).a = (cG n).a := by rw [hG]
  have g2 : (cG m).b = (cG n).b := by rw [hG]
  have g3 : (cG m).c = (cG n).c := by rw [hG]
  simp only [cF, cG] at e f1 f2 f3 g1 g2 g3
  have e03 : m.x0 * m.y3 - m.x3 * m.y0 = n.x0 * n.y3 - n.x3 * n.y0 := by omega
  have e12 : m.x1 * m.y2 - m.x2 * m.y1 = n.x1 * n.y2 - n.x2 * n.y1 := by omega
  obtain ⟨x0, x1, x2, x3, y0, y1, y2, y3⟩ := m
  obtain ⟨a0, a1, a2, a3, b0, b1, b2, b3⟩ := n
  simp only at e f1 f2 f3 g1 g2 g3 e03 e12
  have d : k1 * (x0 * y1 - x1 * y0) + k2 * ((x0 * y3 - x3 * y0) - (x1 * y2 - x2 * y1)) + k3 * (x2 * y3 - x3 * y2) = 1 := e
  -- u from the contraction
  have key : ∀ l0 l1 l2 l3 : Int,
      l0 * (x1 * y2 - x2 * y1) - l1 * (x0 * y2 - x2 * y0) + l2 * (x0 * y1 - x1 * y0) = 0 →
      l0 * (x1 * y3 - x3 * y1) - l1 * (x0 * y3 - x3 * y0) + l3 * (x0 * y1 - x1 * y0) = 0 →
      l0 * (x2 * y3 - x3 * y2) - l2 * (x0 * y3 - x3 * y0) + l3 * (x0 * y2 - x2 * y0) = 0 →
      l1 * (x2 * y3 - x3 * y2) - l2 * (x1 * y3 - x3 * y1) + l3 * (x1 * y2 - x2 * y1) = 0 →
      ∃ s t : Int, l0 = s * x0 + t * y0 ∧ l1 = s * x1 + t * y1 ∧ l2 = s * x2 + t * y2 ∧ l3 = s * x3 + t * y3 := by
    intro l0 l1 l2 l3 h1 h2 h3 h4
    refine ⟨k1 * (l0 * y1 - l1 * y0) + k2 * ((l0 * y3 - l3 * y0) - (l1 * y2 - l2 * y1)) + k3 * (l2 * y3 - l3 * y2),
      k1 * (x0 * l1 - x1 * l0) + k2 * ((x0 * l3 - x3 * l0) - (x1 * l2 - x2 * l1)) + k3 * (x2 * l3 - x3 * l2), ?_, ?_, ?_, ?_⟩
    · have e01 : l0 * (x0 * y1 - x1 * y0) = (l0 * y1 - l1 * y0) * x0 + (x0 * l1 - x1 * l0) * y0 := by grind
      have e03 : l0 * (x0 * y3 - x3 * y0) = (l0 * y3 - l3 * y0) * x0 + (x0 * l3 - x3 * l0) * y0 := by grind
      have e12 : l0 * (x1 * y2 - x2 * y1) = (l1 * y2 - l2 * y1) * x0 + (x1 * l2 - x2 * l1) * y0 := by grind
      have e23 : l0 * (x2 * y3 - x3 * y2) = (l2 * y3 - l3 * y2) * x0 + (x2 * l3 - x3 * l2) * y0 := by grind
      exact fin4 d e01 e03 e12 e23
    · have e01 : l1 * (x0 * y1 - x1 * y0) = (l0 * y1 - l1 * y0) * x1 + (x0 * l1 - x1 * l0) * y1 := by grind
      have e03 : l1 * (x0 * y3 - x3 * y0) = (l0 * y3 - l3 * y0) * x1 + (x0 * l3 - x3 * l0) * y1 := by grind
      have e12 : l1 * (x1 * y2 - x2 * y1) = (l1 * y2 - l2 * y1) * x1 + (x1 * l2 - x2 * l1) * y1 := by grind
      have e23 : l1 * (x2 * y3 - x3 * y2) = (l2 * y3 - l3 * y2) * x1 + (x2 * l3 - x3 * l2) * y1 := by grind
      exact fin4 d e01 e03 e12 e23
    · have e01 : l2 * (x0 * y1 - x1 * y0) = (l0 * y1 - l1 * y0) * x2 + (x0 * l1 - x1 * l0) * y2 := by grind
      have e03 : l2 * (x0 * y3 - x3 * y0) = (l0 * y3 - l3 * y0) * x2 + (x0 * l3 - x3 * l0) * y2 := by grind
      have e12 : l2 * (x1 * y2 - x2 * y1) = (l1 * y2 - l2 * y1) * x2 + (x1 * l2 - x2 * l1) * y2 := by grind
      have e23 : l2 * (x2 * y3 - x3 * y2) = (l2 * y3 - l3 * y2) * x2 + (x2 * l3 - x3 * l2) * y2 := by grind
      exact fin4 d e01 e03 e12 e23
    · have e01 : l3 * (x0 * y1 - x1 * y0) = (l0 * y1 - l1 * y0) * x3 + (x0 * l1 - x1 * l0) * y3 := by grind
      have e03 : l3 * (x0 * y3 - x3 * y0) = (l0 * y3 - l3 * y0) * x3 + (x0 * l3 - x3 * l0) * y3 := by grind
      have e12 : l3 * (x1 * y2 - x2 * y1) = (l1 * y2 - l2 * y1) * x3 + (x1 * l2 - x2 * l1) * y3 := by grind
      have e23 : l3 * (x2 * y3 - x3 * y2) = (l2 * y3 - l3 * y2) * x3 + (x2 * l3 - x3 * l2) * y3 := by grind
      exact fin4 d e01 e03 e12 e23
  have ra : ∃ s t : Int, a0 = s * x0 + t * y0 ∧ a1 = s * x1 + t * y1 ∧ a2 = s * x2 + t * y2 ∧ a3 = s * x3 + t * y3 := by
    apply key
    · rw [e12, g1, f1]; grind
    · rw [g3, e03, f1]; grind
    · rw [f3, e03, g1]; grind
    · rw [f3, g3, e12]; grind
  have rb : ∃ s t : Int, b0 = s * x0 + t * y0 ∧ b1 = s * x1 + t * y1 ∧ b2 = s * x2 + t * y2 ∧ b3 = s * x3 + t * y3 := by
    apply key
    · rw [e12, g1, f1]; grind
    · rw [g3, e03, f1]; grind
    · rw [f3, e03, g1]; grind
    · rw [f3, g3, e12]; grind
  obtain ⟨s, t, h0, h1, h2, h3⟩ := ra
  obtain ⟨s', t', h0', h1', h2', h3'⟩ := rb
  refine ⟨⟨s, t, s', t'⟩, ?_, by rw [h0, h1, h2, h3, h0', h1', h2', h3']; rfl⟩
  simp only [det]
  clear key
  refine fin1 d (f1.trans ?_) (f2.trans ?_) (f3.trans ?_)
  · rw [h0, h1, h0', h1']; clear d e f1 f2 f3 g1 g2 g3 e03 e12 h0 h1 h2 h3 h0' h1' h2' h3'; grind
  · rw [h0, h1, h2, h3, h0', h1', h2', h3']; clear d e f1 f2 f3 g1 g2 g3 e03 e12 h0 h1 h2 h3 h0' h1' h2' h3'; grind
  · rw [h2, h3, h2', h3']; clear d e f1 f2 f3 g1 g2 g3 e03 e12 h0 h1 h2 h3 h0' h1' h2' h3'; grind
end K19
/-! K19MathC -/
set_option maxRecDepth 10000
set_option linter.all false
namespace K19
/-! ### definite forms: one reduced form in a class -/
def Red (f : Fm) : Prop := -f.a < f.b ∧ f.b ≤ f.a ∧ f.a ≤ f.c ∧ (0 ≤ f.b ∨ f.a < f.c)
theorem small_of {r : Int} (h : r * r ≤ 3) : -1 ≤ r ∧ r ≤ 1 := by
  constructor
  · apply Int.not_lt.mp; intro g
    have := Int.mul_nonneg (show 0 ≤ -r - 2 by omega) (show 0 ≤ -r + 2 by omega)
    have e : (-r - 2) * (-r + 2) = r * r - 4 := by grind
    omega
  · apply Int.not_lt.mp; intro g
    have := Int.mul_nonneg (show 0 ≤ r - 2 by omega) (show 0 ≤ r + 2 by omega)
    have e : (r - 2) * (r + 2) = r * r - 4 := by grind
    omega
theorem sq_nonneg (x : Int) : 0 ≤ x * x := by
  rcases Int.le_total 0 x with h | h
  · exact Int.mul_nonneg h h
  · exact Int.mul_nonneg_of_nonpos_of_nonpos h h
theorem le_of_mul_le {a x y : Int} (ha : 0 < a) (h : a * x ≤ a * y) : x ≤ y := Int.le_of_mul_le_mul_left h ha
/-- the value of a reduced form at a point, from below -/
theorem red_low {f : Fm} (h : Red f) (p r : Int) : 3 * f.a * (r * r) ≤ 4 * val f p r ∧ 3 * f.a * (p * p) ≤ 4 * val f p r := by
  obtain ⟨h1, h2, h3, _⟩ := h
  obtain ⟨a, b, c⟩ := f
  simp only [val] at *
  have ha : 0 < a := by omega
  have hc := Int.mul_nonneg (show 0 ≤ c - a by omega) (sq_nonneg r)
  have k1 := Int.mul_nonneg (show 0 ≤ a by omega) (sq_nonneg (2 * p + r))
  have k2 := Int.mul_nonneg (show 0 ≤ a by omega) (sq_nonneg (2 * p - r))
  have k3 := Int.mul_nonneg (show 0 ≤ a by omega) (sq_nonneg (p + 2 * r))
  have k4 := Int.mul_nonneg (show 0 ≤ a by omega) (sq_nonneg (p - 2 * r))
  rcases Int.le_total 0 (p * r) with hs | hs
  · have hb := Int.mul_nonneg (show 0 ≤ a + b by omega) hs
    constructor <;> grind
  · have hb := Int.mul_nonneg (show 0 ≤ a - b by omega) (show 0 ≤ -(p * r) by omega)
    constructor <;> grind
theorem mul_ge {a t n : Int} (ha : 0 < a) (h : n ≤ t) : a * n ≤ a * t := Int.mul_le_mul_of_nonneg_left h (Int.le_of_lt ha)
theorem shift_small {a b t : Int} (ha : 0 < a) (h1 : -a < b) (h2 : b ≤ a) (h3 : -a < 2 * (a * t) + b) (h4 : 2 * (a * t) + b ≤ a) : t = 0 := by
  rcases Int.lt_or_le t 0 with h | h
  · have := mul_ge ha (show t ≤ -1 by omega)
    exfalso; omega
  · rcases Int.lt_or_le 0 t with g | g
    · have := mul_ge ha (show 1 ≤ t by omega)
      exfalso; omega
    · omega
theorem turn_small {a b k : Int} (ha : 0 < a) (h1 : 0 ≤ b) (h2 : b ≤ a) (h3 : -a < 2 * (a * k) - b) (h4 : 2 * (a * k) - b ≤ a) : k = 0 ∨ (k = 1 ∧ b = a) := by
  rcases Int.lt_or_le k 0 with h | h
  · have := mul_ge ha (show k ≤ -1 by omega)
    exfalso; omega
  · rcases Int.lt_or_le 1 k with g | g
    · have := mul_ge ha (show 2 ≤ k by omega)
      exfalso; omega
    · have : k = 0 ∨ k = 1 := by omega
      rcases this with rfl | rfl
      · exact .inl rfl
      · exact .inr ⟨rfl, by omega⟩
theorem corner {a y z : Int} (ha : 0 < a) (h1 : y ≤ a) (h2 : -a < y) (h3 : a ≤ z) (h4 : y * y - 4 * a * z = -3 * a * a) : y = a ∧ z = a := by
  have k1 := Int.mul_nonneg (show 0 ≤ a by omega) (show 0 ≤ z - a by omega)
  have e : y = a := by
    apply Int.le_antisymm h1
    apply Int.not_lt.mp; intro g
    have := Int.mul_pos (show 0 < a - y by omega) (show 0 < a + y by omega)
    grind
  subst e
  refine ⟨rfl, ?_⟩
  have : y * z = y * y := by grind
  exact Int.eq_of_mul_eq_mul_left (by omega) this
theorem red_one {f g : Fm} (hf : Red f) (hg : Red g) (e : Eqv f g) (hle : g.a ≤ f.a) : g = f := by
  obtain ⟨m, d, rfl⟩ := e
  obtain ⟨l1, l2⟩ := red_low hf m.p m.r
  have hd := disc_act f m
  rw [d] at hd
  obtain ⟨h1, h2, h3, h4⟩ := hf
  obtain ⟨g1, g2, g3, g4⟩ := hg
  obtain ⟨a, b, c⟩ := f
  obtain ⟨p, q, r, s⟩ := m
  simp only [act, det, val, disc] at *
  have ha : 0 < a := by omega
  have r1 : r * r ≤ 1 := by
    have : a * (3 * (r * r)) ≤ a * 4 := by grind
    have := le_of_mul_le ha this
    omega
  have p1 : p * p ≤ 1 := by
    have : a * (3 * (p * p)) ≤ a * 4 := by grind
    have := le_of_mul_le ha this
    omega
  obtain ⟨r2, r3⟩ := small_of (r := r) (by omega)
  obtain ⟨p2, p3⟩ := small_of (r := p) (by omega)
  have rc : r = -1 ∨ r = 0 ∨ r = 1 := by omega
  have pc : p = -1 ∨ p = 0 ∨ p = 1 := by omega
  clear l1 l2 r1 p1
  have sub : ∀ x y z : Int, x = a → y = b → z = c → (Fm.mk x y z) = Fm.mk a b c := fun x y z h1 h2 h3 => by rw [h1, h2, h3]
  rcases rc with rfl | rfl | rfl <;> rcases pc with rfl | rfl | rfl
  · exfalso; omega
  · have hq : q = 1 := by omega
    subst hq
    have hc : c = a := by omega
    subst hc
    have e1 : 2 * c * 0 * 1 + b * (0 * s + 1 * -1) + 2 * c * -1 * s = 2 * (c * (-s)) - b := by grind
    rw [e1] at g1 g2
    rcases turn_small (b := b) ha (k := -s) (by omega) (by omega) (by omega) (by omega) with h | ⟨h, h'⟩
    · have hs : s = 0 := by omega
      subst hs
      have hb : b = 0 := by grind
      subst hb
      apply sub <;> grind
    · have hs : s = -1 := by omega
      subst hs h'
      apply sub <;> grind
  · have hb : b = a := by omega
    have hc : c = a := by omega
    subst hb
    have e := corner ha (y := 2 * b * 1 * q + b * (1 * s + q * -1) + 2 * c * -1 * s) (z := b * q * q + b * q * s + c * s * s) (by subst hc; grind) (by subst hc; grind) (by subst hc; grind) (by subst hc; grind)
    apply sub
    · subst hc; grind
    · exact e.1
    · rw [hc]; rw [hc] at e; exact e.2
  · have hs : s = -1 := by omega
    subst hs
    have e1 : 2 * a * -1 * q + b * (-1 * -1 + q * 0) + 2 * c * 0 * -1 = 2 * (a * (-q)) + b := by grind
    rw [e1] at g1 g2
    have hq := shift_small ha (t := -q) h1 h2 (by omega) (by omega)
    have hq : q = 0 := by omega
    subst hq
    apply sub <;> grind
  · exfalso; omega
  · have hs : s = 1 := by omega
    subst hs
    have e1 : 2 * a * 1 * q + b * (1 * 1 + q * 0) + 2 * c * 0 * 1 = 2 * (a * q) + b := by grind
    rw [e1] at g1 g2
    have hq := shift_small ha (t := q) h1 h2 (by omega) (by omega)
    subst hq
    apply sub <;> grind
  · have hb : b = a := by omega
    have hc : c = a := by omega
    subst hb
    have e := corner ha (y := 2 * b * -1 * q + b * (-1 * s + q * 1) + 2 * c * 1 * s) (z := b * q * q + b * q * s + c * s * s) (by subst hc; grind) (by subst hc; grind) (by subst hc; grind) (by subst hc; grind)
    apply sub
    · subst hc; grind
    · exact e.1
    · rw [hc]; rw [hc] at e; exact e.2
  · have hq : q = -1 := by omega
    subst hq
    have hc : c = a := by omega
    subst hc
    have e1 : 2 * c * 0 * -1 + b * (0 * s + -1 * 1) + 2 * c * 1 * s = 2 * (c * s) - b := by grind
    rw [e1] at g1 g2
    rcases turn_small (b := b) ha (k := s) (by omega) (by omega) (by omega) (by omega) with h | ⟨h, h'⟩
    · have hs : s = 0 := by omega
      subst hs
      have hb : b = 0 := by grind
      subst hb
      apply sub <;> grind
    · have hs : s = 1 := by omega
      subst hs h'
      apply sub <;> grind
  · exfalso; omega
theorem red_unique {f g : Fm} (hf : Red f) (hg : Red g) (e : Eqv f g) : f = g := by
  rcases Int.le_total g.a f.a with h | h
  · exact (red_one hf hg e h).symm
  · exact red_one hg hf e.symm h
end K19
/-! K19MathD -/
set_option maxRecDepth 10000
set_option linter.all false
namespace K19
/-! ### indefinite forms: the river -/
def Riv (f : Fm) : Prop := 0 < f.a ∧ f.c < 0
def NSq (d : Int) : Prop := ∀ k : Int, d ≠ k * k
def mT : Mx := ⟨1, 1, 0, 1⟩
def mL : Mx := ⟨1, 0, 1, 1⟩
def nu (f : Fm) : Fm := if f.a + f.b + f.c < 0 then ⟨f.a, f.b + 2 * f.a, f.a + f.b + f.c⟩ else ⟨f.a + f.b + f.c, f.b + 2 * f.c, f.c⟩
def nuN : Nat → Fm → Fm
  | 0, f => f
  | n + 1, f => nuN n (nu f)
theorem act_T (f : Fm) : act f mT = ⟨f.a, f.b + 2 * f.a, f.a + f.b + f.c⟩ := by
  apply Fm.ext' <;> simp only [act, mT, val] <;> grind
theorem act_L (f : Fm) : act f mL = ⟨f.a + f.b + f.c, f.b + 2 * f.c, f.c⟩ := by
  apply Fm.ext' <;> simp only [act, mL, val] <;> grind
theorem ns_sum {f : Fm} (h : NSq (disc f)) : f.a + f.b + f.c ≠ 0 := fun e => by
  refine h (f.a - f.c) ?_
  have : f.b = -f.a - f.c := by omega
  simp only [disc, this]; grind
theorem slope {a b c x1 y1 x2 y2 : Int} (ha : 0 < a) (hc : c < 0) (h1 : 0 ≤ x1) (h2 : 0 ≤ y1) (h3 : 0 ≤ x2) (h4 : 0 ≤ y2)
    (hp : 0 < a * x1 * x1 + b * x1 * y1 + c * y1 * y1) (hn : a * x2 * x2 + b * x2 * y2 + c * y2 * y2 < 0) : x2 * y1 < x1 * y2 := by
  apply Int.not_le.mp; intro g
  have e : (a * x2 * x2 + b * x2 * y2 + c * y2 * y2) * (x1 * y1) = (a * x1 * x1 + b * x1 * y1 + c * y1 * y1) * (x2 * y2) + (x2 * y1 - x1 * y2) * (a * (x1 * x2) + (-c) * (y1 * y2)) := by grind
  have k1 := Int.mul_nonneg (Int.le_of_lt hp) (Int.mul_nonneg h3 h4)
  have k2 := Int.mul_nonneg (show 0 ≤ x2 * y1 - x1 * y2 by omega) (Int.add_nonneg (Int.mul_nonneg (Int.le_of_lt ha) (Int.mul_nonneg h1 h3)) (Int.mul_nonneg (show 0 ≤ -c by omega) (Int.mul_nonneg h2 h4)))
  have x1p : 0 < x1 := by
    rcases Int.lt_or_le 0 x1 with h | h
    · exact h
    · have z : x1 = 0 := by omega
      subst z
      have := Int.mul_nonneg (show 0 ≤ -c by omega) (sq_nonneg y1)
      exfalso; grind
  rcases Int.lt_or_le 0 y1 with h | h
  · have := Int.mul_pos (show 0 < -(a * x2 * x2 + b * x2 * y2 + c * y2 * y2) by omega) (Int.mul_pos x1p h)
    rw [Int.neg_mul] at this
    omega
  · have z : y1 = 0 := by omega
    subst z
    have z2 : y2 = 0 := by
      rcases Int.lt_or_le 0 y2 with h | h
      · have := Int.mul_pos x1p h
        omega
      · omega
    subst z2
    have := Int.mul_nonneg (Int.le_of_lt ha) (sq_nonneg x2)
    grind
theorem dom {p q r s : Int} (hp : 0 ≤ p) (hq : 0 ≤ q) (hr : 0 ≤ r) (hs : 0 ≤ s) (d : p * s - q * r = 1) :
    (p = 1 ∧ q = 0 ∧ r = 0 ∧ s = 1) ∨ (r ≤ p ∧ s ≤ q) ∨ (p ≤ r ∧ q ≤ s) := by
  have qr := Int.mul_nonneg hq hr
  have p1 : 0 < p := by
    rcases Int.lt_or_le 0 p with h | h
    · exact h
    · have z : p = 0 := by omega
      subst z; exfalso; omega
  have s1 : 0 < s := by
    rcases Int.lt_or_le 0 s with h | h
    · exact h
    · have z : s = 0 := by omega
      subst z; exfalso; omega
  rcases Int.lt_or_le r p with h | h
  · rcases Int.lt_or_le q s with g | g
    · -- r < p, q < s : only the unit
      left
      have e : p * s - q * r = (p - r - 1) * s + (s - q - 1) * r + s + r := by grind
      have k1 := Int.mul_nonneg (show 0 ≤ p - r - 1 by omega) hs
      have k2 := Int.mul_nonneg (show 0 ≤ s - q - 1 by omega) hr
      have s2 : s = 1 := by omega
      have r2 : r = 0 := by omega
      have q2 : q = 0 := by omega
      subst s2 r2 q2
      exact ⟨by omega, rfl, rfl, rfl⟩
    · exact .inr (.inl ⟨Int.le_of_lt h, g⟩)
  · rcases Int.lt_or_le s q with g | g
    · exfalso
      have e : p * s - q * r = -((r - p) * s + (q - s) * r) := by grind
      have k1 := Int.mul_nonneg (show 0 ≤ r - p by omega) hs
      have k2 := Int.mul_nonneg (show 0 ≤ q - s by omega) hr
      omega
    · exact .inr (.inr ⟨h, g⟩)
theorem pos_low {a b c q s : Int} (ha : 0 < a) (hc : c < 0) (h : 0 < a + b + c) (hs : 0 ≤ s) (hq : s ≤ q) : 0 ≤ a * q * q + b * q * s + c * s * s := by
  have e : a * q * q + b * q * s + c * s * s = (a + b + c) * (s * s) + ((a + b + c) + (a - c)) * (s * (q - s)) + a * ((q - s) * (q - s)) := by grind
  have k1 := Int.mul_nonneg (Int.le_of_lt h) (sq_nonneg s)
  have k2 := Int.mul_nonneg (show 0 ≤ (a + b + c) + (a - c) by omega) (Int.mul_nonneg hs (show 0 ≤ q - s by omega))
  have k3 := Int.mul_nonneg (Int.le_of_lt ha) (sq_nonneg (q - s))
  omega
theorem neg_low {a b c p r : Int} (ha : 0 < a) (hc : c < 0) (h : a + b + c < 0) (hp : 0 ≤ p) (hr : p ≤ r) : a * p * p + b * p * r + c * r * r ≤ 0 := by
  have e : a * p * p + b * p * r + c * r * r = -((-(a + b + c)) * (p * p) + (-(a + b + c) + (a - c)) * (p * (r - p)) + (-c) * ((r - p) * (r - p))) := by grind
  have k1 := Int.mul_nonneg (show 0 ≤ -(a + b + c) by omega) (sq_nonneg p)
  have k2 := Int.mul_nonneg (show 0 ≤ -(a + b + c) + (a - c) by omega) (Int.mul_nonneg hp (show 0 ≤ r - p by omega))
  have k3 := Int.mul_nonneg (show 0 ≤ -c by omega) (sq_nonneg (r - p))
  omega
theorem riv_path : ∀ (n : Nat) (f : Fm) (m : Mx), (m.p + m.q + m.r + m.s).toNat ≤ n → 0 ≤ m.p → 0 ≤ m.q → 0 ≤ m.r → 0 ≤ m.s → det m = 1 → NSq (disc f) → Riv f → Riv (act f m) → ∃ k, nuN k f = act f m
  | 0, f, ⟨p, q, r, s⟩, hn, hp, hq, hr, hs, d, _, _, _ => by
    simp only at *
    have : p = 0 := by omega
    have : q = 0 := by omega
    subst p q
    simp [det] at d
  | n + 1, f, m, hn, hp, hq, hr, hs, d, ns, hf, hg => by
    have hS := ns_sum ns
    have d' : m.p * m.s - m.q * m.r = 1 := d
    rcases dom hp hq hr hs d' with ⟨e1, e2, e3, e4⟩ | ⟨h1, h2⟩ | ⟨h1, h2⟩
    · refine ⟨0, ?_⟩
      have : m = one := Mx.ext' e1 e2 e3 e4
      rw [this, act_one]; rfl
    · -- the top row is the greater one
      have hlt : f.a + f.b + f.c < 0 := by
        apply Int.not_le.mp; intro g
        have := pos_low (q := m.q) (s := m.s) hf.1 hf.2 (show 0 < f.a + f.b + f.c by omega) hs h2
        have z : f.a * m.q * m.q + f.b * m.q * m.s + f.c * m.s * m.s < 0 := hg.2
        omega
      have en : nu f = act f mT := by
        unfold nu; rw [if_pos hlt, act_T]
      have em : m = mul mT ⟨m.p - m.r, m.q - m.s, m.r, m.s⟩ := by
        apply Mx.ext' <;> simp only [mul, mT] <;> omega
      have ea : act f m = act (act f mT) ⟨m.p - m.r, m.q - m.s, m.r, m.s⟩ := by rw [act_mul, ← em]
      have pos : 0 < m.r + m.s := by
        rcases Int.lt_or_le 0 (m.r + m.s) with h | h
        · exact h
        · have z1 : m.r = 0 := by omega
          have z2 : m.s = 0 := by omega
          rw [z1, z2] at d'; omega
      obtain ⟨k, hk⟩ := riv_path n (act f mT) ⟨m.p - m.r, m.q - m.s, m.r, m.s⟩ (by simp only; omega) (by simp only; omega) (by simp only; omega) hr hs (by simp only [det]; grind)
        (by rw [disc_act]; simpa [det, mT] using ns) (by rw [act_T]; exact ⟨hf.1, hlt⟩) (by rw [← ea]; exact hg)
      exact ⟨k + 1, by rw [nuN, en, hk, ea]⟩
    · have hlt : ¬ f.a + f.b + f.c < 0 := fun g => by
        have := neg_low (p := m.p) (r := m.r) hf.1 hf.2 g hp h1
        have z : 0 < f.a * m.p * m.p + f.b * m.p * m.r + f.c * m.r * m.r := hg.1
        omega
      have en : nu f = act f mL := by
        unfold nu; rw [if_neg hlt, act_L]
      have em : m = mul mL ⟨m.p, m.q, m.r - m.p, m.s - m.q⟩ := by
        apply Mx.ext' <;> simp only [mul, mL] <;> omega
      have ea : act f m = act (act f mL) ⟨m.p, m.q, m.r - m.p, m.s - m.q⟩ := by rw [act_mul, ← em]
      have pos : 0 < m.p + m.q := by
        rcases Int.lt_or_le 0 (m.p + m.q) with h | h
        · exact h
        · have z1 : m.p = 0 := by omega
          have z2 : m.q = 0 := by omega
          rw [z1, z2] at d'; omega
      obtain ⟨k, hk⟩ := riv_path n (act f mL) ⟨m.p, m.q, m.r - m.p, m.s - m.q⟩ (by simp only; omega) hp hq (by simp only; omega) (by simp only; omega) (by simp only [det]; grind)
        (by rw [disc_act]; simpa [det, mL] using ns) (by rw [act_L]; exact ⟨by simp only; omega, hf.2⟩) (by rw [← ea]; exact hg)
      exact ⟨k + 1, by rw [nuN, en, hk, ea]⟩
theorem act_neg (f : Fm) (m : Mx) : act f ⟨-m.p, -m.q, -m.r, -m.s⟩ = act f m := by
  apply Fm.ext' <;> simp only [act, val] <;> grind
theorem mul_pos_cases {x y : Int} (h : 0 < x * y) : (0 < x ∧ 0 < y) ∨ (x < 0 ∧ y < 0) := by
  rcases Int.lt_trichotomy x 0 with h1 | h1 | h1
  · right; refine ⟨h1, ?_⟩
    apply Int.not_le.mp; intro g
    have := Int.mul_nonneg (show 0 ≤ -x by omega) g
    rw [Int.neg_mul] at this; omega
  · rw [h1] at h; omega
  · left; refine ⟨h1, ?_⟩
    apply Int.not_le.mp; intro g
    have := Int.mul_nonneg (show 0 ≤ x by omega) (show 0 ≤ -y by omega)
    rw [Int.mul_neg] at this; omega
/-- two river forms of one class lie on one walk -/
theorem riv_two {f g : Fm} (ns : NSq (disc f)) (hf : Riv f) (hg : Riv g) (e : Eqv f g) : (∃ k, nuN k f = g) ∨ ∃ k, nuN k g = f := by
  have main : ∀ m : Mx, det m = 1 → act f m = g → 0 < m.p → 0 < m.s → (∃ k, nuN k f = g) ∨ ∃ k, nuN k g = f := by
    intro m d e hp hs
    have d' : m.p * m.s - m.q * m.r = 1 := d
    have ps := Int.mul_pos hp hs
    rcases Int.lt_or_le m.q 0 with hq | hq
    · -- q < 0 so r ≤ 0
      have hr : m.r ≤ 0 := by
        apply Int.not_lt.mp; intro hr
        have := Int.mul_pos (show 0 < -m.q by omega) hr
        rw [Int.neg_mul] at this; omega
      right
      have ei := act_inv d e
      obtain ⟨k, hk⟩ := riv_path _ g (inv m) (Nat.le_refl _) (Int.le_of_lt hs) (by simp only [inv]; omega) (by simp only [inv]; omega) (Int.le_of_lt hp) (by rw [det_inv, d])
        (by rw [← e, disc_act, d]; simpa using ns) hg (by rw [ei]; exact hf)
      exact ⟨k, by rw [hk, ei]⟩
    · rcases Int.lt_or_le m.r 0 with hr | hr
      · have hq0 : m.q = 0 := by
          rcases Int.lt_or_le 0 m.q with h | h
          · have := Int.mul_pos h (show 0 < -m.r by omega)
            rw [Int.mul_neg] at this; omega
          · omega
        right
        have ei := act_inv d e
        obtain ⟨k, hk⟩ := riv_path _ g (inv m) (Nat.le_refl _) (Int.le_of_lt hs) (by simp only [inv]; omega) (by simp only [inv]; omega) (Int.le_of_lt hp) (by rw [det_inv, d])
          (by rw [← e, disc_act, d]; simpa using ns) hg (by rw [ei]; exact hf)
        exact ⟨k, by rw [hk, ei]⟩
      · left
        obtain ⟨k, hk⟩ := riv_path _ f m (Nat.le_refl _) (Int.le_of_lt hp) hq hr (Int.le_of_lt hs) d ns hf (by rw [e]; exact hg)
        exact ⟨k, by rw [hk, e]⟩
  have none : ∀ m : Mx, det m = 1 → act f m = g → 0 < m.q → m.r < 0 → m.p * m.s ≤ 0 → False := by
    intro m d e hq hr hps
    have d' : m.p * m.s - m.q * m.r = 1 := d
    have v1 : 0 < f.a * m.p * m.p + f.b * m.p * m.r + f.c * m.r * m.r := by rw [← e] at hg; exact hg.1
    have v2 : f.a * m.q * m.q + f.b * m.q * m.s + f.c * m.s * m.s < 0 := by rw [← e] at hg; exact hg.2
    have split : (0 ≤ m.p ∧ m.s ≤ 0) ∨ (m.p ≤ 0 ∧ 0 ≤ m.s) := by
      rcases Int.lt_trichotomy m.p 0 with h | h | h
      · right; refine ⟨Int.le_of_lt h, ?_⟩
        apply Int.not_lt.mp; intro g
        have := Int.mul_pos (show 0 < -m.p by omega) (show 0 < -m.s by omega)
        rw [Int.neg_mul_neg] at this; omega
      · rcases Int.le_total 0 m.s with g | g
        · right; exact ⟨by omega, g⟩
        · left; exact ⟨by omega, g⟩
      · left; refine ⟨Int.le_of_lt h, ?_⟩
        apply Int.not_lt.mp; intro g
        have := Int.mul_pos h g
        omega
    rcases split with ⟨h1, h2⟩ | ⟨h1, h2⟩
    · have := slope (a := f.a) (b := -f.b) (c := f.c) (x1 := m.p) (y1 := -m.r) (x2 := m.q) (y2 := -m.s) hf.1 hf.2 h1 (by omega) (Int.le_of_lt hq) (by omega) (by grind) (by grind)
      rw [Int.mul_neg, Int.mul_neg] at this
      omega
    · have := slope (a := f.a) (b := f.b) (c := f.c) (x1 := -m.p) (y1 := -m.r) (x2 := m.q) (y2 := m.s) hf.1 hf.2 (by omega) (by omega) (Int.le_of_lt hq) h2 (by grind) v2
      rw [Int.mul_neg, Int.neg_mul] at this
      omega
  obtain ⟨m, d, e⟩ := e
  have d' : m.p * m.s - m.q * m.r = 1 := d
  have dn : det ⟨-m.p, -m.q, -m.r, -m.s⟩ = 1 := by simp only [det]; grind
  have en := (act_neg f m).trans e
  rcases Int.lt_or_le 0 (m.p * m.s) with h | h
  · rcases mul_pos_cases h with ⟨h1, h2⟩ | ⟨h1, h2⟩
    · exact main m d e h1 h2
    · exact main _ dn en (by simp only; omega) (by simp only; omega)
  · have hqr : 0 < m.q * (-m.r) := by rw [Int.mul_neg]; omega
    rcases mul_pos_cases hqr with ⟨h1, h2⟩ | ⟨h1, h2⟩
    · exact (none m d e h1 (by omega) h).elim
    · exact (none _ dn en (by simp only; omega) (by simp only; omega) (by simp only; rw [Int.neg_mul_neg]; exact h)).elim
end K19
/-! K19Num -/
set_option maxRecDepth 10000
set_option linter.all false
namespace K19
/-! ### sizes -/
def Bd (n : Nat) (i : Int) : Prop := i.natAbs < 2 ^ n
theorem Bd.mono {m n : Nat} {i : Int} (h : Bd m i) (e : m ≤ n) : Bd n i := Nat.lt_of_lt_of_le h (Nat.pow_le_pow_right (by decide) e)
theorem Bd.of_le {n : Nat} {i j : Int} (h : Bd n j) (e : i.natAbs ≤ j.natAbs) : Bd n i := Nat.lt_of_le_of_lt e h
theorem Bd.neg {n : Nat} {i : Int} (h : Bd n i) : Bd n (-i) := by unfold Bd at *; rw [Int.natAbs_neg]; exact h
theorem pow_two_add (a b : Nat) : 2 ^ a + 2 ^ b ≤ 2 ^ (a + b + 1) := by
  have h1 : 2 ^ a ≤ 2 ^ (a + b) := Nat.pow_le_pow_right (by decide) (by omega)
  have h2 : 2 ^ b ≤ 2 ^ (a + b) := Nat.pow_le_pow_right (by decide) (by omega)
  have h3 : 2 ^ (a + b + 1) = 2 ^ (a + b) * 2 := Nat.pow_succ ..
  omega
theorem pow_max_add (a b : Nat) : 2 ^ a + 2 ^ b ≤ 2 ^ (max a b + 1) := by
  have h1 : 2 ^ a ≤ 2 ^ (max a b) := Nat.pow_le_pow_right (by decide) (by omega)
  have h2 : 2 ^ b ≤ 2 ^ (max a b) := Nat.pow_le_pow_right (by decide) (by omega)
  have h3 : 2 ^ (max a b + 1) = 2 ^ (max a b) * 2 := Nat.pow_succ ..
  omega
theorem Bd.add {a b : Nat} {i j : Int} (h : Bd a i) (k : Bd b j) : Bd (max a b + 1) (i + j) := by
  have := pow_max_add a b
  unfold Bd at *
  omega
theorem Bd.sub {a b : Nat} {i j : Int} (h : Bd a i) (k : Bd b j) : Bd (max a b + 1) (i - j) := by
  have := pow_max_add a b
  unfold Bd at *
  omega
theorem Bd.mul {a b : Nat} {i j : Int} (h : Bd a i) (k : Bd b j) : Bd (a + b) (i * j) := by
  unfold Bd at *
  rw [Int.natAbs_mul, Nat.pow_add]
  exact Nat.mul_lt_mul'' h k
theorem Bd.fdiv {a : Nat} {i j : Int} (h : Bd a i) : Bd a (i.fdiv j) := by
  refine Bd.of_le h ?_
  rcases Int.lt_trichotomy j 0 with hj | hj | hj
  · have e : i.fdiv j = (-i).fdiv (-j) := by rw [Int.neg_fdiv_neg]
    rw [e, Int.fdiv_eq_ediv_of_nonneg _ (by omega)]
    have h1 := Int.ediv_mul_le (-i) (show -j ≠ 0 by omega)
    have h2 := Int.lt_ediv_add_one_mul_self (-i) (show 0 < -j by omega)
    generalize (-i) / (-j) = q at *
    rcases Int.le_total 0 q with hq | hq
    · have := Int.mul_le_mul_of_nonneg_left (show 1 ≤ -j by omega) hq
      omega
    · have := Int.mul_le_mul_of_nonneg_left (show 1 ≤ -j by omega) (show 0 ≤ -q by omega)
      rw [Int.neg_mul] at this
      rw [Int.add_mul] at h2
      have h3 := Int.mul_le_mul_of_nonneg_left (show 1 ≤ -j by omega) (show 0 ≤ -q by omega)
      have h4 : q * -j + 1 * -j > -i := by omega
      by_cases q0 : q = 0
      · subst q0; omega
      · have h5 := Int.mul_le_mul_of_nonneg_left (show 1 ≤ -j by omega) (show 0 ≤ -q - 1 by omega)
        have h6 : (-q - 1) * -j = -(q * -j) - (1 * -j) := by grind
        omega
  · subst hj; simp
  · rw [Int.fdiv_eq_ediv_of_nonneg _ (by omega)]
    have h1 := Int.ediv_mul_le i (show j ≠ 0 by omega)
    have h2 := Int.lt_ediv_add_one_mul_self i hj
    generalize i / j = q at *
    rcases Int.le_total 0 q with hq | hq
    · have := Int.mul_le_mul_of_nonneg_left (show 1 ≤ j by omega) hq
      omega
    · rw [Int.add_mul] at h2
      by_cases q0 : q = 0
      · subst q0; omega
      · have h5 := Int.mul_le_mul_of_nonneg_left (show 1 ≤ j by omega) (show 0 ≤ -q - 1 by omega)
        have h6 : (-q - 1) * j = -(q * j) - (1 * j) := by grind
        omega
/-- floor and rest -/
theorem fdm (x y : Int) : x.fdiv y * y + x.fmod y = x := by
  rw [Int.mul_comm]; exact Int.mul_fdiv_add_fmod x y
theorem fmod_pos {x y : Int} (h : 0 < y) : 0 ≤ x.fmod y ∧ x.fmod y < y := ⟨Int.fmod_nonneg_of_pos x h, Int.fmod_lt_of_pos x h⟩
theorem fmod_neg {x y : Int} (h : y < 0) : y < x.fmod y ∧ x.fmod y ≤ 0 := by
  have e : x.fmod y = -((-x).fmod (-y)) := by
    have h1 := fdm x y
    have h2 := fdm (-x) (-y)
    rw [Int.neg_fdiv_neg] at h2
    grind
  have := fmod_pos (x := -x) (y := -y) (by omega)
  omega
theorem fmod_abs {x y : Int} (h : y ≠ 0) : (x.fmod y).natAbs < y.natAbs := by
  rcases Int.lt_or_gt_of_ne h with g | g
  · have := fmod_neg (x := x) g; omega
  · have := fmod_pos (x := x) g; omega
theorem Bd.fmod {b : Nat} {i j : Int} (h : Bd b j) (hj : j ≠ 0) : Bd b (i.fmod j) := Bd.of_le h (Nat.le_of_lt (fmod_abs hj))
end K19
/-! K19Bez -/
set_option maxRecDepth 10000
set_option linter.all false
namespace K19
/-! ### the loop of bezout -/
structure BZ (a b lo lu lv hi hu hv : Int) : Prop where
  e1 : lu * a + lv * b = lo
  e2 : hu * a + hv * b = hi
  g : Int.gcd lo hi = Int.gcd a b
  d : lo * hu - hi * lu = b ∨ lo * hu - hi * lu = -b
  s : hu = 0 ∨ (0 ≤ lo * hi ∧ lu * hu ≤ 0 ∧ lo ≠ 0)
  bl : lo.natAbs ≤ a.natAbs + b.natAbs
  bh : hi.natAbs ≤ b.natAbs
  bu : lu.natAbs ≤ b.natAbs + 1
  cu : hu.natAbs ≤ b.natAbs + 1
  bv : lv.natAbs ≤ 3 * a.natAbs + 1
  cv : hv.natAbs ≤ 3 * a.natAbs + 1
theorem BZ.start (a b : Int) : BZ a b a 1 0 b 0 1 where
  e1 := by omega
  e2 := by omega
  g := rfl
  d := .inr (by omega)
  s := .inl rfl
  bl := by omega
  bh := Nat.le_refl _
  bu := by omega
  cu := by omega
  bv := by omega
  cv := by omega
theorem nat_of_mul {x y : Int} {c : Nat} (hx : x ≠ 0) (h : (x * y).natAbs ≤ c) : y.natAbs ≤ c := by
  rw [Int.natAbs_mul] at h
  exact Nat.le_trans (Nat.le_mul_of_pos_left _ (by omega)) h
/-- two terms of unlike sign whose difference is b or -b -/
theorem opp {x y b : Int} (h : x - y = b ∨ x - y = -b) (hs : x * y ≤ 0) : x.natAbs ≤ b.natAbs := by
  have hx : (0 ≤ x ∧ y ≤ 0) ∨ (x ≤ 0 ∧ 0 ≤ y) := by
    rcases Int.lt_trichotomy x 0 with hx | hx | hx
    · right; refine ⟨Int.le_of_lt hx, ?_⟩
      apply Int.not_lt.mp; intro g
      have := Int.mul_pos (show 0 < -x by omega) (show 0 < -y by omega)
      rw [Int.neg_mul_neg] at this; omega
    · subst hx
      rcases Int.le_total 0 y with g | g
      · exact .inr ⟨Int.le_refl _, g⟩
      · exact .inl ⟨Int.le_refl _, g⟩
    · left; refine ⟨Int.le_of_lt hx, ?_⟩
      apply Int.not_lt.mp; intro g
      have := Int.mul_pos hx g
      omega
  omega
theorem cof_le {a b u v l : Int} (e : u * a + v * b = l) (hb : b ≠ 0) (hl : l.natAbs ≤ a.natAbs + b.natAbs) (hu : u.natAbs ≤ b.natAbs + 1) : v.natAbs ≤ 3 * a.natAbs + 1 := by
  have h1 : (v * b).natAbs ≤ l.natAbs + (u * a).natAbs := by omega
  rw [Int.natAbs_mul, Int.natAbs_mul] at h1
  have h2 : u.natAbs * a.natAbs ≤ (b.natAbs + 1) * a.natAbs := Nat.mul_le_mul_right _ hu
  have hb1 : 1 ≤ b.natAbs := by omega
  generalize v.natAbs = V at *
  generalize a.natAbs = A at *
  generalize b.natAbs = B at *
  generalize u.natAbs * A = U at *
  have h3 : A ≤ A * B := Nat.le_mul_of_pos_right _ hb1
  have h4 : V * B ≤ (3 * A + 1) * B := by
    have e1 : (3 * A + 1) * B = 3 * (A * B) + B := by grind
    have e2 : (B + 1) * A = A * B + A := by grind
    omega
  exact Nat.le_of_mul_le_mul_right h4 hb1
theorem BZ.step {a b lo lu lv hi hu hv : Int} (h : BZ a b lo lu lv hi hu hv) (h0 : hi ≠ 0) : BZ a b hi hu hv (lo - lo.fdiv hi * hi) (lu - lo.fdiv hi * hu) (lv - lo.fdiv hi * hv) := by
  obtain ⟨e1, e2, g, d, s, bl, bh, bu, cu, bv, cv⟩ := h
  have hq := fdm lo hi
  have hr : lo - lo.fdiv hi * hi = lo.fmod hi := by omega
  have hb : b ≠ 0 := by omega
  have sg : 0 ≤ hi * lo.fmod hi := by
    rcases Int.lt_or_gt_of_ne h0 with k | k
    · have := fmod_neg (x := lo) k
      have := Int.mul_nonneg (show 0 ≤ -hi by omega) (show 0 ≤ -(lo.fmod hi) by omega)
      rwa [Int.neg_mul_neg] at this
    · exact Int.mul_nonneg (Int.le_of_lt k) (fmod_pos k).1
  have f2 : (lu - lo.fdiv hi * hu) * a + (lv - lo.fdiv hi * hv) * b = lo - lo.fdiv hi * hi := by grind
  have d2 : hi * (lu - lo.fdiv hi * hu) - (lo - lo.fdiv hi * hi) * hu = b ∨ hi * (lu - lo.fdiv hi * hu) - (lo - lo.fdiv hi * hi) * hu = -b := by
    rcases d with d | d
    · right; grind
    · left; grind
  have us : hu * (lu - lo.fdiv hi * hu) ≤ 0 := by
    rcases s with s | ⟨s1, s2, s3⟩
    · rw [s]; omega
    · have q0 : 0 ≤ lo.fdiv hi := by
        rcases Int.lt_or_gt_of_ne h0 with k | k
        · have hl : lo ≤ 0 := by
            apply Int.not_lt.mp; intro l
            have := Int.mul_pos l (show 0 < -hi by omega)
            rw [Int.mul_neg] at this; omega
          apply Int.not_lt.mp; intro z
          have hf := fmod_neg (x := lo) k
          have := Int.mul_le_mul_of_nonneg_right (show 1 ≤ -(lo.fdiv hi) by omega) (show 0 ≤ -hi by omega)
          rw [Int.neg_mul_neg] at this; omega
        · have hl : 0 ≤ lo := by
            apply Int.not_lt.mp; intro l
            have := Int.mul_pos (show 0 < -lo by omega) k
            rw [Int.neg_mul] at this; omega
          rw [Int.fdiv_eq_ediv_of_nonneg _ (Int.le_of_lt k)]
          exact Int.ediv_nonneg hl (Int.le_of_lt k)
      have := Int.mul_nonneg q0 (sq_nonneg hu)
      have e : hu * (lu - lo.fdiv hi * hu) = lu * hu - lo.fdiv hi * (hu * hu) := by grind
      omega
  have rl : (lo - lo.fdiv hi * hi).natAbs ≤ b.natAbs := by
    rw [hr]; exact Nat.le_trans (Nat.le_of_lt (fmod_abs h0)) bh
  have hu2 : (lu - lo.fdiv hi * hu).natAbs ≤ b.natAbs := by
    refine nat_of_mul h0 (opp d2 ?_)
    have e : (hi * (lu - lo.fdiv hi * hu)) * ((lo - lo.fdiv hi * hi) * hu) = (hi * lo.fmod hi) * (hu * (lu - lo.fdiv hi * hu)) := by rw [hr]; grind
    rw [e]
    have := Int.mul_nonneg sg (show 0 ≤ -(hu * (lu - lo.fdiv hi * hu)) by omega)
    rw [Int.mul_neg] at this; omega
  refine ⟨e2, f2, ?_, d2, .inr ⟨by rw [hr]; exact sg, us, h0⟩, by omega, rl, cu, by omega, cv, cof_le f2 hb (by omega) (by omega)⟩
  rw [Int.gcd_sub_mul_right_right, Int.gcd_comm, g]
/-- what bezout hands back -/
def BzOk (a b g u v : Int) : Prop := g = ((Int.gcd a b : Nat) : Int) ∧ u * a + v * b = g ∧ u.natAbs ≤ b.natAbs + 1 ∧ v.natAbs ≤ 3 * a.natAbs + 1
theorem BZ.done {a b lo lu lv hi hu hv : Int} (h : BZ a b lo lu lv hi hu hv) (h0 : hi = 0) : if lo < 0 then BzOk a b (-lo) (-lu) (-lv) else BzOk a b lo lu lv := by
  obtain ⟨e1, e2, g, d, s, bl, bh, bu, cu, bv, cv⟩ := h
  subst h0
  rw [Int.gcd_zero_right] at g
  split
  · exact ⟨by omega, by grind, by omega, by omega⟩
  · exact ⟨by omega, e1, by omega, by omega⟩
/-- the greatest common measure of a list -/
def gcdL : List Int → Nat → Nat
  | [], g => g
  | n :: ns, g => gcdL ns (Int.gcd g n)
end K19
/-! K19Arith -/
set_option maxRecDepth 10000
set_option linter.all false
namespace K19
/-! ### sums of multiples -/
theorem bez_nat : ∀ m n : Nat, ∃ u v : Int, u * (m : Int) + v * (n : Int) = ((Nat.gcd m n : Nat) : Int) := by
  intro m
  induction m using Nat.strongRecOn with
  | ind m ih =>
    intro n
    by_cases h : m = 0
    · subst h
      exact ⟨0, 1, by rw [Nat.gcd_zero_left]; omega⟩
    · obtain ⟨u, v, e⟩ := ih (n % m) (Nat.mod_lt _ (by omega)) m
      have e2 : ((n % m : Nat) : Int) = (n : Int) - (m : Int) * ((n / m : Nat) : Int) := by
        have := Nat.mod_add_div n m
        have h3 : ((n % m + m * (n / m) : Nat) : Int) = (n : Int) := by rw [this]
        push_cast at h3 ⊢
        omega
      rw [Nat.gcd_rec m n, ← e, e2]
      exact ⟨v - u * ((n / m : Nat) : Int), u, by grind⟩
theorem bez (a b : Int) : ∃ u v : Int, u * a + v * b = ((Int.gcd a b : Nat) : Int) := by
  obtain ⟨u, v, e⟩ := bez_nat a.natAbs b.natAbs
  have sa : ∃ s : Int, s * a = (a.natAbs : Int) := by
    rcases Int.lt_or_le a 0 with h | h
    · exact ⟨-1, by omega⟩
    · exact ⟨1, by omega⟩
  have sb : ∃ s : Int, s * b = (b.natAbs : Int) := by
    rcases Int.lt_or_le b 0 with h | h
    · exact ⟨-1, by omega⟩
    · exact ⟨1, by omega⟩
  obtain ⟨s, hs⟩ := sa
  obtain ⟨t, ht⟩ := sb
  refine ⟨u * s, v * t, ?_⟩
  rw [← hs, ← ht] at e
  show _ = ((Nat.gcd a.natAbs b.natAbs : Nat) : Int)
  rw [← e]
  grind
def Cop (a b : Int) : Prop := ∃ u v : Int, u * a + v * b = 1
theorem Cop.symm {a b : Int} (h : Cop a b) : Cop b a := by
  obtain ⟨u, v, e⟩ := h
  exact ⟨v, u, by omega⟩
theorem cop_iff {a b : Int} : Cop a b ↔ Int.gcd a b = 1 := by
  constructor
  · rintro ⟨u, v, e⟩
    have h1 : ((Int.gcd a b : Nat) : Int) ∣ 1 := by
      rw [← e]
      exact Int.dvd_add (Int.dvd_trans (Int.gcd_dvd_left ..) (Int.dvd_mul_left ..)) (Int.dvd_trans (Int.gcd_dvd_right ..) (Int.dvd_mul_left ..))
    have h2 := Int.natAbs_dvd_natAbs.mpr h1
    simp only [Int.natAbs_natCast, Int.natAbs_one] at h2
    exact Nat.dvd_one.mp h2
  · intro h
    obtain ⟨u, v, e⟩ := bez a b
    exact ⟨u, v, by rw [e, h]; rfl⟩
theorem Cop.mul {a b c : Int} (h1 : Cop a c) (h2 : Cop b c) : Cop (a * b) c := by
  obtain ⟨u, v, e⟩ := h1
  obtain ⟨u', v', e'⟩ := h2
  exact ⟨u * u', u * a * v' + v * c * v' + v * u' * b, by
    have : (u * a + v * c) * (u' * b + v' * c) = 1 := by rw [e, e']; rfl
    grind⟩
theorem Cop.dvd_left {a b c : Int} (h : Cop (a * b) c) : Cop a c := by
  obtain ⟨u, v, e⟩ := h
  exact ⟨u * b, v, by grind⟩
/-- a | b c, a and b without a common part -/
theorem Cop.dvd {a b c k : Int} (h : Cop a b) (e : b * c = a * k) : ∃ l, c = a * l := by
  obtain ⟨u, v, q⟩ := h
  refine ⟨u * c + v * k, ?_⟩
  have h1 : c = (u * a + v * b) * c := by rw [q]; omega
  have h2 : (u * a + v * b) * c = u * a * c + v * (b * c) := by grind
  rw [h2, e] at h1
  grind
theorem prim_iff (f : Fm) : Prim f ↔ gcdL [f.a, f.b, f.c] 0 = 1 := by
  have e0 : gcdL [f.a, f.b, f.c] 0 = Int.gcd ((Int.gcd f.a f.b : Nat) : Int) f.c := by
    unfold gcdL gcdL gcdL gcdL
    have : ((Int.gcd ((0 : Nat) : Int) f.a : Nat) : Int) = (f.a.natAbs : Int) := by
      show ((Int.gcd 0 f.a : Nat) : Int) = _
      rw [Int.gcd_zero_left]
    rw [this]
    congr 2
  rw [e0, ← cop_iff]
  constructor
  · rintro ⟨u, v, w, e⟩
    obtain ⟨k, hk⟩ := Int.gcd_dvd_left (a := f.a) (b := f.b)
    obtain ⟨l, hl⟩ := Int.gcd_dvd_right (a := f.a) (b := f.b)
    refine ⟨u * k + v * l, w, ?_⟩
    generalize ((Int.gcd f.a f.b : Nat) : Int) = g at hk hl
    rw [hk, hl] at e
    grind
  · rintro ⟨s, w, e⟩
    obtain ⟨u, v, q⟩ := bez f.a f.b
    rw [← q] at e
    exact ⟨s * u, s * v, w, by grind⟩
end K19
/-! K19Def -/
set_option maxRecDepth 10000
set_option linter.all false
namespace K19
/-! ### the reduction of positive forms -/
def redB (f : Fm) : Bool := (decide (-f.a < f.b) && (decide (f.b ≤ f.a) && decide (f.a ≤ f.c))) && (decide (0 ≤ f.b) || decide (f.a < f.c))
theorem redB_iff (f : Fm) : redB f = true ↔ Red f := by
  unfold redB Red
  simp only [Bool.and_eq_true, Bool.or_eq_true, decide_eq_true_eq]
  constructor
  · rintro ⟨⟨h1, h2, h3⟩, h4⟩; exact ⟨h1, h2, h3, h4⟩
  · rintro ⟨h1, h2, h3, h4⟩; exact ⟨⟨h1, h2, h3⟩, h4⟩
def muD (f : Fm) : Nat := 4 * f.b.natAbs + (if f.a > f.c then 2 else 0) + (if f.b < 0 then 1 else 0)
structure RP (f0 f : Fm) (m : Mx) : Prop where
  e : act f0 m = f
  d : det m = 1
  a : 0 < f.a
  b : f.b.natAbs ≤ f0.b.natAbs
theorem c_pos {f : Fm} (ha : 0 < f.a) (hd : disc f < 0) : 0 < f.c := by
  apply Int.not_le.mp; intro h
  have := Int.mul_nonneg (Int.le_of_lt ha) (show 0 ≤ -f.c by omega)
  have h2 := sq_nonneg f.b
  have e : f.a * (-f.c) = -(f.a * f.c) := by grind
  have e2 : 4 * f.a * f.c = 4 * (f.a * f.c) := by grind
  unfold disc at hd
  omega
theorem RP.disc {f0 f : Fm} {m : Mx} (h : RP f0 f m) : disc f = disc f0 := by rw [← h.e, disc_act, h.d]; grind
theorem RP.start {f : Fm} (ha : 0 < f.a) : RP f f one := ⟨act_one f, by decide, ha, Nat.le_refl _⟩
def mS : Mx := ⟨0, -1, 1, 0⟩
theorem act_S (f : Fm) : act f mS = ⟨f.c, -f.b, f.a⟩ := by
  apply Fm.ext' <;> simp only [act, mS, val] <;> grind
theorem RP.swap {f0 f : Fm} {m : Mx} (h : RP f0 f m) (hd : K19.disc f0 < 0) (hs : f.a > f.c ∨ (f.a = f.c ∧ f.b < 0)) : RP f0 (act f mS) (mul m mS) ∧ muD (act f mS) < muD f := by
  have hc := c_pos h.a (by rw [h.disc]; exact hd)
  refine ⟨⟨by rw [← act_mul, h.e], by rw [det_mul, h.d]; rfl, by rw [act_S]; exact hc, by rw [act_S]; have := h.b; simp only; omega⟩, ?_⟩
  rw [act_S]
  unfold muD
  simp only
  rcases hs with hs | ⟨h1, h2⟩
  · rw [if_pos hs, if_neg (show ¬ f.c > f.a by omega)]
    split <;> split <;> omega
  · rw [if_neg (show ¬ f.a > f.c by omega), if_neg (show ¬ f.c > f.a by omega), if_pos h2, if_neg (show ¬ -f.b < 0 by omega)]
    omega
def mSh (k : Int) : Mx := ⟨1, k, 0, 1⟩
theorem act_Sh (f : Fm) (k : Int) : act f (mSh k) = ⟨f.a, f.b + 2 * f.a * k, f.a * k * k + f.b * k + f.c⟩ := by
  apply Fm.ext' <;> simp only [act, mSh, val] <;> grind
theorem det_Sh (k : Int) : det (mSh k) = 1 := by simp only [det, mSh]; omega
theorem shift_b {a b : Int} (ha : 0 < a) : -a < b + 2 * a * (a - b).fdiv (2 * a) ∧ b + 2 * a * (a - b).fdiv (2 * a) ≤ a := by
  have h1 := fdm (a - b) (2 * a)
  have h2 := fmod_pos (x := a - b) (show 0 < 2 * a by omega)
  have e : (a - b).fdiv (2 * a) * (2 * a) = 2 * a * (a - b).fdiv (2 * a) := by grind
  omega
theorem RP.shift {f0 f : Fm} {m : Mx} (h : RP f0 f m) (hn : ¬ Red f) (hs : ¬ (f.a > f.c ∨ (f.a = f.c ∧ f.b < 0))) :
    RP f0 (act f (mSh ((f.a - f.b).fdiv (2 * f.a)))) (mul m (mSh ((f.a - f.b).fdiv (2 * f.a)))) ∧ muD (act f (mSh ((f.a - f.b).fdiv (2 * f.a)))) < muD f := by
  obtain ⟨b1, b2⟩ := shift_b (a := f.a) (b := f.b) h.a
  have hc : ¬ f.a > f.c := fun z => hs (.inl z)
  have hb : f.b ≤ -f.a ∨ f.a < f.b := by
    apply Classical.byContradiction
    intro z
    have h3 : ¬ (f.a = f.c ∧ f.b < 0) := fun y => hs (.inr y)
    exact hn ⟨by omega, by omega, by omega, by omega⟩
  have ha := h.a
  have bb := h.b
  have hk : f.b = -f.a → (f.a - f.b).fdiv (2 * f.a) = 1 := fun e => by
    rw [e, show f.a - -f.a = 2 * f.a by omega, Int.fdiv_self (by omega)]
  refine ⟨⟨by rw [← act_mul, h.e], by rw [det_mul, h.d, det_Sh]; rfl, by rw [act_Sh]; exact ha, by rw [act_Sh]; simp only; omega⟩, ?_⟩
  rw [act_Sh]
  unfold muD
  simp only
  rw [if_neg hc]
  by_cases e : f.b = -f.a
  · rw [hk e, e]
    rw [if_neg (show ¬ f.a > f.a * 1 * 1 + -f.a * 1 + f.c by omega), if_pos (show -f.a < 0 by omega), if_neg (show ¬ -f.a + 2 * f.a * 1 < 0 by omega)]
    omega
  · split <;> split <;> split <;> omega
/-! sizes -/
theorem val_lowD {f : Fm} (ha : 0 < f.a) (hd : disc f < 0) (x y : Int) : y * y ≤ 4 * f.a * val f x y ∧ x * x ≤ 4 * f.c * val f x y := by
  have hc := c_pos ha hd
  have h1 := sq_nonneg (2 * f.a * x + f.b * y)
  have h2 := sq_nonneg (2 * f.c * y + f.b * x)
  have h3 := Int.mul_nonneg (show 0 ≤ -disc f - 1 by omega) (sq_nonneg y)
  have h4 := Int.mul_nonneg (show 0 ≤ -disc f - 1 by omega) (sq_nonneg x)
  unfold disc at *
  unfold val
  constructor <;> grind
theorem bd_sqrt {n : Nat} {x y : Int} (h : x * x ≤ y) (hy : Bd (2 * n) y) : Bd n x := by
  unfold Bd at *
  apply Nat.not_le.mp; intro g
  have h1 : 2 ^ n * 2 ^ n ≤ x.natAbs * x.natAbs := Nat.mul_le_mul g g
  rw [← Nat.pow_add, show n + n = 2 * n by omega, ← Int.natAbs_mul] at h1
  have := sq_nonneg x
  omega
theorem RP.sizes {f0 f : Fm} {m : Mx} (h : RP f0 f m) (ha0 : 0 < f0.a) (hd : K19.disc f0 < 0) (hd2 : -400 < K19.disc f0) (b1 : Bd 250 f0.a) (b2 : Bd 250 f0.b) (b3 : Bd 250 f0.c) :
    (Bd 510 f.a ∧ Bd 510 f.b ∧ Bd 510 f.c) ∧ (Bd 400 m.p ∧ Bd 400 m.q ∧ Bd 400 m.r ∧ Bd 400 m.s) := by
  have hc := c_pos h.a (by rw [h.disc]; exact hd)
  have bb : Bd 250 f.b := b2.of_le h.b
  have hdd : K19.disc f = K19.disc f0 := h.disc
  have bsq : Bd 500 (f.b * f.b) := Bd.mul bb bb
  have key : 4 * (f.a * f.c) < 2 ^ 500 + 400 := by
    have e : 4 * f.a * f.c = 4 * (f.a * f.c) := by grind
    have h0 := sq_nonneg f.b
    have h1 : f.b * f.b < ((2 ^ 500 : Nat) : Int) := by unfold Bd at bsq; omega
    have h2 : ((2 ^ 500 : Nat) : Int) = 2 ^ 500 := by norm_cast
    unfold K19.disc at *
    omega
  have big : (2 : Int) ^ 500 + 400 < ((2 ^ 510 : Nat) : Int) := by decide +kernel
  have pa : f.a ≤ f.a * f.c := by
    have := Int.mul_le_mul_of_nonneg_left (show 1 ≤ f.c by omega) (Int.le_of_lt h.a)
    omega
  have pc : f.c ≤ f.a * f.c := by
    have := Int.mul_le_mul_of_nonneg_right (show 1 ≤ f.a by have := h.a; omega) (Int.le_of_lt hc)
    omega
  have ha := h.a
  have sa : Bd 510 f.a := by unfold Bd; omega
  have sc : Bd 510 f.c := by unfold Bd; omega
  have e1 : val f0 m.p m.r = f.a := by rw [← h.e]; rfl
  have e2 : val f0 m.q m.s = f.c := by rw [← h.e]; rfl
  have l1 := val_lowD ha0 hd m.p m.r
  have l2 := val_lowD ha0 hd m.q m.s
  rw [e1] at l1
  rw [e2] at l2
  have lit : Bd 3 4 := (by decide : (4 : Int).natAbs < 2 ^ 3)
  have m1 : Bd 800 (4 * f0.a * f.a) := Bd.mono (Bd.mul (Bd.mul lit b1) sa) (by decide)
  have m2 : Bd 800 (4 * f0.c * f.a) := Bd.mono (Bd.mul (Bd.mul lit b3) sa) (by decide)
  have m3 : Bd 800 (4 * f0.a * f.c) := Bd.mono (Bd.mul (Bd.mul lit b1) sc) (by decide)
  have m4 : Bd 800 (4 * f0.c * f.c) := Bd.mono (Bd.mul (Bd.mul lit b3) sc) (by decide)
  exact ⟨⟨sa, bb.mono (by decide), sc⟩, bd_sqrt (n := 400) l1.2 m2, bd_sqrt (n := 400) l2.2 m4, bd_sqrt (n := 400) l1.1 m1, bd_sqrt (n := 400) l2.1 m3⟩
end K19
/-! K19Ind -/
set_option maxRecDepth 10000
set_option linter.all false
namespace K19
/-! ### the reduction of indefinite forms -/
def redIB (w : Int) (f : Fm) : Bool := (decide (0 < f.b) && decide (f.b ≤ w)) && (decide (w - f.b < 2 * (f.a.natAbs : Int)) && decide (2 * (f.a.natAbs : Int) ≤ w + f.b))
def RedI (w : Int) (f : Fm) : Prop := 0 < f.b ∧ f.b ≤ w ∧ w - f.b < 2 * (f.a.natAbs : Int) ∧ 2 * (f.a.natAbs : Int) ≤ w + f.b
theorem redIB_iff (w : Int) (f : Fm) : redIB w f = true ↔ RedI w f := by
  unfold redIB RedI
  simp only [Bool.and_eq_true, decide_eq_true_eq]
  constructor
  · rintro ⟨⟨h1, h2⟩, h3, h4⟩; exact ⟨h1, h2, h3, h4⟩
  · rintro ⟨h1, h2, h3, h4⟩; exact ⟨⟨h1, h2⟩, h3, h4⟩
def topI (w : Int) (f : Fm) : Int := if w < (f.c.natAbs : Int) then (f.c.natAbs : Int) else w
def midI (w : Int) (f : Fm) : Int := topI w f - (topI w f + f.b).fmod (2 * (f.c.natAbs : Int))
def stepN (w : Int) (f : Fm) : Int := (f.b + midI w f).fdiv (2 * f.c)
def stepM (w : Int) (f : Fm) : Mx := ⟨0, -1, 1, stepN w f⟩
def rho (w : Int) (f : Fm) : Fm := act f (stepM w f)
theorem stepM_det (w : Int) (f : Fm) : det (stepM w f) = 1 := by simp only [det, stepM]; omega
theorem mid_ok {w : Int} {f : Fm} (hc : f.c ≠ 0) : topI w f - 2 * (f.c.natAbs : Int) < midI w f ∧ midI w f ≤ topI w f ∧ f.b + midI w f = 2 * f.c * stepN w f := by
  have h1 := fdm (topI w f + f.b) (2 * (f.c.natAbs : Int))
  have h2 := fmod_pos (x := topI w f + f.b) (show 0 < 2 * (f.c.natAbs : Int) by omega)
  unfold stepN midI
  generalize (topI w f + f.b).fdiv (2 * (f.c.natAbs : Int)) = q at *
  generalize (topI w f + f.b).fmod (2 * (f.c.natAbs : Int)) = r at *
  refine ⟨by omega, by omega, ?_⟩
  have e : f.b + (topI w f - r) = q * (2 * (f.c.natAbs : Int)) := by omega
  rw [e]
  rcases Int.lt_or_gt_of_ne hc with h | h
  · have e2 : q * (2 * (f.c.natAbs : Int)) = (-q) * (2 * f.c) := by
      rw [show (f.c.natAbs : Int) = -f.c by omega]; grind
    rw [e2, Int.mul_fdiv_cancel _ (by omega)]; grind
  · rw [show (f.c.natAbs : Int) = f.c by omega, Int.mul_fdiv_cancel _ (by omega)]; grind
theorem rho_eq {w : Int} {f : Fm} (hc : f.c ≠ 0) : rho w f = ⟨f.c, midI w f, f.a - f.b * stepN w f + f.c * stepN w f * stepN w f⟩ := by
  obtain ⟨_, _, h⟩ := mid_ok (w := w) hc
  apply Fm.ext' <;> simp only [rho, act, stepM, val]
  · grind
  · grind
  · grind
theorem rho_disc (w : Int) (f : Fm) : disc (rho w f) = disc f := by
  unfold rho; rw [disc_act, stepM_det]; grind
theorem rho_eqv (w : Int) (f : Fm) : Eqv f (rho w f) := ⟨stepM w f, stepM_det w f, rfl⟩
structure RootOk (w d : Int) : Prop where
  lo : w * w ≤ d
  hi : d < (w + 1) * (w + 1)
  two : 2 ≤ w
theorem c_ne {f : Fm} (ns : NSq (disc f)) : f.c ≠ 0 := fun h => ns f.b (by unfold disc; rw [h]; omega)
theorem a_ne {f : Fm} (ns : NSq (disc f)) : f.a ≠ 0 := fun h => ns f.b (by unfold disc; rw [h]; omega)
theorem sq_le {x y : Int} (h0 : 0 ≤ y) (h1 : -y ≤ x) (h2 : x ≤ y) : x * x ≤ y * y := by
  have := Int.mul_nonneg (show 0 ≤ y - x by omega) (show 0 ≤ y + x by omega)
  have e : (y - x) * (y + x) = y * y - x * x := by grind
  omega
/-- |c'| in terms of |c| -/
theorem rho_c {w : Int} {f : Fm} (hc : f.c ≠ 0) : 4 * (f.c * (rho w f).c) = midI w f * midI w f - disc f := by
  have h := rho_disc w f
  rw [rho_eq hc] at h ⊢
  simp only [disc] at *
  have e : 4 * f.c * (f.a - f.b * stepN w f + f.c * stepN w f * stepN w f) = 4 * (f.c * (f.a - f.b * stepN w f + f.c * stepN w f * stepN w f)) := by grind
  omega
theorem big_step {w : Int} {f : Fm} (R : RootOk w (disc f)) (hc : f.c ≠ 0) (hb : w < (f.c.natAbs : Int)) : 4 * (rho w f).c.natAbs ≤ f.c.natAbs ∧ (midI w f).natAbs ≤ f.c.natAbs := by
  obtain ⟨m1, m2, _⟩ := mid_ok (w := w) hc
  have ht : topI w f = (f.c.natAbs : Int) := by unfold topI; rw [if_pos hb]
  rw [ht] at m1 m2
  have h := rho_c (w := w) hc
  have s1 := sq_le (x := midI w f) (y := (f.c.natAbs : Int)) (by omega) (by omega) m2
  have s2 : disc f ≤ (f.c.natAbs : Int) * (f.c.natAbs : Int) := by
    have := R.hi
    have k := sq_le (x := w + 1) (y := (f.c.natAbs : Int)) (by omega) (by have := R.two; omega) (by omega)
    omega
  have s3 := sq_nonneg (midI w f)
  have s4 : 0 ≤ disc f := by have := R.lo; have := sq_nonneg w; omega
  have k1 : (4 * (f.c * (rho w f).c)).natAbs ≤ f.c.natAbs * f.c.natAbs := by
    have e : ((f.c.natAbs * f.c.natAbs : Nat) : Int) = (f.c.natAbs : Int) * (f.c.natAbs : Int) := by push_cast; rfl
    omega
  refine ⟨?_, by omega⟩
  rw [Int.natAbs_mul, Int.natAbs_mul] at k1
  have k2 : f.c.natAbs * (4 * (rho w f).c.natAbs) ≤ f.c.natAbs * f.c.natAbs := by
    have e : (4 : Int).natAbs * (f.c.natAbs * (rho w f).c.natAbs) = f.c.natAbs * (4 * (rho w f).c.natAbs) := by
      show 4 * (f.c.natAbs * (rho w f).c.natAbs) = _
      grind
    omega
  exact Nat.le_of_mul_le_mul_left k2 (by omega)
theorem mid_step {w : Int} {f : Fm} (R : RootOk w (disc f)) (hc : f.c ≠ 0) (hb : (f.c.natAbs : Int) ≤ w) (hb2 : w < 2 * (f.c.natAbs : Int)) : 2 * ((rho w f).c.natAbs : Int) ≤ w ∧ ((midI w f).natAbs : Int) ≤ w := by
  obtain ⟨m1, m2, _⟩ := mid_ok (w := w) hc
  have ht : topI w f = w := by unfold topI; rw [if_neg (by omega)]
  rw [ht] at m1 m2
  have h := rho_c (w := w) hc
  have s1 := sq_le (x := midI w f) (y := w) (by have := R.two; omega) (by omega) m2
  have lo := R.lo
  have hi := R.hi
  have s3 := sq_nonneg (midI w f)
  refine ⟨?_, by omega⟩
  apply Int.not_lt.mp; intro g
  have k1 : ((4 * (f.c * (rho w f).c)).natAbs : Int) < (w + 1) * (w + 1) := by omega
  have k2 : ((4 * (f.c * (rho w f).c)).natAbs : Int) = (2 * (f.c.natAbs : Int)) * (2 * ((rho w f).c.natAbs : Int)) := by
    rw [Int.natAbs_mul, Int.natAbs_mul]
    push_cast
    grind
  have k3 : (w + 1) * (w + 1) ≤ (2 * (f.c.natAbs : Int)) * (2 * ((rho w f).c.natAbs : Int)) := by
    have a1 := Int.mul_le_mul_of_nonneg_right (show w + 1 ≤ 2 * (f.c.natAbs : Int) by omega) (show 0 ≤ w + 1 by have := R.two; omega)
    have a2 := Int.mul_le_mul_of_nonneg_left (show w + 1 ≤ 2 * ((rho w f).c.natAbs : Int) by omega) (show 0 ≤ 2 * (f.c.natAbs : Int) by omega)
    omega
  omega
theorem small_step {w : Int} {f : Fm} (R : RootOk w (disc f)) (hc : f.c ≠ 0) (hb : 2 * (f.c.natAbs : Int) ≤ w) : RedI w (rho w f) := by
  obtain ⟨m1, m2, _⟩ := mid_ok (w := w) hc
  have ht : topI w f = w := by unfold topI; rw [if_neg (by omega)]
  rw [ht] at m1 m2
  rw [rho_eq hc]
  unfold RedI
  simp only
  omega
def nuI (w : Int) (f : Fm) : Nat := if redIB w f then 0 else if 2 * (f.c.natAbs : Int) ≤ w then 1 else if (f.c.natAbs : Int) ≤ w then 2 else 3 + f.c.natAbs.log2
theorem log2_half {x y : Nat} (hx : x ≠ 0) (h : 4 * x ≤ y) : x.log2 < y.log2 := by
  have h1 := Nat.log2_self_le hx
  have h2 : 2 ^ (x.log2 + 1) ≤ y := by rw [Nat.pow_succ]; omega
  exact (Nat.le_log2 (by omega)).mpr h2
theorem nu_lt {w : Int} {f : Fm} (R : RootOk w (disc f)) (ns : NSq (disc f)) (hr : ¬ RedI w f) : nuI w (rho w f) < nuI w f := by
  have hc := c_ne ns
  have hc' : (rho w f).c ≠ 0 := c_ne (by rw [rho_disc]; exact ns)
  have hrb : redIB w f = false := by
    cases h : redIB w f
    · rfl
    · exact (hr ((redIB_iff w f).mp h)).elim
  have e : nuI w f = if 2 * (f.c.natAbs : Int) ≤ w then 1 else if (f.c.natAbs : Int) ≤ w then 2 else 3 + f.c.natAbs.log2 := by
    unfold nuI; rw [hrb]; rfl
  rw [e]
  by_cases h1 : 2 * (f.c.natAbs : Int) ≤ w
  · rw [if_pos h1]
    have := (redIB_iff w _).mpr (small_step R hc h1)
    unfold nuI
    rw [this, if_pos rfl]
    exact Nat.zero_lt_one
  · rw [if_neg h1]
    by_cases h2 : (f.c.natAbs : Int) ≤ w
    · rw [if_pos h2]
      have := (mid_step R hc h2 (by omega)).1
      unfold nuI
      split
      · omega
      · first
        | omega
        | (rw [if_pos this]; omega)
    · rw [if_neg h2]
      have h3 := (big_step R hc (by omega)).1
      have h4 := log2_half (x := (rho w f).c.natAbs) (y := f.c.natAbs) (by omega) h3
      unfold nuI
      split
      · omega
      · split
        · omega
        · split <;> omega
/-- sizes at a step -/
theorem rho_bd {w : Int} {f : Fm} (R : RootOk w (disc f)) (hw : w ≤ 20) (ns : NSq (disc f)) (b1 : Bd 250 f.a) (b2 : Bd 250 f.b) (b3 : Bd 250 f.c) :
    (Bd 250 (rho w f).a ∧ Bd 250 (rho w f).b ∧ Bd 250 (rho w f).c) ∧ Bd 252 (stepN w f) := by
  have hc := c_ne ns
  have e := rho_eq (w := w) hc
  have lit : (500 : Nat) < 2 ^ 250 := by decide +kernel
  have two := R.two
  have hmid : (midI w f).natAbs ≤ max f.c.natAbs 20 ∧ (rho w f).c.natAbs ≤ max f.c.natAbs 500 := by
    by_cases h1 : w < (f.c.natAbs : Int)
    · obtain ⟨k1, k2⟩ := big_step R hc h1
      omega
    · by_cases h2 : w < 2 * (f.c.natAbs : Int)
      · obtain ⟨k1, k2⟩ := mid_step R hc (by omega) h2
        omega
      · obtain ⟨k1, k2, k3, k4⟩ := small_step R hc (by omega)
        have k5 : (rho w f).b = midI w f := by rw [e]
        rw [k5] at k1 k2 k3 k4
        refine ⟨by omega, ?_⟩
        have h := rho_c (w := w) hc
        have hi := R.hi
        have lo := R.lo
        have s1 := sq_nonneg (midI w f)
        have s2 := sq_le (x := midI w f) (y := w) (by omega) (by omega) k2
        have s3 : (w + 1) * (w + 1) ≤ 441 := by
          have := sq_le (x := w + 1) (y := 21) (by omega) (by omega) (by omega)
          omega
        have s4 : (f.c * (rho w f).c).natAbs ≤ 500 := by omega
        have := nat_of_mul hc s4
        omega
  have bm : Bd 250 (midI w f) := by unfold Bd at *; omega
  refine ⟨⟨by rw [e]; exact b3, by rw [e]; exact bm, by unfold Bd at *; omega⟩, ?_⟩
  exact Bd.mono (Bd.fdiv (Bd.add b2 bm)) (by decide)
end K19
/-! K19LayA -/
set_option Elab.async false
set_option linter.all false
set_option maxRecDepth 100000
set_option maxHeartbeats 4000000
namespace K19
open PySem PySem.Spec PyProof.Rows L2
open Evl (Ex)
/-! ### data that stand in the heap -/
mutual
theorem dp_ex {K : PySem.W.Frag} {H H' : Hp} (e : Ex H H') : ∀ (d : PyData) (v : V), Dp K H v d → Dp K H' v d
  | .none, _, h => by cases h; exact .non
  | .bool b, _, h => by cases h; exact .bl b
  | .int i, _, h => by cases h; exact .int i
  | .str x, _, h => by cases h; exact .str x
  | .list ds, _, h => by
    cases h with
    | lst hs ha => exact .lst (Evl.ex_l e hs) (dps_ex e ds _ ha)
  | .tuple ds, _, h => by
    cases h with
    | tup hs ha => exact .tup (Evl.ex_t e hs) (dps_ex e ds _ ha)
  | .dict _, _, h => by cases h
theorem dps_ex {K : PySem.W.Frag} {H H' : Hp} (e : Ex H H') : ∀ (ds : List PyData) (vs : List V), DpAll K H vs ds → DpAll K H' vs ds
  | [], _, h => by cases h; exact .nil
  | d :: ds, _, h => by
    cases h with
    | cons h1 h2 => exact .cons (dp_ex e d _ h1) (dps_ex e ds _ h2)
end
/-- what holds of the tuples alone -/
def ExT (H H' : Hp) : Prop := ∀ a xs, Rd H a (.tup xs) → Rd H' a (.tup xs)
theorem Ex.t {H H' : Hp} (e : Ex H H') : ExT H H' := fun _ _ h => Evl.ex_rd e h
theorem ExT.refl (H : Hp) : ExT H H := fun _ _ h => h
theorem ExT.trans {H H1 H2 : Hp} (a : ExT H H1) (b : ExT H1 H2) : ExT H H2 := fun x o h => b x o (a x o h)
theorem ExT.upd {H : Hp} {p : Addr} {xs : List V} {o : HO} (h : H p = some (.lst xs)) : ExT H (upd H p o) := fun a ys r => by
  have ne : a ≠ p := by
    rintro rfl
    rcases r with r | ⟨ob, r⟩ <;> rw [h] at r <;> cases r
  rcases r with r | ⟨ob, r⟩
  · exact .inl (by rw [upd_ne ne]; exact r)
  · exact .inr ⟨ob, by rw [upd_ne ne]; exact r⟩
mutual
def noL : PyData → Bool
  | .list _ => false
  | .dict _ => false
  | .tuple ds => noLs ds
  | _ => true
def noLs : List PyData → Bool
  | [] => true
  | d :: ds => noL d && noLs ds
end
mutual
theorem dp_exT {K : PySem.W.Frag} {H H' : Hp} (e : ExT H H') : ∀ (d : PyData) (v : V), noL d = true → Dp K H v d → Dp K H' v d
  | .none, _, _, h => by cases h; exact .non
  | .bool b, _, _, h => by cases h; exact .bl b
  | .int i, _, _, h => by cases h; exact .int i
  | .str x, _, _, h => by cases h; exact .str x
  | .list ds, _, n, h => by simp [noL] at n
  | .tuple ds, _, n, h => by
    cases h with
    | tup hs ha =>
      rcases hs with hs | hs
      · exact .tup (.inl (e _ _ hs)) (dps_exT e ds _ (by simpa [noL] using n) ha)
      · exact .tup (.inr hs) (dps_exT e ds _ (by simpa [noL] using n) ha)
  | .dict _, _, n, h => by cases h
theorem dps_exT {K : PySem.W.Frag} {H H' : Hp} (e : ExT H H') : ∀ (ds : List PyData) (vs : List V), noLs ds = true → DpAll K H vs ds → DpAll K H' vs ds
  | [], _, _, h => by cases h; exact .nil
  | d :: ds, _, n, h => by
    cases h with
    | cons h1 h2 =>
      simp only [noLs, Bool.and_eq_true] at n
      exact .cons (dp_exT e d _ n.1 h1) (dps_exT e ds _ n.2 h2)
end
theorem _root_.L2.DpAll.length {K : PySem.W.Frag} {H : Hp} : ∀ {vs : List V} {ds : List PyData}, DpAll K H vs ds → vs.length = ds.length
  | _, _, .nil => rfl
  | _, _, .cons _ t => congrArg Nat.succ (L2.DpAll.length t)
theorem _root_.L2.DpAll.get {K : PySem.W.Frag} {H : Hp} : ∀ {vs : List V} {ds : List PyData} {i : Nat} {d : PyData}, DpAll K H vs ds → ds[i]? = some d → ∃ v, vs[i]? = some v ∧ Dp K H v d
  | _, _, _, _, .nil, h => by simp at h
  | _, _, 0, d, .cons r _, h => by
    have e : _ = d := Option.some.inj h
    subst e
    exact ⟨_, rfl, r⟩
  | _, _, i + 1, d, .cons _ t, h => L2.DpAll.get (i := i) t h
theorem _root_.L2.DpAll.append {K : PySem.W.Frag} {H : Hp} : ∀ {vs : List V} {ds : List PyData} {v : V} {d : PyData}, DpAll K H vs ds → Dp K H v d → DpAll K H (vs ++ [v]) (ds ++ [d])
  | _, _, _, _, .nil, h => .cons h .nil
  | _, _, _, _, .cons r t, h => .cons r (L2.DpAll.append t h)
/-! ### slots -/
abbrev Env' := List (Option PyData)
inductive RS (K : PySem.W.Frag) (H : Hp) : L2.St → Env' → Prop
  | nil : RS K H [] []
  | no {s : Option V} {σ : L2.St} {e : Env'} : RS K H σ e → RS K H (s :: σ) (none :: e)
  | yes {v : V} {d : PyData} {σ : L2.St} {e : Env'} : Dp K H v d → RS K H σ e → RS K H (some v :: σ) (some d :: e)
theorem RS.ex {K : PySem.W.Frag} {H H' : Hp} (x : Ex H H') : ∀ {σ : L2.St} {e : Env'}, RS K H σ e → RS K H' σ e
  | _, _, .nil => .nil
  | _, _, .no r => .no (RS.ex x r)
  | _, _, .yes h r => .yes (dp_ex x _ _ h) (RS.ex x r)
theorem RS.get {K : PySem.W.Frag} {H : Hp} : ∀ {σ : L2.St} {e : Env'} {i : Nat} {d : PyData}, RS K H σ e → e[i]? = some (some d) → ∃ v, σ[i]? = some (some v) ∧ Dp K H v d
  | _, _, _, _, .nil, h => by simp at h
  | _, _, 0, _, .no r, h => by simp at h
  | _, _, i + 1, _, .no r, h => RS.get (i := i) r (by simpa using h)
  | _, _, 0, d, .yes q r, h => by
    have e : _ = d := Option.some.inj (Option.some.inj h)
    subst e
    exact ⟨_, rfl, q⟩
  | _, _, i + 1, _, .yes q r, h => RS.get (i := i) r (by simpa using h)
theorem RS.set {K : PySem.W.Frag} {H : Hp} {v : V} {d : PyData} (q : Dp K H v d) : ∀ {σ : L2.St} {e : Env'} (i : Nat), RS K H σ e → RS K H (σ.set i (some v)) (e.set i (some d))
  | _, _, _, .nil => .nil
  | _, _, 0, .no r => .yes q r
  | _, _, i + 1, .no r => .no (RS.set q i r)
  | _, _, 0, .yes _ r => .yes q r
  | _, _, i + 1, .yes h r => .yes h (RS.set q i r)
theorem RS.none {K : PySem.W.Frag} {H : Hp} : ∀ n, RS K H (List.replicate n Option.none) (List.replicate n Option.none)
  | 0 => .nil
  | n + 1 => .no (RS.none n)
theorem RS.args {K : PySem.W.Frag} {H : Hp} {σ : L2.St} {e : Env'} (r : RS K H σ e) : ∀ {vs : List V} {ds : List PyData}, DpAll K H vs ds → RS K H (vs.map some ++ σ) (ds.map some ++ e)
  | _, _, .nil => r
  | _, _, .cons h t => .yes h (RS.args r t)
/-- a slot forgotten -/
theorem RS.drop {K : PySem.W.Frag} {H : Hp} : ∀ {σ : L2.St} {e : Env'} (i : Nat), RS K H σ e → RS K H σ (e.set i Option.none)
  | _, _, _, .nil => .nil
  | _, _, 0, .no r => .no r
  | _, _, i + 1, .no r => .no (RS.drop i r)
  | _, _, 0, .yes _ r => .no r
  | _, _, i + 1, .yes h r => .yes h (RS.drop i r)

/-! ### expressions over data -/
/-- the expression gives some d with P d; nothing that stood is changed -/
def DE (K : PySem.W.Frag) (te : TE) (env : Env') (P : PyData → Prop) : Prop := ∀ σ H, RS K H σ env → ∀ Q : VK, (∀ d v H', P d → Ex H H' → Dp K H' v d → Q v H') → te σ H Q
abbrev Dv (K : PySem.W.Frag) (te : TE) (env : Env') (d : PyData) : Prop := DE K te env fun z => z = d
def DA (K : PySem.W.Frag) (ta : TA) (env : Env') (P : List PyData → Prop) : Prop := ∀ σ H, RS K H σ env → ∀ Q : List V → Hp → Prop, (∀ ds vs H', P ds → Ex H H' → DpAll K H' vs ds → Q vs H') → ta σ H Q
def DT (K : PySem.W.Frag) (tt : TT) (env : Env') (b : Bool) : Prop := ∀ σ H, RS K H σ env → ∀ Q : Bool → Hp → Prop, (∀ H', Ex H H' → Q b H') → tt σ H Q
section
variable {K : PySem.W.Frag} {env : Env'} {ta tb te : TE} {P : PyData → Prop}
theorem DE.imp {P' : PyData → Prop} (h : DE K te env P) (f : ∀ d, P d → P' d) : DE K te env P' := fun σ H r Q q => h σ H r Q fun d v H' p => q d v H' (f d p)
theorem Dv.to {d : PyData} (h : Dv K te env d) (p : P d) : DE K te env P := DE.imp h fun z e => e ▸ p
theorem dv_var {i : Nat} {d : PyData} (h : env[i]? = some (some d)) : Dv K (tVar i) env d := fun σ H r Q q => by
  obtain ⟨v, e, D⟩ := r.get h
  exact ⟨v, e, q d v H rfl (Evl.Ex.refl H) D⟩
theorem dv_int {i : Int} : Dv K (tC (.int i)) env (.int i) := fun σ H r Q q => q _ _ H rfl (Evl.Ex.refl H) (.int i)
theorem dv_str {x : Str} : Dv K (tC (.str x)) env (.str x) := fun σ H r Q q => q _ _ H rfl (Evl.Ex.refl H) (.str x)
theorem dv_bl {b : Bool} : Dv K (tC (.bl b)) env (.bool b) := fun σ H r Q q => q _ _ H rfl (Evl.Ex.refl H) (.bl b)
theorem dv_ref {a : Addr} {d : PyData} (h : ∀ H, Dp K H (.ref a) d) : Dv K (tC (.ref a)) env d := fun σ H r Q q => q _ _ H rfl (Evl.Ex.refl H) (h H)
/-- two ints, by an operator -/
theorem dv_I0 {g : Int → Int → V} {i j : Int} {d : PyData} (ha : Dv K ta env (.int i)) (hb : Dv K tb env (.int j)) (hd : ∀ H, Dp K H (g i j) d) : Dv K (tOp (rI0 g) ta tb) env d := fun σ H r Q q =>
  ha σ H r _ fun _ v H1 e1 x1 D1 => hb σ H1 (r.ex x1) _ fun _ w H2 e2 x2 D2 => by
    subst e1 e2
    cases D1
    cases D2
    exact ⟨i, j, rfl, rfl, q _ _ H2 rfl (x1.trans x2) (hd H2)⟩
theorem dv_I {C : Int → Int → Prop} {g : Int → Int → V} {i j : Int} {d : PyData} (ha : Dv K ta env (.int i)) (hb : Dv K tb env (.int j)) (hc : C i j) (hd : ∀ H, Dp K H (g i j) d) : Dv K (tOp (rI C g) ta tb) env d := fun σ H r Q q =>
  ha σ H r _ fun _ v H1 e1 x1 D1 => hb σ H1 (r.ex x1) _ fun _ w H2 e2 x2 D2 => by
    subst e1 e2
    cases D1
    cases D2
    exact ⟨i, j, rfl, rfl, hc, q _ _ H2 rfl (x1.trans x2) (hd H2)⟩
theorem dv_add {i j : Int} (ha : Dv K ta env (.int i)) (hb : Dv K tb env (.int j)) : Dv K (tOp (rI0 fun i j => .int (i + j)) ta tb) env (.int (i + j)) := dv_I0 ha hb fun _ => .int _
theorem dv_sub {i j : Int} (ha : Dv K ta env (.int i)) (hb : Dv K tb env (.int j)) : Dv K (tOp (rI0 fun i j => .int (i - j)) ta tb) env (.int (i - j)) := dv_I0 ha hb fun _ => .int _
theorem dv_mul {i j : Int} (ha : Dv K ta env (.int i)) (hb : Dv K tb env (.int j)) (hc : CMulW i j) : Dv K (tOp (rI CMulW fun i j => .int (i * j)) ta tb) env (.int (i * j)) := dv_I ha hb hc fun _ => .int _
/-- // by any divisor but 0, below 2 ^ 9000 in size -/
def CDivZ (_ j : Int) : Prop := j ≠ 0 ∧ j.natAbs.log2 < 9000
theorem op_fdivZ {X : Cx} : OpR X (binaryOp .FloorDiv) (rI CDivZ fun i j => .int (i.fdiv j)) := opI fun _ _ _ _ _ _ _ hc q => floordiv_int hc.1 q (.inl (PyProof.noPylong_of_log2 hc.2))
theorem dv_div {i j : Int} (ha : Dv K ta env (.int i)) (hb : Dv K tb env (.int j)) (hc : CDivZ i j) : Dv K (tOp (rI CDivZ fun i j => .int (i.fdiv j)) ta tb) env (.int (i.fdiv j)) := dv_I ha hb hc fun _ => .int _
theorem dv_mod {i j : Int} (ha : Dv K ta env (.int i)) (hb : Dv K tb env (.int j)) (hc : j ≠ 0) : Dv K (tOp (rI (fun _ j => j ≠ 0) fun i j => .int (i.fmod j)) ta tb) env (.int (i.fmod j)) := dv_I ha hb hc fun _ => .int _
theorem dv_pow {i j : Int} (ha : Dv K ta env (.int i)) (hb : Dv K tb env (.int j)) (hc : CPow i j) : Dv K (tOp (rI CPow fun i j => .int (i ^ j.toNat)) ta tb) env (.int (i ^ j.toNat)) := dv_I ha hb hc fun _ => .int _
theorem dv_neg {i : Int} (ha : Dv K ta env (.int i)) : Dv K (tUn (rU fun i => .int (-i)) ta) env (.int (-i)) := fun σ H r Q q =>
  ha σ H r _ fun _ v H1 e1 x1 D1 => by
    subst e1
    cases D1
    exact ⟨i, rfl, q _ _ H1 rfl x1 (.int _)⟩
theorem dv_lt {i j : Int} (ha : Dv K ta env (.int i)) (hb : Dv K tb env (.int j)) : Dv K (tOp (rI0 fun i j => .bl (decide (i < j))) ta tb) env (.bool (decide (i < j))) := dv_I0 ha hb fun _ => .bl _
theorem dv_le {i j : Int} (ha : Dv K ta env (.int i)) (hb : Dv K tb env (.int j)) : Dv K (tOp (rI0 fun i j => .bl (decide (i ≤ j))) ta tb) env (.bool (decide (i ≤ j))) := dv_I0 ha hb fun _ => .bl _
theorem dv_gt {i j : Int} (ha : Dv K ta env (.int i)) (hb : Dv K tb env (.int j)) : Dv K (tOp (rI0 fun i j => .bl (decide (j < i))) ta tb) env (.bool (decide (j < i))) := dv_I0 ha hb fun _ => .bl _
theorem dv_ge {i j : Int} (ha : Dv K ta env (.int i)) (hb : Dv K tb env (.int j)) : Dv K (tOp (rI0 fun i j => .bl (decide (j ≤ i))) ta tb) env (.bool (decide (j ≤ i))) := dv_I0 ha hb fun _ => .bl _
theorem dec_vint {i j : Int} : decide (V.int i = V.int j) = decide (i = j) := by
  by_cases h : i = j
  · subst h; simp
  · rw [decide_eq_false h, decide_eq_false fun e => h (V.int.inj e)]
theorem dv_eqI {i j : Int} (ha : Dv K ta env (.int i)) (hb : Dv K tb env (.int j)) : Dv K (tOp rEq ta tb) env (.bool (decide (i = j))) := fun σ H r Q q =>
  ha σ H r _ fun _ v H1 e1 x1 D1 => hb σ H1 (r.ex x1) _ fun _ w H2 e2 x2 D2 => by
    subst e1 e2
    cases D1
    cases D2
    exact ⟨rfl, by rw [dec_vint]; exact q _ _ H2 rfl (x1.trans x2) (.bl _)⟩
theorem dv_neI {i j : Int} (ha : Dv K ta env (.int i)) (hb : Dv K tb env (.int j)) : Dv K (tOp rNe ta tb) env (.bool (!decide (i = j))) := fun σ H r Q q =>
  ha σ H r _ fun _ v H1 e1 x1 D1 => hb σ H1 (r.ex x1) _ fun _ w H2 e2 x2 D2 => by
    subst e1 e2
    cases D1
    cases D2
    exact ⟨rfl, by rw [dec_vint]; exact q _ _ H2 rfl (x1.trans x2) (.bl _)⟩
/-- data compared -/
theorem de_eqD (ha : DE K ta env fun d => SeqAt.shaped d = true ∧ DE K tb env fun e => SeqAt.shaped e = true ∧ P (.bool (PyData.eqv d e))) : DE K (tOp (rEqD K) ta tb) env P := fun σ H r Q q =>
  ha σ H r _ fun d v H1 e1 x1 D1 => e1.2 σ H1 (r.ex x1) _ fun e w H2 e2 x2 D2 => ⟨d, e, dp_ex x2 _ _ D1, D2, e1.1, e2.1, q _ _ H2 e2.2 (x1.trans x2) (.bl _)⟩
theorem de_neD (ha : DE K ta env fun d => SeqAt.shaped d = true ∧ DE K tb env fun e => SeqAt.shaped e = true ∧ P (.bool (!PyData.eqv d e))) : DE K (tOp (rNeD K) ta tb) env P := fun σ H r Q q =>
  ha σ H r _ fun d v H1 e1 x1 D1 => e1.2 σ H1 (r.ex x1) _ fun e w H2 e2 x2 D2 => ⟨d, e, dp_ex x2 _ _ D1, D2, e1.1, e2.1, q _ _ H2 e2.2 (x1.trans x2) (.bl _)⟩
/-- an item of a tuple, a list -/
theorem de_ixT {n : Nat} (ha : DE K ta env fun t => ∃ ds d, t = .tuple ds ∧ ds[n]? = some d ∧ P d) : DE K (tOp (rIxT K) ta (tC (.int (n : Int)))) env P := fun σ H r Q q =>
  ha σ H r _ fun t v H1 e1 x1 D1 => by
    obtain ⟨ds, d, rfl, hd, p⟩ := e1
    cases D1 with
    | tup hs hall =>
      obtain ⟨w, hw, Dw⟩ := hall.get hd
      exact ⟨_, _, _, w, rfl, rfl, hs, atI_nat hw, q d w H1 p x1 Dw⟩
theorem dv_ixT {n : Nat} {ds : List PyData} {d : PyData} (ha : Dv K ta env (.tuple ds)) (h : ds[n]? = some d) : Dv K (tOp (rIxT K) ta (tC (.int (n : Int)))) env d := de_ixT (DE.imp ha fun t e => ⟨ds, d, e, h, rfl⟩)
theorem dv_ixL {n : Nat} {i : Int} {ds : List PyData} {d : PyData} (ha : Dv K ta env (.list ds)) (hb : Dv K tb env (.int i)) (hi : i = (n : Int)) (h : ds[n]? = some d) : Dv K (tOp (rIxL K) ta tb) env d := fun σ H r Q q =>
  ha σ H r _ fun t v H1 e1 x1 D1 => hb σ H1 (r.ex x1) _ fun _ w H2 e2 x2 D2 => by
    subst e1 e2 hi
    cases D2
    cases D1 with
    | lst hs hall =>
      obtain ⟨w, hw, Dw⟩ := hall.get h
      exact ⟨_, _, _, w, rfl, rfl, Evl.ex_l x2 hs, atI_nat hw, q d w H2 rfl (x1.trans x2) (dp_ex x2 _ _ Dw)⟩
/-- .. at a reckoned place of a tuple -/
theorem dv_ixTe {n : Nat} {i : Int} {ds : List PyData} {d : PyData} (ha : Dv K ta env (.tuple ds)) (hb : Dv K tb env (.int i)) (hi : i = (n : Int)) (h : ds[n]? = some d) : Dv K (tOp (rIxT K) ta tb) env d := fun σ H r Q q =>
  ha σ H r _ fun t v H1 e1 x1 D1 => hb σ H1 (r.ex x1) _ fun _ w H2 e2 x2 D2 => by
    subst e1 e2 hi
    cases D2
    cases D1 with
    | tup hs hall =>
      obtain ⟨w, hw, Dw⟩ := hall.get h
      exact ⟨_, _, _, w, rfl, rfl, Evl.ex_t x2 hs, atI_nat hw, q d w H2 rfl (x1.trans x2) (dp_ex x2 _ _ Dw)⟩
/-- arguments -/
theorem da_nil {P : List PyData → Prop} (p : P []) : DA K tNil env P := fun σ H r Q q => q [] [] H p (Evl.Ex.refl H) .nil
theorem da_cons {tr : TA} {P : List PyData → Prop} (ha : DE K ta env fun d => DA K tr env fun ds => P (d :: ds)) : DA K (tCons ta tr) env P := fun σ H r Q q =>
  ha σ H r _ fun d v H1 e1 x1 D1 => e1 σ H1 (r.ex x1) _ fun ds vs H2 e2 x2 D2 => q (d :: ds) (v :: vs) H2 e2 (x1.trans x2) (.cons (dp_ex x2 _ _ D1) D2)
theorem da_v {tr : TA} {P : List PyData → Prop} {d : PyData} (ha : Dv K ta env d) (hr : DA K tr env fun ds => P (d :: ds)) : DA K (tCons ta tr) env P := da_cons (DE.imp ha fun _ e => e ▸ hr)
theorem DA.imp {tr : TA} {P P' : List PyData → Prop} (h : DA K tr env P) (f : ∀ ds, P ds → P' ds) : DA K tr env P' := fun σ H r Q q => h σ H r Q fun ds vs H' p => q ds vs H' (f ds p)
theorem ex_new {H : Hp} {p : Addr} {o : HO} (h : H p = none) : Ex H (upd H p o) := Evl.Ex.new h
theorem de_tup {tr : TA} (ha : DA K tr env fun ds => ds.length ≤ 1000 ∧ P (.tuple ds)) : DE K (tTup tr) env P := fun σ H r Q q =>
  ha σ H r _ fun ds vs H1 e1 x1 D1 => ⟨by rw [D1.length]; exact Nat.le_trans e1.1 (by decide), fun p hp => q _ _ _ e1.2 (x1.trans (ex_new hp)) (.tup (SqT.of upd_same) (dps_ex (ex_new hp) _ _ D1))⟩
theorem de_lst {tr : TA} (ha : DA K tr env fun ds => ds.length ≤ 1000 ∧ P (.list ds)) : DE K (tLst tr) env P := fun σ H r Q q =>
  ha σ H r _ fun ds vs H1 e1 x1 D1 => ⟨by rw [D1.length]; exact Nat.le_trans e1.1 (by decide), fun p hp => q _ _ _ e1.2 (x1.trans (ex_new hp)) (.lst (SqL.of upd_same) (dps_ex (ex_new hp) _ _ D1))⟩
theorem dv_tup {tr : TA} {ds : List PyData} (ha : DA K tr env fun z => z = ds) (h : ds.length ≤ 1000) : Dv K (tTup tr) env (.tuple ds) := de_tup (DA.imp ha fun z e => by subst e; exact ⟨h, rfl⟩)
theorem dv_lst {tr : TA} {ds : List PyData} (ha : DA K tr env fun z => z = ds) (h : ds.length ≤ 1000) : Dv K (tLst tr) env (.list ds) := de_lst (DA.imp ha fun z e => by subst e; exact ⟨h, rfl⟩)
theorem das_nil : DA K tNil env fun z => z = [] := da_nil rfl
theorem das_cons {tr : TA} {d : PyData} {ds : List PyData} (ha : Dv K ta env d) (hr : DA K tr env fun z => z = ds) : DA K (tCons ta tr) env fun z => z = d :: ds := da_v ha (DA.imp hr fun z e => by rw [e])
/-! tests -/
theorem dt_test {b : Bool} (h : Dv K te env (.bool b)) : DT K (tTest te) env b := fun σ H r Q q => h σ H r _ fun _ v H1 e x D => by
  subst e
  cases D
  exact ⟨b, rfl, q H1 x⟩
theorem dt_B {b : Bool} (h : Dv K te env (.bool b)) : DT K (tB te) env b := fun σ H r Q q => h σ H r _ fun _ v H1 e x D => by
  subst e
  cases D
  exact ⟨b, rfl, q H1 x⟩
theorem DT.to {tt : TT} {b b' : Bool} (h : DT K tt env b) (e : b = b') : DT K tt env b' := e ▸ h
theorem dt_not {tt : TT} {b : Bool} (h : DT K tt env b) : DT K (tNot tt) env (!b) := fun σ H r Q q => h σ H r _ fun H1 x => q H1 x
theorem dt_and {t u : TT} {a b : Bool} (h1 : DT K t env a) (h2 : a = true → DT K u env b) : DT K (tAnd t u) env (a && b) := fun σ H r Q q => h1 σ H r _ fun H1 x => by
  cases a with
  | true => exact h2 rfl σ H1 (r.ex x) Q fun H2 y => q H2 (x.trans y)
  | false => exact q H1 x
theorem dt_or {t u : TT} {a b : Bool} (h1 : DT K t env a) (h2 : a = false → DT K u env b) : DT K (tOr t u) env (a || b) := fun σ H r Q q => h1 σ H r _ fun H1 x => by
  cases a with
  | false => exact h2 rfl σ H1 (r.ex x) Q fun H2 y => q H2 (x.trans y)
  | true => exact q H1 x
theorem dv_and {a b : Bool} (h1 : Dv K ta env (.bool a)) (h2 : a = true → Dv K tb env (.bool b)) : Dv K (tAndV ta tb) env (.bool (a && b)) := fun σ H r Q q => h1 σ H r _ fun _ v H1 e x D => by
  subst e
  cases D
  refine ⟨a, rfl, ?_⟩
  cases a with
  | true => exact h2 rfl σ H1 (r.ex x) Q fun d v H2 p y D => q d v H2 p (x.trans y) D
  | false => exact q _ _ H1 rfl x (.bl _)
theorem dv_or {a b : Bool} (h1 : Dv K ta env (.bool a)) (h2 : a = false → Dv K tb env (.bool b)) : Dv K (tOrV ta tb) env (.bool (a || b)) := fun σ H r Q q => h1 σ H r _ fun _ v H1 e x D => by
  subst e
  cases D
  refine ⟨a, rfl, ?_⟩
  cases a with
  | false => exact h2 rfl σ H1 (r.ex x) Q fun d v H2 p y D => q d v H2 p (x.trans y) D
  | true => exact q _ _ H1 rfl x (.bl _)
theorem de_if {tt : TT} {b : Bool} (h : DT K tt env b) (h1 : b = true → DE K ta env P) (h2 : b = false → DE K tb env P) : DE K (tIf tt ta tb) env P := fun σ H r Q q => h σ H r _ fun H1 x => by
  cases b with
  | true => exact h1 rfl σ H1 (r.ex x) Q fun d v H2 p y D => q d v H2 p (x.trans y) D
  | false => exact h2 rfl σ H1 (r.ex x) Q fun d v H2 p y D => q d v H2 p (x.trans y) D
/-- a chain of two comparisons of ints -/
theorem dv_chain {tc : TE} {g g' : Int → Int → Bool} {i j k : Int} (ha : Dv K ta env (.int i)) (hb : Dv K tb env (.int j)) (hc : Dv K tc env (.int k)) :
    Dv K (tChain (rI0 fun i j => .bl (g i j)) (rI0 fun i j => .bl (g' i j)) ta tb tc) env (.bool (g i j && g' j k)) := fun σ H r Q q =>
  ha σ H r _ fun _ v H1 e1 x1 D1 => hb σ H1 (r.ex x1) _ fun _ w H2 e2 x2 D2 => by
    subst e1 e2
    cases D1
    cases D2
    refine ⟨i, j, rfl, rfl, g i j, rfl, ?_⟩
    cases hg : g i j with
    | true =>
      refine hc σ H2 (r.ex (x1.trans x2)) _ fun _ w H3 e3 x3 D3 => ?_
      subst e3
      cases D3
      exact ⟨j, k, rfl, rfl, q _ _ H3 (by rw [hg]; rfl) ((x1.trans x2).trans x3) (.bl _)⟩
    | false => exact q _ _ H2 (by rw [hg]; rfl) (x1.trans x2) (.bl _)
end

/-! ### promises over data -/
def spR (K : PySem.W.Frag) (n : Nat) (Pre : List PyData → Prop) (Post : List PyData → PyData → Prop) : Sp := fun vs H Q _ =>
  ∃ ds, ds.length = n ∧ DpAll K H vs ds ∧ Pre ds ∧ ∀ d v H', Post ds d → Ex H H' → Dp K H' v d → Q v H'
theorem spR_len {K : PySem.W.Frag} {n : Nat} {Pre : List PyData → Prop} {Post : List PyData → PyData → Prop} {vs : List V} {H : Hp} {Q : VK} {E : XK} (h : spR K n Pre Post vs H Q E) : vs.length = n := by
  obtain ⟨ds, hl, hd, _⟩ := h
  rw [hd.length, hl]
theorem de_call {K : PySem.W.Frag} {env : Env'} {P : PyData → Prop} {n : Nat} {Pre : List PyData → Prop} {Post : List PyData → PyData → Prop} {E : XK} {tr : TA}
    (ha : DA K tr env fun ds => ds.length = n ∧ Pre ds ∧ ∀ d, Post ds d → P d) : DE K (tCall (spR K n Pre Post) [] E tr) env P := fun σ H r Q q =>
  ha σ H r _ fun ds vs H1 e1 x1 D1 => ⟨ds, e1.1, by rw [List.append_nil]; exact D1, e1.2.1, fun d v H' p x D => q d v H' (e1.2.2 d p) (x1.trans x) D⟩

/-! ### statements over data -/
inductive Out where
  | nx (e : Env')
  | rt (d : PyData)
def DS (K : PySem.W.Frag) (ts : TS) (env : Env') (P : Out → Prop) : Prop := ∀ σ H (D : Ends), RS K H σ env →
  (∀ e σ' H', P (.nx e) → Ex H H' → RS K H' σ' e → D.nx σ' H') → (∀ d v H', P (.rt d) → Ex H H' → Dp K H' v d → D.rt v H') → ts D σ H
section
variable {K : PySem.W.Frag} {env : Env'} {te : TE} {t u : TS} {P : Out → Prop}
def thenD (K : PySem.W.Frag) (u : TS) (P : Out → Prop) : Out → Prop
  | .nx e => DS K u e P
  | .rt d => P (.rt d)
theorem ds_seq (h : DS K t env (thenD K u P)) : DS K (tSeq t u) env P := fun σ H D r n k =>
  h σ H { D with nx := u D } r (fun e σ' H' p x r' => p σ' H' D r' (fun e2 σ2 H2 p2 x2 r2 => n e2 σ2 H2 p2 (x.trans x2) r2) fun d v H2 p2 x2 D2 => k d v H2 p2 (x.trans x2) D2) fun d v H' p x D' => k d v H' p x D'
theorem ds_nil (p : P (.nx env)) : DS K tNext env P := fun σ H D r n k => n env σ H p (Evl.Ex.refl H) r
theorem ds_never {h : False} : DS K tNever env P := h.elim
theorem ds_set {i : Nat} (h : DE K te env fun d => P (.nx (env.set i (some d)))) : DS K (tAsg te (gName i)) env P := fun σ H D r n k =>
  h σ H r _ fun d v H1 p x D1 => n _ _ H1 p x ((r.ex x).set D1 i)
theorem ds_ret (h : DE K te env fun d => P (.rt d)) : DS K (tRet te) env P := fun σ H D r n k => h σ H r _ fun d v H1 p x D1 => k d v H1 p x D1
theorem ds_if {tt : TT} {b : Bool} (h : DT K tt env b) (h1 : b = true → DS K t env P) (h2 : b = false → DS K u env P) : DS K (tIfS tt t u) env P := fun σ H D r n k =>
  h σ H r _ fun H1 x => by
    cases b with
    | true => exact h1 rfl σ H1 D (r.ex x) (fun e σ' H' p x' r' => n e σ' H' p (x.trans x') r') fun d v H' p x' D' => k d v H' p (x.trans x') D'
    | false => exact h2 rfl σ H1 D (r.ex x) (fun e σ' H' p x' r' => n e σ' H' p (x.trans x') r') fun d v H' p x' D' => k d v H' p (x.trans x') D'
/-- a tuple's items to names -/
def gNs : List Nat → TGs
  | [] => gNil
  | i :: is => gCons (gName i) (gNs is)
def setAll : List Nat → List PyData → Env' → Env'
  | i :: is, d :: ds, e => setAll is ds (e.set i (some d))
  | _, _, e => e
theorem gNs_run {H : Hp} {Q : L2.St → Hp → Prop} : ∀ {is : List Nat} {ds : List PyData} {vs : List V} {σ : L2.St} {e : Env'}, is.length = ds.length → DpAll K H vs ds → RS K H σ e → (∀ σ', RS K H σ' (setAll is ds e) → Q σ' H) → gNs is vs σ H Q
  | [], [], _, _, _, _, .nil, r, q => ⟨rfl, q _ r⟩
  | i :: is, d :: ds, _, _, _, hl, .cons h t, r, q => ⟨_, _, rfl, gNs_run (is := is) (ds := ds) (Nat.succ.inj hl) t (r.set h i) q⟩
theorem ds_unp {is : List Nat} {n : Nat} (h : DE K te env fun d => ∃ ds, d = .tuple ds ∧ ds.length = n ∧ is.length = n ∧ P (.nx (setAll is ds env))) : DS K (tAsg te (gTup K n (gNs is))) env P := fun σ H D r k1 k2 =>
  h σ H r _ fun d v H1 p x D1 => by
    obtain ⟨ds, rfl, hl, hi, p⟩ := p
    cases D1 with
    | tup hs hall => exact ⟨_, _, rfl, hs, by rw [hall.length, hl], gNs_run (by rw [hi, hl]) hall (r.ex x) fun σ' r' => k1 _ _ _ p x r'⟩
theorem ds_par {i j : Nat} {ta : TA} (h : DA K ta env fun ds => ∃ a b, ds = [a, b] ∧ P (.nx ((env.set i (some a)).set j (some b)))) : DS K (tPar i j ta) env P := fun σ H D r k1 k2 =>
  h σ H r _ fun ds vs H1 p x D1 => by
    obtain ⟨a, b, rfl, p⟩ := p
    cases D1 with
    | cons h1 t =>
      cases t with
      | cons h2 t =>
        cases t
        exact ⟨_, _, rfl, k1 _ _ _ p x (((r.ex x).set h1 i).set h2 j)⟩
theorem ds_par3 {i j l : Nat} {ta : TA} (h : DA K ta env fun ds => ∃ a b c, ds = [a, b, c] ∧ P (.nx (((env.set i (some a)).set j (some b)).set l (some c)))) : DS K (tPar3 i j l ta) env P := fun σ H D r k1 k2 =>
  h σ H r _ fun ds vs H1 p x D1 => by
    obtain ⟨a, b, c, rfl, p⟩ := p
    cases D1 with
    | cons h1 t =>
      cases t with
      | cons h2 t =>
        cases t with
        | cons h3 t =>
          cases t
          exact ⟨_, _, _, rfl, k1 _ _ _ p x ((((r.ex x).set h1 i).set h2 j).set h3 l)⟩
/-- while: W holds at every turn; μ falls -/
theorem ds_while {c : TT} {tb : TS} (W : Env' → Prop) (μ : Env' → Nat) (h0 : W env)
    (hs : ∀ e, W e → ∃ b, DT K c e b ∧ (b = true → DS K tb e fun o => match o with | .nx e' => W e' ∧ μ e' < μ e | .rt d => P (.rt d)) ∧ (b = false → P (.nx e))) : DS K (tWhile c tb) env P := fun σ H D r k1 k2 => by
  refine ⟨fun m σ' H' => ∃ e, m = μ e ∧ W e ∧ Ex H H' ∧ RS K H' σ' e, ⟨_, env, rfl, h0, Evl.Ex.refl H, r⟩, ?_⟩
  rintro m σ1 H1 ⟨e, rfl, w, x1, r1⟩
  obtain ⟨b, hb, ht, hf⟩ := hs e w
  refine hb σ1 H1 r1 _ fun H2 x2 => ?_
  cases b with
  | true =>
    refine iteT ⟨fun σ' H' => ∃ m', m' < μ e ∧ ∃ e', m' = μ e' ∧ W e' ∧ Ex H H' ∧ RS K H' σ' e', fun σ' H' z => z, ?_⟩
    exact ht rfl σ1 H2 _ (r1.ex x2) (fun e' σ' H' p x r' => ⟨_, p.2, e', rfl, p.1, (x1.trans x2).trans x, r'⟩) fun d v H' p x D' => k2 d v H' p ((x1.trans x2).trans x) D'
  | false => exact iteF (k1 e σ1 H2 (hf rfl) (x1.trans x2) (r1.ex x2))
/-- for over a range: W by the turn -/
theorem ds_range {lo : Int} {n : Nat} {i : Nat} {tb : TS} {wi : TI} (W : Nat → Env' → Prop) (hi : ∀ σ H, RS K H σ env → ∀ R : It → Hp → Prop, (∀ H', Ex H H' → R (Itr lo n) H') → wi σ H R) (h0 : W 0 env)
    (hs : ∀ k e, k < n → W k e → DS K tb (e.set i (some (.int (lo + (k : Int))))) fun o => match o with | .nx e' => W (k + 1) e' | .rt d => P (.rt d)) (hd : ∀ e, W n e → P (.nx e)) : DS K (tFor wi (gName i) tb) env P := fun σ H D r k1 k2 => by
  refine hi σ H r _ fun H1 x1 => ?_
  refine for_range (fun k σ' H' => ∃ e, W k e ∧ Ex H H' ∧ RS K H' σ' e) ⟨env, h0, x1, r.ex x1⟩ ?_ ?_
  · rintro k σ2 H2 hk ⟨e, w, x2, r2⟩
    exact hs k e hk w _ H2 _ (r2.set (.int _) i) (fun e' σ' H' p x r' => ⟨e', p, x2.trans x, r'⟩) fun d v H' p x D' => k2 d v H' p (x2.trans x) D'
  · rintro σ2 H2 ⟨e, w, x2, r2⟩
    exact k1 e σ2 H2 (hd e w) x2 r2
/-- for over a tuple -/
theorem ds_fort {tx : TE} {ds : List PyData} {i : Nat} {tb : TS} (W : Nat → Env' → Prop) (hx : Dv K tx env (.tuple ds)) (h0 : W 0 env)
    (hs : ∀ k d e, ds[k]? = some d → W k e → DS K tb (e.set i (some d)) fun o => match o with | .nx e' => W (k + 1) e' | .rt d => P (.rt d)) (hd : ∀ e, W ds.length e → P (.nx e)) : DS K (tFor (iTup K tx) (gName i) tb) env P := fun σ H D r k1 k2 => by
  refine hx σ H r _ fun d v H1 e1 x1 D1 => ?_
  subst e1
  cases D1 with
  | tup hS hall =>
    rename_i a xs
    refine ⟨a, rfl, ⟨xs, hS⟩, for_tup (K := K) (a := a) (xs := xs) (fun k σ' H' => ∃ e, W k e ∧ Ex H1 H' ∧ RS K H' σ' e) ⟨env, h0, Evl.Ex.refl H1, r.ex x1⟩ (fun k σ' H' _ ⟨e, w, x, r'⟩ => Evl.ex_t x hS) ?_ ?_⟩
    · rintro k x σ2 H2 hk ⟨e, w, x2, r2⟩
      have hlt : k < ds.length := by
        rw [← hall.length]
        exact (List.getElem?_eq_some_iff.mp hk).1
      obtain ⟨v, hv, Dv'⟩ := hall.get (List.getElem?_eq_getElem hlt)
      have ev : x = v := Option.some.inj (hk.symm.trans hv)
      subst ev
      exact hs k ds[k] e (List.getElem?_eq_getElem hlt) w _ H2 _ (r2.set (dp_ex x2 _ _ Dv') i) (fun e' σ' H' p x r' => ⟨e', p, x2.trans x, r'⟩) fun d v H' p x D' => k2 d v H' p ((x1.trans x2).trans x) D'
    · rintro σ2 H2 ⟨e, w, x2, r2⟩
      exact k1 e σ2 H2 (hd e (by rw [← hall.length]; exact w)) (x1.trans x2) r2
end
/-- a def's body, from its promise -/
theorem run_body {K : PySem.W.Frag} {N : List Str} {n : Nat} {Pre : List PyData → Prop} {Post : List PyData → PyData → Prop} {t : TS} {vs : List V} {H : Hp} {Q : VK} {E : XK} (h : spR K n Pre Post vs H Q E)
    (g : ∀ ds, ds.length = n → Pre ds → DS K t (ds.map some ++ List.replicate (N.length - n) none) fun o => match o with | .rt d => Post ds d | .nx _ => Post ds .none) : t { nx := fun _ H' => Q .non H', rt := Q } (L2.start N vs) H := by
  obtain ⟨ds, hl, hd, hp, q⟩ := h
  refine g ds hl hp _ H _ ?_ (fun e σ' H' p x r => q _ _ _ p x .non) fun d v H' p x D => q d v H' p x D
  unfold L2.start
  rw [hd.length, hl]
  exact RS.args (RS.none _) hd
end K19
/-! K19LayB -/
set_option Elab.async false
set_option linter.all false
set_option maxRecDepth 100000
set_option maxHeartbeats 4000000
namespace K19
open PySem PySem.Spec PyProof.Rows L2
open Evl (Ex)
/-! ### three comparisons in a chain, as a test -/
section
variable {X : Cx} {a b c d : Expr} {ta tb tc td : TE} {pos : Pos}
def tChain3 (r r' r'' : R2) (ta tb tc td : TE) : TT := fun σ H Q => ta σ H fun x H1 => tb σ H1 fun y H2 => r x y H2 fun z H3 => ∃ k, z = .bl k ∧
  (if k = true then tc σ H3 fun w H4 => r' y w H4 fun z' H5 => ∃ k', z' = .bl k' ∧ (if k' = true then td σ H5 fun u H6 => r'' w u H6 fun z'' H7 => ∃ k'', z'' = .bl k'' ∧ Q k'' H7 else Q false H5) else Q false H3)
theorem pt_chain3 {op op' op'' : CmpOp} {r r' r'' : R2} (ho : OpR X (compareOp op) r) (ho' : OpR X (compareOp op') r') (ho'' : OpR X (compareOp op'') r'') (ha : PE X a ta) (hb : PE X b tb) (hc : PE X c tc) (hd : PE X d td)
    (hm : lastMarks [op, op', op''] [b, c, d] = false := by with_unfolding_all rfl) : PT X (.Compare a [op, op', op''] [b, c, d] pos) (tChain3 r r' r'' ta tb tc td) := by
  refine ⟨fun pins s σ H Q I h => isTrue_chain (thn (ha.run pins s σ H _ I h) fun v s1 ⟨x, H1, I1, r1, q1⟩ => ?_) hm⟩
  refine test_link (thn (hb.run pins s1 σ H1 _ I1 q1) fun u s2 ⟨y, H2, I2, r2, q2⟩ => thn (ho pins s2 σ H2 x y v u _ I2 r1 r2 q2) fun e s3 ⟨z, H3, I3, r3, k, ez, q3⟩ => ?_)
  subst ez
  cases r3
  refine wpAny_truthy_bool ?_
  cases k with
  | false => exact ite_ff ⟨H3, I3, q3⟩
  | true =>
    refine ite_tt (test_link (thn (hc.run pins s3 σ H3 _ I3 q3) fun u' s4 ⟨w, H4, I4, r4, q4⟩ => thn (ho' pins s4 σ H4 y w u u' _ I4 r2 r4 q4) fun e' s5 ⟨z', H5, I5, r5, k', ez', q5⟩ => ?_))
    subst ez'
    cases r5
    refine wpAny_truthy_bool ?_
    cases k' with
    | false => exact ite_ff ⟨H5, I5, q5⟩
    | true =>
      refine ite_tt (test_last (thn (hd.run pins s5 σ H5 _ I5 q5) fun u'' s6 ⟨t, H6, I6, r6, q6⟩ => thn (ho'' pins s6 σ H6 w t u' u'' _ I6 r4 r6 q6) fun e'' s7 ⟨z'', H7, I7, r7, k'', ez'', q7⟩ => ?_))
      subst ez''
      cases r7
      exact wpAny_truthy_bool ⟨H7, I7, q7⟩
theorem dt_chain3 {K : PySem.W.Frag} {env : Env'} {g g' g'' : Int → Int → Bool} {i j k l : Int} (ha : Dv K ta env (.int i)) (hb : Dv K tb env (.int j)) (hc : Dv K tc env (.int k)) (hd : Dv K td env (.int l)) :
    DT K (tChain3 (rI0 fun i j => .bl (g i j)) (rI0 fun i j => .bl (g' i j)) (rI0 fun i j => .bl (g'' i j)) ta tb tc td) env (g i j && (g' j k && g'' k l)) := fun σ H r Q q =>
  ha σ H r _ fun _ v H1 e1 x1 D1 => hb σ H1 (r.ex x1) _ fun _ w H2 e2 x2 D2 => by
    subst e1 e2
    cases D1
    cases D2
    refine ⟨i, j, rfl, rfl, g i j, rfl, ?_⟩
    cases hg : g i j with
    | false =>
      have z := q H2 (x1.trans x2)
      rw [hg] at z
      exact iteF z
    | true =>
      refine hc σ H2 (r.ex (x1.trans x2)) _ fun _ w H3 e3 x3 D3 => ?_
      subst e3
      cases D3
      refine ⟨j, k, rfl, rfl, g' j k, rfl, ?_⟩
      cases hg' : g' j k with
      | false =>
        have z := q H3 ((x1.trans x2).trans x3)
        rw [hg, hg'] at z
        exact iteF z
      | true =>
        refine hd σ H3 (r.ex ((x1.trans x2).trans x3)) _ fun _ w H4 e4 x4 D4 => ?_
        subst e4
        cases D4
        have z := q H4 (((x1.trans x2).trans x3).trans x4)
        rw [hg, hg'] at z
        exact ⟨k, l, rfl, rfl, g'' k l, rfl, z⟩
end
/-! ### match over written texts -/
section
variable {X : Cx} {t : TS} {te : TE} {subj : Expr} {cases_ rest : List MatchCase} {body : List Stmt} {pos p1 p2 : Pos}
structure PM (X : Cx) (cs : List MatchCase) (t : V → TS) : Prop where
  run : ∀ (pins : List (Addr × Obj)) (s : Shared) (σ : L2.St) (H : Hp) (D : Ends) (v : V) (u : Value) (first : Bool), Inv X pins σ H s → RelV v u → t v D σ H →
    wpAny (model X.prog X.w) X.A (matchCases cs X.env u first) (SP X pins D) X.xe s
def mNil : V → TS := fun _ D σ H => D.nx σ H
def mCons (z : Str) (t : TS) (r : V → TS) : V → TS := fun v D σ H => ∃ y, v = .str y ∧ if decide (V.str y = V.str z) = true then t D σ H else r v D σ H
theorem pm_nil : PM X [] mNil := ⟨fun _ _ σ H _ _ _ _ I _ h => wpAny_matchCases_nil ⟨σ, H, I, h⟩⟩
theorem pm_cons {z : Str} {j : Nat} {r : V → TS} (hb : PSs X body t) (hr : PM X rest r) : PM X (⟨.MatchValue (.Constant (.str z) j p1) p2, none, body⟩ :: rest) (mCons z t r) := by
  refine ⟨fun pins s σ H D v u first I rv h => ?_⟩
  obtain ⟨y, rfl, h⟩ := h
  refine wpAny_matchCases_cons (wpAny_matchPattern_Value ?_)
  refine thn ((pe_str (X := X)).run pins s σ H (fun x H1 => x = .str z ∧ H1 = H) I ⟨rfl, rfl⟩) fun x s1 ⟨xv, H1, I1, r1, e1, e2⟩ => ?_
  subst e1 e2
  refine thn (op_eq pins s1 σ H1 (.str y) (.str z) u x (fun w H2 => w = .bl (decide (V.str y = V.str z)) ∧ H2 = H1) I1 rv r1 ⟨rfl, rfl, rfl⟩) fun c s2 ⟨w, H2, I2, r2, e, e'⟩ => ?_
  subst e e'
  cases r2
  refine wpAny_truthy_bool ?_
  cases hd : decide (V.str y = V.str z) with
  | true =>
    rw [hd] at h
    refine ite_tt (wpAny_assignInOrder_none ?_)
    exact hb.run pins s2 σ H2 D I2 (by simpa using h)
  | false =>
    rw [hd] at h
    exact ite_ff (hr.run pins s2 σ H2 D _ u false I2 rv (by simpa using h))
def tMatch (te : TE) (r : V → TS) : TS := fun D σ H => te σ H fun x H1 => r x D σ H1
theorem ps_match {r : V → TS} (hs : PE X subj te) (hc : PM X cases_ r) : PS X (.Match subj cases_ pos) (tMatch te r) := by
  refine ⟨fun pins s σ H D I h => wpAny_Match (thn (hs.run pins s σ H _ I h) fun v s1 ⟨x, H1, I1, r1, q1⟩ => ?_)⟩
  exact hc.run pins s1 σ H1 D x v true I1 r1 q1
end
/-! ### isqrt -/
def rIsqrt : List V → Hp → VK → Prop := fun vs H Q => ∃ a : Int, vs = [.int a] ∧ 0 ≤ a ∧ a < 2 ^ 64 ∧ Q (.int ((Float64.isqrt a.toNat : Nat) : Int)) H
theorem cr_isqrt {X : Cx} : CallR X (.builtin "math.isqrt") rIsqrt := by
  intro pins s σ H vs us Q I r h
  obtain ⟨a, rfl, h0, h1, q⟩ := h
  obtain ⟨u, rfl, ru⟩ := vals1 r
  obtain ⟨t, rfl⟩ := ru
  exact PySem.W.mg_isqrt h0 h1 ⟨.int _, H, I.tok _, ⟨_, rfl⟩, q⟩
theorem dv_isqrt {K : PySem.W.Frag} {env : Env'} {ta : TE} {i : Int} (ha : Dv K ta env (.int i)) (h0 : 0 ≤ i) (h1 : i < 2 ^ 64) : Dv K (tCB rIsqrt (tCons ta tNil)) env (.int ((Float64.isqrt i.toNat : Nat) : Int)) := fun σ H r Q q =>
  ha σ H r _ fun _ v H1 e1 x1 D1 => by
    subst e1
    cases D1
    exact ⟨i, rfl, h0, h1, q _ _ H1 rfl x1 (.int _)⟩
/-- abs -/
theorem dv_abs {K : PySem.W.Frag} {env : Env'} {ta : TE} {i : Int} (ha : Dv K ta env (.int i)) : Dv K (tCB (fun xs H Q => ∃ i, xs = [.int i] ∧ Q (.int (if i < 0 then -i else i)) H) (tCons ta tNil)) env (.int ((i.natAbs : Nat) : Int)) := fun σ H r Q q =>
  ha σ H r _ fun _ v H1 e1 x1 D1 => by
    subst e1
    cases D1
    refine ⟨i, rfl, ?_⟩
    have e : (if i < 0 then -i else i) = ((i.natAbs : Nat) : Int) := by split <;> omega
    rw [e]
    exact q _ _ H1 rfl x1 (.int _)
/-- int of an int -/
theorem dv_intI {K : PySem.W.Frag} {env : Env'} {ta : TE} {i : Int} (ha : Dv K ta env (.int i)) : Dv K (tCB (fun xs H Q => (∃ i, xs = [.int i] ∧ Q (.int i) H) ∨ ∃ k, xs = [.bl k] ∧ Q (.int (if k then 1 else 0)) H) (tCons ta tNil)) env (.int i) := fun σ H r Q q =>
  ha σ H r _ fun _ v H1 e1 x1 D1 => by
    subst e1
    cases D1
    exact .inl ⟨i, rfl, q _ _ H1 rfl x1 (.int _)⟩
theorem dv_intB {K : PySem.W.Frag} {env : Env'} {ta : TE} {b : Bool} (ha : Dv K ta env (.bool b)) : Dv K (tCB (fun xs H Q => (∃ i, xs = [.int i] ∧ Q (.int i) H) ∨ ∃ k, xs = [.bl k] ∧ Q (.int (if k then 1 else 0)) H) (tCons ta tNil)) env (.int (if b then 1 else 0)) := fun σ H r Q q =>
  ha σ H r _ fun _ v H1 e1 x1 D1 => by
    subst e1
    cases D1
    exact .inr ⟨b, rfl, q _ _ H1 rfl x1 (.int _)⟩
end K19
/-! K19LayC -/
set_option Elab.async false
set_option linter.all false
set_option maxRecDepth 100000
set_option maxHeartbeats 4000000
namespace K19
open PySem PySem.Spec PyProof.Rows L2
open Evl (Ex)
/-! ### (x, ..) < (y, ..) where x and y differ -/
section
open PySem.SeqAt
open PySem.AutoSeq1 (wpAny_loadPart')
open PySem.MeetsSeq PySem.MeetsSeq2 PySem.MeetsSeq3
theorem tup_lt_head (l b : Addr) (items items2 : Array Value) (n n2 : Nat) (dd dd2 : Option Addr) (sl sl2 : Array (Option Value)) (x y : Value) (xs ys : List Value) (hx : items.toList = x :: xs) (hy : items2.toList = y :: ys) (k : Bool) :
    Meets (Builtin.«tuple.__lt__» ⟨[.ref l, .ref b], []⟩)
      (fun A R s => s.heap.get? l = some { cls := .type "tuple", dict := dd, data := .seq items n, slots := sl } ∧ s.heap.get? b = some { cls := .type "tuple", dict := dd2, data := .seq items2 n2, slots := sl2 } ∧
        EqAt A.in1 s x y false ∧ (∀ (prog : Program) (w : World) (E : Value → Shared → Prop) (Q : Value → Shared → Prop), Q (.bool k) s → wpAny (model prog w) A.in1 (richCompare .Lt x y) Q E s) ∧ R (.ok (.ret (.bool k))) s) :=
  .of_wp fun prog w A R s h => by
    obtain ⟨hp, g, d, tk, os⟩ := s
    obtain ⟨hl, hb, he, hc, hR⟩ := h
    have f2 := AutoSeq1.sub_tuple_tuple
    wp_walk using wpAny_loadPart' hl, wpAny_loadPart' hb, wpAny_forIn_list _ (fun rest z s' => z.1 = none ∧ s' = ⟨hp, g, d, tk, os⟩ ∧ rest = (x :: xs).zip (y :: ys)) _
    case turn =>
      rintro ⟨u, v⟩ rest z s' ⟨hz, rfl, hrest⟩
      rw [List.zip_cons_cons] at hrest
      injection hrest with e1 e2
      injection e1 with e3 e4
      subst e3 e4
      refine wpAny_bind (he prog w _ _ ?_)
      have hri := hc prog w
      wp_walk using hri
      exact ⟨_, rfl, by simpa using hR⟩
    case fin =>
      rintro ⟨z1, z2⟩ s' ⟨_, rfl, hrest⟩
      rw [List.zip_cons_cons] at hrest
      cases hrest
    case h => exact ⟨rfl, rfl, by rw [hx, hy]⟩
end
section
variable {prog : Program} {w : World} {A : Around} {E : Value → Shared → Prop} {s : Shared}
/-- two pairs whose first parts are tuples of ints, unlike -/
theorem lt_pairs {t1 t2 f1 f2 : Addr} {v1 v2 : Value} {ns ms : List Int} {i1 i2 j1 j2 : Array Value} {Q : Value → Shared → Prop} (h1 : IsTup s.heap t1 j1) (h2 : IsTup s.heap t2 j2) (e1 : j1.toList = [.ref f1, v1]) (e2 : j2.toList = [.ref f2, v2])
    (g1 : IsTup s.heap f1 i1) (g2 : IsTup s.heap f2 i2) (hi : IntsAre i1.toList ns) (hj : IntsAre i2.toList ms) (ne : ns ≠ ms) (hr : ∃ as bs, Reads s.heap (.ref f1) (.tuple (ns.map PyData.int)) as ∧ Reads s.heap (.ref f2) (.tuple (ms.map PyData.int)) bs)
    (hu : A.units + 8 < cLine) (hev : PyData.eqv (.tuple (ns.map PyData.int)) (.tuple (ms.map PyData.int)) = false) (hc1 : SeqAt.shaped (.tuple (ns.map PyData.int)) = true) (hc2 : SeqAt.shaped (.tuple (ms.map PyData.int)) = true) (hdp : (PyData.tuple (ns.map PyData.int)).depth ≤ 2)
    (h : Q (.bool (HT.lexLt ns ms)) s) : wpAny (model prog w) A (richCompare .Lt (.ref t1) (.ref t2)) Q E s := by
  obtain ⟨⟨cls, dd, data, sl⟩, ho, hc, n, hd⟩ := id h1
  obtain ⟨⟨cls2, dd2, data2, sl2⟩, ho2, hc2', n2, hd2⟩ := id h2
  simp only at hc hd hc2' hd2
  subst hc hd hc2' hd2
  obtain ⟨as, bs, r1, r2⟩ := hr
  have hin : A.in1.units = A.units + 1 := rfl
  refine richCompare_meets_room (op := .Lt) ⟨_, ho, rfl⟩ ⟨_, ho2, rfl⟩ PySem.F.slot_tuple_lt PySem.F.entry_tuple_lt (PySem.F.args_tuple_lt_2 _ _)
    (tup_lt_head t1 t2 j1 j2 n n2 dd dd2 sl sl2 (.ref f1) (.ref f2) [v1] [v2] e1 e2 (HT.lexLt ns ms)) ⟨ho, ho2, ?_, ?_, ⟨(fun z => nomatch z), h⟩⟩ (by omega)
  · rw [← hev]
    refine SeqAt.eqAt_reads _ _ _ s (.ref f1) (.ref f2) _ _ r1 r2 (SeqAt.canLay_of_shaped hc1) (SeqAt.canLay_of_shaped hc2) ?_
    have := Nat.min_le_left (PyData.tuple (ns.map PyData.int)).depth (PyData.tuple (ms.map PyData.int)).depth
    omega
  · intro prog w E Q hq
    exact HT.lt_tupInts g1 g2 hi hj (by omega) hq
end
/-! ### min of what is walked, the items compared as they stand -/
section
variable {prog : Program} {w : World} {A : Around} {R : Result → Shared → Prop} {I : Addr} {fp wr : List Addr} {n : Nat} {P : Nat → Value → Prop} {St : Nat → Heap → Prop}
/-- .. compared in a heap that is some turn's -/
def CmpS (prog : Program) (w : World) (A : Around) (P : Nat → Value → Prop) (St : Nat → Heap → Prop) (bt : Nat → Nat → Bool) : Prop :=
  ∀ i j t vi vj (s : Shared) (Q : Value → Shared → Prop) (E : Value → Shared → Prop), j < i → St t s.heap → P i vi → P j vj → Q (.bool (bt i j)) s → wpAny (model prog w) A (richCompare .Lt vi vj) Q E s
theorem argBest_le (bt : Nat → Nat → Bool) : ∀ k, argBest bt k ≤ k
  | 0 => Nat.le_refl 0
  | k + 1 => by
    unfold argBest
    split
    · exact Nat.le_refl _
    · exact Nat.le_succ_of_le (argBest_le bt k)
theorem minS_loop (W : Walks prog w A.in1 I fp wr n P St) (bt : Nat → Nat → Bool) (cmp : CmpS prog w A.in1 P St bt) (S : Addr) (nS : S ∉ fp) :
    ∀ (k j : Nat) (s : Shared) (best : Value) (c : Nat), n - (j + 1) = k → j + 1 ≤ n → St (j + 1) s.heap → P (argBest bt j) best → s.heap.get? S = some { cls := .type "list", dict := none, data := .seq #[best, best] c, slots := #[] } →
    (∀ v h' tk, P (argBest bt (n - 1)) v → (∀ b o, b ∉ wr → b ≠ S → s.heap.get? b = some o → h'.get? b = some o) → R (.ok (.ret v)) { s with heap := h', toks := tk }) → codeAny (model prog w) A (.builtin "min.loop" ⟨[.ref I, .none, .ref S], []⟩) R s
  | 0, j, s, best, c, hk, hj, st, pb, atS, fin => by
    have sw : S ∉ wr := fun h => nS (W.sub _ h)
    have last : j + 1 = n := by omega
    refine codeAny_builtin F.entry_min_loop ?_
    rw [Around.under_plainId F.plain_min_loop _]
    refine (wpAny_bind (wpAny_seqItems atS rfl ?_) : wpAny _ A.in1 (seqItems? (.ref S) >>= _) _ _ s)
    refine (wpAny_bind (wpAny_tryCatch (W.done s _ _ (last ▸ st) fun h' tk kp => ?_)) : wpAny _ A.in1 (tryCatch (pyNext (.ref I)) _ >>= _) _ _ s)
    refine (wpAny_bind ?_ : wpAny _ A.in1 (updateSeq S (fun _ => #[]) >>= _) _ _ _)
    refine wpAny_updateSeq (kp S _ sw atS) rfl (wpAny_bind (wpAny_letGo (wpAny_pure ?_)))
    exact fin best _ tk (by rw [← last]; exact pb) fun b o hb hS e => (Heap.get?_update_other _ _ hS.symm).trans (kp b o hb e)
  | k + 1, j, s, best, c, hk, hj, st, pb, atS, fin => by
    have sw : S ∉ wr := fun h => nS (W.sub _ h)
    have nm : (toString "min" ++ toString ".loop" : String) = "min.loop" := by decide
    have lt : j + 1 < n := by omega
    refine codeAny_builtin F.entry_min_loop ?_
    rw [Around.under_plainId F.plain_min_loop _]
    refine (wpAny_bind (wpAny_seqItems atS rfl ?_) : wpAny _ A.in1 (seqItems? (.ref S) >>= _) _ _ s)
    refine (wpAny_bind (wpAny_tryCatch (W.item (j + 1) s _ _ lt st fun v h' tk pv st' kp => ?_)) : wpAny _ A.in1 (tryCatch (pyNext (.ref I)) _ >>= _) _ _ s)
    have atS' := kp S _ sw atS
    have jl : argBest bt j < j + 1 := Nat.lt_succ_of_le (argBest_le bt j)
    refine (wpAny_bind (wpAny_tryCatch (wpAny_holding (wpAny_bind (cmp (j + 1) (argBest bt j) (j + 1 + 1) v best { s with heap := h', toks := tk } _ _ jl st' pv pb ?_)))) : wpAny _ A.in1 (tryCatch (holding [v, v] (richCompare .Lt v best >>= _)) _ >>= _) _ _ _)
    refine wpAny_bind (wpAny_holding (wpAny_truthy_bool ?_))
    refine wpAny_bind (wpAny_letGo (wpAny_pure ?_))
    cases hb : bt (j + 1) (argBest bt j) with
    | false =>
      simp only [Bool.false_eq_true, if_false]
      refine wpAny_bind (wpAny_letGo ?_)
      rw [nm]
      have pb' : P (argBest bt (j + 1)) best := by simp only [argBest, hb, Bool.false_eq_true, if_false]; exact pb
      exact wpAny_pure ⟨plainId_quiet F.plain_min_loop _, minS_loop W bt cmp S nS k (j + 1) _ best c (by omega) lt st' pb' atS' fun v' h2 tk2 p2 k2 => fin v' h2 tk2 p2 fun b o h1 h3 e => k2 b o h1 h3 (kp b o h1 e)⟩
    | true =>
      simp only [if_true]
      refine wpAny_bind (wpAny_updateSeq atS' rfl (wpAny_bind (wpAny_letGo ?_)))
      rw [nm]
      have pb' : P (argBest bt (j + 1)) v := by simp only [argBest, hb, if_true]; exact pv
      refine wpAny_pure ⟨plainId_quiet F.plain_min_loop _, minS_loop W bt cmp S nS k (j + 1) _ v _ (by omega) lt (W.frame _ _ _ st' fun b hf o e => ?_) pb' (Heap.get?_update_self _ atS' rfl) fun v' h2 tk2 p2 k2 => ?_⟩
      · exact (Heap.get?_update_other _ _ (fun h : S = b => nS (h ▸ hf))).trans e
      · exact fin v' h2 tk2 p2 fun b o h1 h3 e => k2 b o h1 h3 ((Heap.get?_update_other _ _ h3.symm).trans (kp b o h1 e))
theorem minS_first (W : Walks prog w A.in1 I fp wr n P St) (bt : Nat → Nat → Bool) (cmp : CmpS prog w A.in1 P St bt) (S : Addr) (nS : S ∉ fp) (hn : 0 < n) {s : Shared} {c : Nat} (st : St 0 s.heap) (atS : s.heap.get? S = some { cls := .type "list", dict := none, data := .seq #[] c, slots := #[] })
    (fin : ∀ v h' tk, P (argBest bt (n - 1)) v → (∀ b o, b ∉ wr → b ≠ S → s.heap.get? b = some o → h'.get? b = some o) → R (.ok (.ret v)) { s with heap := h', toks := tk }) : codeAny (model prog w) A (.builtin "min.loop" ⟨[.ref I, .none, .ref S], []⟩) R s := by
  have sw : S ∉ wr := fun h => nS (W.sub _ h)
  have nm : (toString "min" ++ toString ".loop" : String) = "min.loop" := by decide
  refine codeAny_builtin F.entry_min_loop ?_
  rw [Around.under_plainId F.plain_min_loop _]
  refine (wpAny_bind (wpAny_seqItems atS rfl ?_) : wpAny _ A.in1 (seqItems? (.ref S) >>= _) _ _ s)
  refine (wpAny_bind (wpAny_tryCatch (W.item 0 s _ _ hn st fun v h' tk pv st' kp => ?_)) : wpAny _ A.in1 (tryCatch (pyNext (.ref I)) _ >>= _) _ _ s)
  have atS' := kp S _ sw atS
  refine (wpAny_bind ?_ : wpAny _ A.in1 (updateSeq S (fun _ => #[v, v]) >>= _) _ _ _)
  refine wpAny_updateSeq atS' rfl ?_
  rw [nm]
  refine wpAny_pure ⟨plainId_quiet F.plain_min_loop _, minS_loop W bt cmp S nS _ 0 _ v _ rfl hn (W.frame _ _ _ st' fun b hf o e => ?_) pv (Heap.get?_update_self _ atS' rfl) fun v' h2 tk2 p2 k2 => ?_⟩
  · exact (Heap.get?_update_other _ _ (fun h : S = b => nS (h ▸ hf))).trans e
  · exact fin v' h2 tk2 p2 fun b o h1 h3 e => k2 b o h1 h3 ((Heap.get?_update_other _ _ h3.symm).trans (kp b o h1 e))
end
section
variable {prog : Program} {w : World} {A : Around} {E : Value → Shared → Prop} {s : Shared}
theorem call_minS {x : Value} {Q : Value → Shared → Prop}
    (h : wpAny (model prog w) A.in1 (pyIter x) (fun it s₂ => ∃ I fp wr n P St bt, it = .ref I ∧ Walks prog w A.in1 I fp wr n P St ∧ St 0 s₂.heap ∧ (∀ b ∈ fp, b < s₂.heap.objs.size) ∧ 0 < n ∧ CmpS prog w A.in1 P St bt ∧
      ∀ v h' tk, P (argBest bt (n - 1)) v → (∀ b o, b ∉ wr → s₂.heap.get? b = some o → h'.get? b = some o) → Q v { s₂ with heap := h', toks := tk }) E s) : wpAny (model prog w) A (call (.builtin "min") [x]) Q E s := by
  have nm : (toString "min" ++ toString ".loop" : String) = "min.loop" := by decide
  refine call_function_tree F.kind_min F.plain_min F.entry_min (F.args_min1 _) ?_
  show wpAny _ A.in1 (Builtin.Builtins.bindParams "min" ["key", "default"] 0 ⟨[], []⟩ >>= _) _ _ s
  refine wpAny_bind (wpAny_of_eq (show Builtin.Builtins.bindParams "min" ["key", "default"] 0 ⟨[], []⟩ = pure [none, none] from rfl) (wpAny_bind (wpAny_pure ?_)))
  refine wpAny_bind (wpAny_mono h (fun it s₂ h2 => ?_) fun _ _ e => e)
  obtain ⟨I, fp, wr, n, P, St, bt, rfl, W, st, hfp, hn, cmp, fin⟩ := h2
  refine wpAny_bind (wpAny_newObj_type ?_)
  have nS : s₂.heap.objs.size ∉ fp := fun hm => Nat.lt_irrefl _ (hfp _ hm)
  rw [nm]
  exact wpAny_pure ⟨plainId_quiet F.plain_min_loop _, minS_first W bt cmp s₂.heap.objs.size nS hn (W.frame _ _ _ st fun b _ o e => Heap.get?_push_of_some _ e) (Heap.get?_push_size _ rfl) fun v h' tk pv kp =>
    fin v h' tk pv fun b o hb e => kp b o hb (Nat.ne_of_lt (Heap.lt_size e)) (Heap.get?_push_of_some _ e)⟩
end
/-- a walk that leaves some objects alone -/
theorem walks_with {prog : Program} {w : World} {A : Around} {I : Addr} {fp wr : List Addr} {n : Nat} {P : Nat → Value → Prop} {St : Nat → Heap → Prop} (W : Walks prog w A I fp wr n P St) (objs : List (Addr × Obj)) (ne : ∀ p ∈ objs, p.1 ∉ wr) :
    Walks prog w A I (fp ++ objs.map (·.1)) wr n P (fun i h => St i h ∧ ∀ p ∈ objs, h.get? p.1 = some p.2) where
  sub := fun b hb => List.mem_append_left _ (W.sub b hb)
  frame := fun i h h' st k => ⟨W.frame i h h' st.1 fun b hb => k b (List.mem_append_left _ hb), fun p hp => k p.1 (List.mem_append_right _ (List.mem_map.mpr ⟨p, hp, rfl⟩)) _ (st.2 p hp)⟩
  item := fun i s Q E hi st q => W.item i s Q E hi st.1 fun v h' tk pv st' k => q v h' tk pv ⟨st', fun p hp => k p.1 p.2 (ne p hp) (st.2 p hp)⟩ k
  done := fun s Q E st q => W.done s Q E st.1 q
  self := fun i s Q E st q => W.self i s Q E st.1 q
end K19
/-! K19LayD -/
set_option Elab.async false
set_option linter.all false
set_option maxRecDepth 100000
set_option maxHeartbeats 4000000
namespace K19
open PySem PySem.Spec PyProof.Rows L2
open Evl (Ex)
/-! ### min of a list of pairs (ints, anything), the first parts all unlike -/
def intsD (ns : List Int) : PyData := .tuple (ns.map PyData.int)
theorem eqv_ints_ne : ∀ {ns ms : List Int}, ns ≠ ms → PyData.eqvAll (ns.map PyData.int) (ms.map PyData.int) = false
  | [], [], h => (h rfl).elim
  | [], _ :: _, _ => by simp [PyData.eqvAll]
  | _ :: _, [], _ => by simp [PyData.eqvAll]
  | n :: ns, m :: ms, h => by
    by_cases e : n = m
    · subst e
      have h2 : ns ≠ ms := fun z => h (by rw [z])
      simp [PyData.eqvAll, eqv_ints_ne h2]
    · simp [PyData.eqvAll, PyData.eqv, e]
theorem eqv_ints_eq : ∀ (ns : List Int), PyData.eqvAll (ns.map PyData.int) (ns.map PyData.int) = true
  | [] => by simp [PyData.eqvAll]
  | n :: ns => by simp [PyData.eqvAll, PyData.eqv, eqv_ints_eq ns]
theorem eqv_intsD {ns ms : List Int} : PyData.eqv (intsD ns) (intsD ms) = decide (ns = ms) := by
  by_cases h : ns = ms
  · subst h
    simp [intsD, PyData.eqv, eqv_ints_eq]
  · simp [intsD, PyData.eqv, eqv_ints_ne h, h]
theorem canLay_ints : ∀ (ns : List Int), PyData.canLayAll0 (ns.map PyData.int) = true
  | [] => by simp [PyData.canLayAll0]
  | n :: ns => by simp [PyData.canLayAll0, PyData.canLay0, canLay_ints ns]
theorem depth_ints : ∀ (ns : List Int), PyData.depthAll (ns.map PyData.int) ≤ 1
  | [] => by simp [PyData.depthAll]
  | n :: ns => by
    have := depth_ints ns
    simp [PyData.depthAll, PyData.depth]
    omega
theorem shaped_ints (ns : List Int) : SeqAt.shaped (intsD ns) = true := by
  have h := depth_ints ns
  unfold SeqAt.shaped intsD
  rw [Bool.and_eq_true]
  refine ⟨by simp [PyData.canLay0, canLay_ints ns], decide_eq_true ?_⟩
  simp only [PyData.depth]
  omega
theorem dps_ints {K : PySem.W.Frag} {H : Hp} : ∀ {ns : List Int} {vs : List V}, DpAll K H vs (ns.map PyData.int) → vs = ns.map V.int
  | [], _, h => by cases h; rfl
  | n :: ns, _, h => by
    cases h with
    | cons h1 h2 =>
      cases h1
      rw [dps_ints h2]
      rfl
theorem dps_of_ints {K : PySem.W.Frag} {H : Hp} : ∀ (ns : List Int), DpAll K H (ns.map V.int) (ns.map PyData.int)
  | [] => .nil
  | n :: ns => .cons (.int n) (dps_of_ints ns)
def pairD (p : List Int × PyData) : PyData := .tuple [intsD p.1, p.2]
def fst_ (ks : List (List Int × PyData)) (i : Nat) : List Int := (ks.map (·.1)).getD i []
def bestAt (ks : List (List Int × PyData)) : Nat := argBest (fun i j => HT.lexLt (fst_ ks i) (fst_ ks j)) (ks.length - 1)
def rMinP (K : PySem.W.Frag) : List V → Hp → VK → Prop := fun vs H Q => ∃ (a : Addr) (xs : List V) (ks : List (List Int × PyData)), vs = [V.ref a] ∧ SqL K H a xs ∧ DpAll K H xs (ks.map pairD) ∧ ks ≠ [] ∧ (ks.map (·.1)).Nodup ∧
  ∀ v, xs[bestAt ks]? = some v → Q v H
theorem nodup_ne {α : Type} {l : List α} (h : l.Nodup) {i j : Nat} {x y : α} (hi : l[i]? = some x) (hj : l[j]? = some y) (ne : i ≠ j) : x ≠ y := by
  obtain ⟨h1, e1⟩ := List.getElem?_eq_some_iff.mp hi
  obtain ⟨h2, e2⟩ := List.getElem?_eq_some_iff.mp hj
  subst e1 e2
  rcases Nat.lt_or_gt_of_ne ne with lt | gt
  · exact List.pairwise_iff_getElem.mp h i j h1 h2 lt
  · exact (List.pairwise_iff_getElem.mp h j i h2 h1 gt).symm
theorem cr_minP {X : Cx} (hc : X.calm = true) (hu : X.A.units + 64 < cLine) : CallR X (.builtin "min") (rMinP X.K) := by
  intro pins s σ H vs us Q I r h
  obtain ⟨a, xs, ks, rfl, hs, hall, hne, hnd, q⟩ := h
  rw [Vals.ref1 r]
  obtain ⟨its, rv, hl, _⟩ := I.list hs
  have hl' : s.heap.IsList a its.toArray := hl.isList
  have alt : a < s.heap.objs.size := by obtain ⟨_, e, _⟩ := hl'; exact Heap.lt_size e
  have len : its.length = ks.length := by rw [← rv.length, hall.length, List.length_map]
  refine call_minS (wpAny_pyIter_list hl' ?_)
  -- the walk, with all that stood
  have W := walks_with (Walks.list (prog := X.prog) (w := X.w) (A := X.A.in1) (I.ok.hd hc) s.heap.objs.size a (Nat.ne_of_lt alt) its.toArray) (pinsAt (List.range s.heap.objs.size) s.heap) (fun p hp hm => by
    have e : p.1 = s.heap.objs.size := by simpa using hm
    have := (of_pinsAt hp).2
    rw [e] at this
    exact absurd (Heap.lt_size this) (Nat.lt_irrefl _))
  refine ⟨_, _, _, _, _, _, fun i j => HT.lexLt (fst_ ks i) (fst_ ks j), rfl, W, ⟨⟨⟨_, Heap.get?_push_size _ rfl, rfl, rfl⟩, hl'.push _⟩, fun p hp => Heap.get?_push_of_some _ (of_pinsAt hp).2⟩, fun b hb => ?_, ?_, ?_, fun v h' tk hP hk => ?_⟩
  · show b < (s.heap.push _).objs.size
    rw [Heap.size_push]
    rcases List.mem_append.mp hb with hb | hb
    · have hb : b = s.heap.objs.size ∨ b = a := by simpa using hb
      rcases hb with rfl | rfl
      · exact Nat.lt_succ_self _
      · exact Nat.lt_succ_of_lt alt
    · obtain ⟨p, hp, rfl⟩ := List.mem_map.mp hb
      exact Nat.lt_succ_of_lt (Heap.lt_size (of_pinsAt hp).2)
  · show 0 < its.toArray.size
    rw [List.size_toArray, len]
    exact List.length_pos_iff.mpr hne
  · intro i j t vi vj s' Q' E' hji st hi hj hq
    have hk : ∀ b o, s.heap.get? b = some o → s'.heap.get? b = some o := fun b o e => st.2 (b, o) (mem_pinsAt (List.mem_range.mpr (Heap.lt_size e)) e)
    have I' : Inv X pins σ H { s with heap := s'.heap, toks := s'.toks } := I.kept (h' := s'.heap) (t' := s'.toks) hk
    have one : ∀ (i : Nat) (v : Value), its.toArray[i]? = some v → ∃ (tt ff : Addr) (jj ii : Array Value) (v2 : Value) (ns : List Int) (as : List Addr), v = .ref tt ∧ IsTup s'.heap tt jj ∧ jj.toList = [.ref ff, v2] ∧ IsTup s'.heap ff ii ∧ IntsAre ii.toList ns ∧
        Reads s'.heap (.ref ff) (intsD ns) as ∧ (ks.map (·.1))[i]? = some ns := by
      intro i v hv
      have hv : its[i]? = some v := by simpa using hv
      have hlt : i < its.length := (List.getElem?_eq_some_iff.mp hv).1
      obtain ⟨d, hd⟩ : ∃ d, ks[i]? = some d := ⟨_, List.getElem?_eq_getElem (by rw [← len]; exact hlt)⟩
      obtain ⟨x, hx, D⟩ := hall.get (show (ks.map pairD)[i]? = some (pairD d) by rw [List.getElem?_map, hd]; rfl)
      obtain ⟨u, hu', rel⟩ := rv.get hx
      have eu : u = v := Option.some.inj (hu'.symm.trans hv)
      subst eu
      cases D with
      | tup hS hA =>
        cases hA with
        | cons D1 hA2 =>
          cases hA2 with
          | cons D2 hA3 =>
            cases hA3
            have D1' := D1
            cases D1 with
            | tup hS1 hA1 =>
              have e1 := dps_ints hA1
              subst e1
              cases rel
              obtain ⟨its1, r1, p1, _⟩ := I'.tuple hS
              obtain ⟨its2, r2, p2, _⟩ := I'.tuple hS1
              cases r1 with
              | cons ra rr =>
                cases rr with
                | cons rb rr =>
                  cases rr
                  cases ra
                  obtain ⟨as, rd⟩ := Dp.reads I' _ _ _ D1' rfl
                  exact ⟨_, _, _, _, _, d.1, as, rfl, p1, rfl, p2, intsAre_of r2, rd, by rw [List.getElem?_map, hd]; rfl⟩
    obtain ⟨t1, f1, j1, i1, w1, ns, as, rfl, a1, a2, a3, a4, a5, a6⟩ := one i vi hi
    obtain ⟨t2, f2, j2, i2, w2, ms, bs, rfl, b1, b2, b3, b4, b5, b6⟩ := one j vj hj
    have nem : ns ≠ ms := nodup_ne hnd a6 b6 (Nat.ne_of_gt hji)
    have hq' : Q' (.bool (HT.lexLt ns ms)) s' := by
      have e1 : fst_ ks i = ns := by unfold fst_; rw [List.getD_eq_getElem?_getD, a6]; rfl
      have e2 : fst_ ks j = ms := by unfold fst_; rw [List.getD_eq_getElem?_getD, b6]; rfl
      rw [← e1, ← e2]
      exact hq
    refine lt_pairs a1 b1 a2 b2 a3 b3 a4 b4 nem ⟨as, bs, a5, b5⟩ ?_ ?_ (shaped_ints ns) (shaped_ints ms) ?_ hq'
    · have h2 : X.A.in1.units = X.A.units + 1 := rfl
      omega
    · rw [show (PyData.tuple (ns.map PyData.int)) = intsD ns from rfl, show (PyData.tuple (ms.map PyData.int)) = intsD ms from rfl, eqv_intsD]
      exact decide_eq_false nem
    · have := depth_ints ns
      simp only [PyData.depth]
      omega
  · have hv : its[bestAt ks]? = some v := by
      have e : its.toArray[argBest (fun i j => HT.lexLt (fst_ ks i) (fst_ ks j)) (its.toArray.size - 1)]? = some v := hP
      rw [List.size_toArray, len] at e
      unfold bestAt
      simpa using e
    have hlt : bestAt ks < its.length := (List.getElem?_eq_some_iff.mp hv).1
    obtain ⟨x, hx⟩ : ∃ x, xs[bestAt ks]? = some x := ⟨_, List.getElem?_eq_getElem (by rw [rv.length]; exact hlt)⟩
    obtain ⟨u, hu', rel⟩ := rv.get hx
    have eu : u = v := Option.some.inj (hu'.symm.trans hv)
    subst eu
    exact ⟨x, H, I.kept (t' := tk) fun b o e => hk b o (fun hm => by
      have e2 : b = s.heap.objs.size := by simpa using hm
      rw [e2] at e
      exact absurd (Heap.lt_size e) (Nat.lt_irrefl _)) (Heap.get?_push_of_some _ e), rel, q x hx⟩
end K19
/-! K19Cyc -/
set_option Elab.async false
set_option maxRecDepth 100000
set_option linter.all false
set_option maxHeartbeats 4000000
namespace K19
/-! ### cycles of reduced forms -/
def rhoN (w : Int) : Nat → Fm → Fm
  | 0, f => f
  | n + 1, f => rhoN w n (rho w f)
theorem rhoN_add (w : Int) : ∀ (m n : Nat) (f : Fm), rhoN w (m + n) f = rhoN w n (rhoN w m f)
  | 0, n, f => by rw [Nat.zero_add]; rfl
  | m + 1, n, f => by rw [Nat.add_right_comm]; exact rhoN_add w m n (rho w f)
theorem rhoN_succ (w : Int) (n : Nat) (f : Fm) : rhoN w (n + 1) f = rho w (rhoN w n f) := rhoN_add w n 1 f
def retB (w : Int) (h : Fm) : Nat → Fm → Bool
  | 0, _ => false
  | n + 1, g => if g = h then true else retB w h n (rho w g)
def nuB (w : Int) (h : Fm) : Nat → Fm → Bool
  | 0, _ => false
  | n + 1, g => if redIB w g then decide (g = h) else nuB w h n (nu g)
def chkB (w : Int) (f : Fm) : Bool := retB w f 60 (rho w f) && (redIB w (rho w f) && (decide (f.a * (rho w f).a < 0) && (decide (f.a < 0) || nuB w (rho w (rho w f)) 60 (nu f))))
def rootN (n : Nat) : Nat := PySem.Float64.isqrt n
def chkD (n : Nat) : Bool := (rootN n * rootN n == n) || ((List.range (rootN n)).all fun j => (List.range (2 * rootN n + 1)).all fun i =>
  let a : Int := (i : Int) - (rootN n : Int)
  let b : Int := (j : Int) + 1
  let f : Fm := ⟨a, b, (b * b - (n : Int)).fdiv (4 * a)⟩
  !(decide (disc f = (n : Int)) && redIB (rootN n : Int) f) || chkB (rootN n : Int) f)
def chkT (k : Nat) : Bool := (List.range 3).all fun i => decide (3 * k + i < 5) || chkD (3 * k + i)
theorem chk_0 : chkT 0 = true := by decide +kernel
theorem chk_1 : chkT 1 = true := by decide +kernel
theorem chk_2 : chkT 2 = true := by decide +kernel
theorem chk_3 : chkT 3 = true := by decide +kernel
theorem chk_4 : chkT 4 = true := by decide +kernel
theorem chk_5 : chkT 5 = true := by decide +kernel
theorem chk_6 : chkT 6 = true := by decide +kernel
theorem chk_7 : chkT 7 = true := by decide +kernel
theorem chk_8 : chkT 8 = true := by decide +kernel
theorem chk_9 : chkT 9 = true := by decide +kernel
theorem chk_10 : chkT 10 = true := by decide +kernel
theorem chk_11 : chkT 11 = true := by decide +kernel
theorem chk_12 : chkT 12 = true := by decide +kernel
theorem chk_13 : chkT 13 = true := by decide +kernel
theorem chk_14 : chkT 14 = true := by decide +kernel
theorem chk_15 : chkT 15 = true := by decide +kernel
theorem chk_16 : chkT 16 = true := by decide +kernel
theorem chk_17 : chkT 17 = true := by decide +kernel
theorem chk_18 : chkT 18 = true := by decide +kernel
theorem chk_19 : chkT 19 = true := by decide +kernel
theorem chk_20 : chkT 20 = true := by decide +kernel
theorem chk_21 : chkT 21 = true := by decide +kernel
theorem chk_22 : chkT 22 = true := by decide +kernel
theorem chk_23 : chkT 23 = true := by decide +kernel
theorem chk_24 : chkT 24 = true := by decide +kernel
theorem chk_25 : chkT 25 = true := by decide +kernel
theorem chk_26 : chkT 26 = true := by decide +kernel
theorem chk_27 : chkT 27 = true := by decide +kernel
theorem chk_28 : chkT 28 = true := by decide +kernel
theorem chk_29 : chkT 29 = true := by decide +kernel
theorem chk_30 : chkT 30 = true := by decide +kernel
theorem chk_31 : chkT 31 = true := by decide +kernel
theorem chk_32 : chkT 32 = true := by decide +kernel
theorem chk_33 : chkT 33 = true := by decide +kernel
theorem chk_34 : chkT 34 = true := by decide +kernel
theorem chk_35 : chkT 35 = true := by decide +kernel
theorem chk_36 : chkT 36 = true := by decide +kernel
theorem chk_37 : chkT 37 = true := by decide +kernel
theorem chk_38 : chkT 38 = true := by decide +kernel
theorem chk_39 : chkT 39 = true := by decide +kernel
theorem chk_40 : chkT 40 = true := by decide +kernel
theorem chk_41 : chkT 41 = true := by decide +kernel
theorem chk_42 : chkT 42 = true := by decide +kernel
theorem chk_43 : chkT 43 = true := by decide +kernel
theorem chk_44 : chkT 44 = true := by decide +kernel
theorem chk_45 : chkT 45 = true := by decide +kernel
theorem chk_46 : chkT 46 = true := by decide +kernel
theorem chk_47 : chkT 47 = true := by decide +kernel
theorem chk_48 : chkT 48 = true := by decide +kernel
theorem chk_49 : chkT 49 = true := by decide +kernel
theorem chk_50 : chkT 50 = true := by decide +kernel
theorem chk_51 : chkT 51 = true := by decide +kernel
theorem chk_52 : chkT 52 = true := by decide +kernel
theorem chk_53 : chkT 53 = true := by decide +kernel
theorem chk_54 : chkT 54 = true := by decide +kernel
theorem chk_55 : chkT 55 = true := by decide +kernel
theorem chk_56 : chkT 56 = true := by decide +kernel
theorem chk_57 : chkT 57 = true := by decide +kernel
theorem chk_58 : chkT 58 = true := by decide +kernel
theorem chk_59 : chkT 59 = true := by decide +kernel
theorem chk_60 : chkT 60 = true := by decide +kernel
theorem chk_61 : chkT 61 = true := by decide +kernel
theorem chk_62 : chkT 62 = true := by decide +kernel
theorem chk_63 : chkT 63 = true := by decide +kernel
theorem chk_64 : chkT 64 = true := by decide +kernel
theorem chk_65 : chkT 65 = true := by decide +kernel
theorem chk_66 : chkT 66 = true := by decide +kernel
theorem chk_67 : chkT 67 = true := by decide +kernel
theorem chk_68 : chkT 68 = true := by decide +kernel
theorem chk_69 : chkT 69 = true := by decide +kernel
theorem chk_70 : chkT 70 = true := by decide +kernel
theorem chk_71 : chkT 71 = true := by decide +kernel
theorem chk_72 : chkT 72 = true := by decide +kernel
theorem chk_73 : chkT 73 = true := by decide +kernel
theorem chk_74 : chkT 74 = true := by decide +kernel
theorem chk_75 : chkT 75 = true := by decide +kernel
theorem chk_76 : chkT 76 = true := by decide +kernel
theorem chk_77 : chkT 77 = true := by decide +kernel
theorem chk_78 : chkT 78 = true := by decide +kernel
theorem chk_79 : chkT 79 = true := by decide +kernel
theorem chk_80 : chkT 80 = true := by decide +kernel
theorem chk_81 : chkT 81 = true := by decide +kernel
theorem chk_82 : chkT 82 = true := by decide +kernel
theorem chk_83 : chkT 83 = true := by decide +kernel
theorem chk_84 : chkT 84 = true := by decide +kernel
theorem chk_85 : chkT 85 = true := by decide +kernel
theorem chk_86 : chkT 86 = true := by decide +kernel
theorem chk_87 : chkT 87 = true := by decide +kernel
theorem chk_88 : chkT 88 = true := by decide +kernel
theorem chk_89 : chkT 89 = true := by decide +kernel
theorem chk_90 : chkT 90 = true := by decide +kernel
theorem chk_91 : chkT 91 = true := by decide +kernel
theorem chk_92 : chkT 92 = true := by decide +kernel
theorem chk_93 : chkT 93 = true := by decide +kernel
theorem chk_94 : chkT 94 = true := by decide +kernel
theorem chk_95 : chkT 95 = true := by decide +kernel
theorem chk_96 : chkT 96 = true := by decide +kernel
theorem chk_97 : chkT 97 = true := by decide +kernel
theorem chk_98 : chkT 98 = true := by decide +kernel
theorem chk_99 : chkT 99 = true := by decide +kernel
theorem chk_k : ∀ k, k < 100 → chkT k = true
  | 0, _ => chk_0
  | 1, _ => chk_1
  | 2, _ => chk_2
  | 3, _ => chk_3
  | 4, _ => chk_4
  | 5, _ => chk_5
  | 6, _ => chk_6
  | 7, _ => chk_7
  | 8, _ => chk_8
  | 9, _ => chk_9
  | 10, _ => chk_10
  | 11, _ => chk_11
  | 12, _ => chk_12
  | 13, _ => chk_13
  | 14, _ => chk_14
  | 15, _ => chk_15
  | 16, _ => chk_16
  | 17, _ => chk_17
  | 18, _ => chk_18
  | 19, _ => chk_19
  | 20, _ => chk_20
  | 21, _ => chk_21
  | 22, _ => chk_22
  | 23, _ => chk_23
  | 24, _ => chk_24
  | 25, _ => chk_25
  | 26, _ => chk_26
  | 27, _ => chk_27
  | 28, _ => chk_28
  | 29, _ => chk_29
  | 30, _ => chk_30
  | 31, _ => chk_31
  | 32, _ => chk_32
  | 33, _ => chk_33
  | 34, _ => chk_34
  | 35, _ => chk_35
  | 36, _ => chk_36
  | 37, _ => chk_37
  | 38, _ => chk_38
  | 39, _ => chk_39
  | 40, _ => chk_40
  | 41, _ => chk_41
  | 42, _ => chk_42
  | 43, _ => chk_43
  | 44, _ => chk_44
  | 45, _ => chk_45
  | 46, _ => chk_46
  | 47, _ => chk_47
  | 48, _ => chk_48
  | 49, _ => chk_49
  | 50, _ => chk_50
  | 51, _ => chk_51
  | 52, _ => chk_52
  | 53, _ => chk_53
  | 54, _ => chk_54
  | 55, _ => chk_55
  | 56, _ => chk_56
  | 57, _ => chk_57
  | 58, _ => chk_58
  | 59, _ => chk_59
  | 60, _ => chk_60
  | 61, _ => chk_61
  | 62, _ => chk_62
  | 63, _ => chk_63
  | 64, _ => chk_64
  | 65, _ => chk_65
  | 66, _ => chk_66
  | 67, _ => chk_67
  | 68, _ => chk_68
  | 69, _ => chk_69
  | 70, _ => chk_70
  | 71, _ => chk_71
  | 72, _ => chk_72
  | 73, _ => chk_73
  | 74, _ => chk_74
  | 75, _ => chk_75
  | 76, _ => chk_76
  | 77, _ => chk_77
  | 78, _ => chk_78
  | 79, _ => chk_79
  | 80, _ => chk_80
  | 81, _ => chk_81
  | 82, _ => chk_82
  | 83, _ => chk_83
  | 84, _ => chk_84
  | 85, _ => chk_85
  | 86, _ => chk_86
  | 87, _ => chk_87
  | 88, _ => chk_88
  | 89, _ => chk_89
  | 90, _ => chk_90
  | 91, _ => chk_91
  | 92, _ => chk_92
  | 93, _ => chk_93
  | 94, _ => chk_94
  | 95, _ => chk_95
  | 96, _ => chk_96
  | 97, _ => chk_97
  | 98, _ => chk_98
  | 99, _ => chk_99
  | k + 100, h => absurd h (by omega)
theorem chk_all : (List.range 300).all (fun n => decide (n < 5) || chkD n) = true := by
  refine List.all_eq_true.mpr fun n hn => ?_
  have hn := List.mem_range.mp hn
  have h := List.all_eq_true.mp (chk_k (n / 3) (by omega)) (n % 3) (List.mem_range.mpr (by omega))
  rw [show 3 * (n / 3) + n % 3 = n by omega] at h
  exact h
end K19
/-! K19Txt -/
set_option Elab.async false
set_option linter.all false
set_option maxRecDepth 100000
set_option maxHeartbeats 4000000
namespace K19
open PySem PySem.Spec PyProof.Rows L2
def top (i : Nat) : Stmt := PySem.Challenge.pw_wholeconic_k19_whole_group_of_classes.main.body.getD i (.Pass ⟨0, 0, 0, 0⟩)
abbrev sBezout : Stmt := top 2
abbrev sMeasure : Stmt := top 3
abbrev sFloorRoot : Stmt := top 4
abbrev sIsSquare : Stmt := top 5
abbrev sDiscriminant : Stmt := top 7
abbrev sContent : Stmt := top 8
abbrev sWorth : Stmt := top 9
abbrev sAct : Stmt := top 10
abbrev sKind : Stmt := top 13
abbrev sMultiply : Stmt := top 16
abbrev sDeterminant : Stmt := top 17
abbrev sInverse : Stmt := top 18
abbrev sIsReducedDefinite : Stmt := top 20
abbrev sReducePositive : Stmt := top 22
abbrev sReduceDefinite : Stmt := top 23
abbrev sPositiveClasses : Stmt := top 24
abbrev sIsReducedIndefinite : Stmt := top 26
abbrev sStepOf : Stmt := top 28
abbrev sReduceIndefinite : Stmt := top 29
abbrev sCycle : Stmt := top 30
abbrev sCanonical : Stmt := top 31
abbrev sCanonicalForm : Stmt := top 40
abbrev sIndefiniteClasses : Stmt := top 42
abbrev sClasses : Stmt := top 43
abbrev sPrincipal : Stmt := top 44
abbrev sOpposite : Stmt := top 45
abbrev sCoprimeColumn : Stmt := top 46
abbrev sLeadingChange : Stmt := top 47
abbrev sMiddleOf : Stmt := top 48
abbrev sShifted : Stmt := top 49
abbrev sUnited : Stmt := top 50
abbrev sColumns : Stmt := top 51
abbrev sCompose : Stmt := top 52
abbrev sClassPower : Stmt := top 53
abbrev sClassOrder : Stmt := top 55
abbrev sLawCell : Stmt := top 57
abbrev sLawNumbers : Stmt := top 58
abbrev sLawState : Stmt := top 59
abbrev sLawNext : Stmt := top 60
abbrev sLawRoot : Stmt := top 62
abbrev sLawMul : Stmt := top 63
abbrev sLawWorth : Stmt := top 65
abbrev sLawAct : Stmt := top 66
abbrev sLawChange : Stmt := top 67
abbrev sLawSquare : Stmt := top 68
abbrev sLaw : Stmt := top 73
theorem scBezout : FnScope ["a", "b", "low", "low_u", "low_v", "high", "high_u", "high_v", "part"] ["a", "b"] (defScope sBezout) := ⟨rfl, rfl, rfl, by decide +kernel, rfl, by decide +kernel, by decide +kernel⟩
theorem scMeasure : FnScope ["numbers", "found", "number"] ["numbers"] (defScope sMeasure) := ⟨rfl, rfl, rfl, by decide +kernel, rfl, by decide +kernel, by decide +kernel⟩
theorem scFloorRoot : FnScope ["n"] ["n"] (defScope sFloorRoot) := ⟨rfl, rfl, rfl, by decide +kernel, rfl, by decide +kernel, by decide +kernel⟩
theorem scIsSquare : FnScope ["n"] ["n"] (defScope sIsSquare) := ⟨rfl, rfl, rfl, by decide +kernel, rfl, by decide +kernel, by decide +kernel⟩
theorem scDiscriminant : FnScope ["form"] ["form"] (defScope sDiscriminant) := ⟨rfl, rfl, rfl, by decide +kernel, rfl, by decide +kernel, by decide +kernel⟩
theorem scContent : FnScope ["form"] ["form"] (defScope sContent) := ⟨rfl, rfl, rfl, by decide +kernel, rfl, by decide +kernel, by decide +kernel⟩
theorem scWorth : FnScope ["form", "point", "x", "y"] ["form", "point"] (defScope sWorth) := ⟨rfl, rfl, rfl, by decide +kernel, rfl, by decide +kernel, by decide +kernel⟩
theorem scAct : FnScope ["form", "m", "p", "q", "r", "s", "middle"] ["form", "m"] (defScope sAct) := ⟨rfl, rfl, rfl, by decide +kernel, rfl, by decide +kernel, by decide +kernel⟩
theorem scKind : FnScope ["form", "d"] ["form"] (defScope sKind) := ⟨rfl, rfl, rfl, by decide +kernel, rfl, by decide +kernel, by decide +kernel⟩
theorem scMultiply : FnScope ["m", "n"] ["m", "n"] (defScope sMultiply) := ⟨rfl, rfl, rfl, by decide +kernel, rfl, by decide +kernel, by decide +kernel⟩
theorem scDeterminant : FnScope ["m"] ["m"] (defScope sDeterminant) := ⟨rfl, rfl, rfl, by decide +kernel, rfl, by decide +kernel, by decide +kernel⟩
theorem scInverse : FnScope ["m", "sign"] ["m"] (defScope sInverse) := ⟨rfl, rfl, rfl, by decide +kernel, rfl, by decide +kernel, by decide +kernel⟩
theorem scIsReducedDefinite : FnScope ["form", "a", "b", "c"] ["form"] (defScope sIsReducedDefinite) := ⟨rfl, rfl, rfl, by decide +kernel, rfl, by decide +kernel, by decide +kernel⟩
theorem scReducePositive : FnScope ["form", "m", "a", "b", "c", "step"] ["form"] (defScope sReducePositive) := ⟨rfl, rfl, rfl, by decide +kernel, rfl, by decide +kernel, by decide +kernel⟩
theorem scReduceDefinite : FnScope ["form", "reduced", "m"] ["form"] (defScope sReduceDefinite) := ⟨rfl, rfl, rfl, by decide +kernel, rfl, by decide +kernel, by decide +kernel⟩
theorem scPositiveClasses : FnScope ["d", "found", "a", "b", "form"] ["d"] (defScope sPositiveClasses) := ⟨rfl, rfl, rfl, by decide +kernel, rfl, by decide +kernel, by decide +kernel⟩
theorem scIsReducedIndefinite : FnScope ["form", "a", "b", "_", "root"] ["form"] (defScope sIsReducedIndefinite) := ⟨rfl, rfl, rfl, by decide +kernel, rfl, by decide +kernel, by decide +kernel⟩
theorem scStepOf : FnScope ["form", "_", "b", "c", "root", "top", "middle"] ["form"] (defScope sStepOf) := ⟨rfl, rfl, rfl, by decide +kernel, rfl, by decide +kernel, by decide +kernel⟩
theorem scReduceIndefinite : FnScope ["form", "m", "step"] ["form"] (defScope sReduceIndefinite) := ⟨rfl, rfl, rfl, by decide +kernel, rfl, by decide +kernel, by decide +kernel⟩
theorem scCycle : FnScope ["form", "found", "m", "neighbour", "step"] ["form"] (defScope sCycle) := ⟨rfl, rfl, rfl, by decide +kernel, rfl, by decide +kernel, by decide +kernel⟩
theorem scCanonical : FnScope ["form", "reduced", "m", "least", "step"] ["form"] (defScope sCanonical) := ⟨rfl, rfl, rfl, by decide +kernel, rfl, by decide +kernel, by decide +kernel⟩
theorem scCanonicalForm : FnScope ["form"] ["form"] (defScope sCanonicalForm) := ⟨rfl, rfl, rfl, by decide +kernel, rfl, by decide +kernel, by decide +kernel⟩
theorem scIndefiniteClasses : FnScope ["d", "found", "root", "b", "rest", "a", "form"] ["d"] (defScope sIndefiniteClasses) := ⟨rfl, rfl, rfl, by decide +kernel, rfl, by decide +kernel, by decide +kernel⟩
theorem scClasses : FnScope ["d"] ["d"] (defScope sClasses) := ⟨rfl, rfl, rfl, by decide +kernel, rfl, by decide +kernel, by decide +kernel⟩
theorem scPrincipal : FnScope ["d"] ["d"] (defScope sPrincipal) := ⟨rfl, rfl, rfl, by decide +kernel, rfl, by decide +kernel, by decide +kernel⟩
theorem scOpposite : FnScope ["form"] ["form"] (defScope sOpposite) := ⟨rfl, rfl, rfl, by decide +kernel, rfl, by decide +kernel, by decide +kernel⟩
theorem scCoprimeColumn : FnScope ["form", "number", "total", "x", "y"] ["form", "number"] (defScope sCoprimeColumn) := ⟨rfl, rfl, rfl, by decide +kernel, rfl, by decide +kernel, by decide +kernel⟩
theorem scLeadingChange : FnScope ["form", "point", "_", "u", "v", "m"] ["form", "point"] (defScope sLeadingChange) := ⟨rfl, rfl, rfl, by decide +kernel, rfl, by decide +kernel, by decide +kernel⟩
theorem scMiddleOf : FnScope ["first", "second", "a", "b", "_", "other", "d", "u"] ["first", "second"] (defScope sMiddleOf) := ⟨rfl, rfl, rfl, by decide +kernel, rfl, by decide +kernel, by decide +kernel⟩
theorem scShifted : FnScope ["form", "middle"] ["form", "middle"] (defScope sShifted) := ⟨rfl, rfl, rfl, by decide +kernel, rfl, by decide +kernel, by decide +kernel⟩
theorem scUnited : FnScope ["form", "other", "second", "n", "middle", "m", "step", "found"] ["form", "other"] (defScope sUnited) := ⟨rfl, rfl, rfl, by decide +kernel, rfl, by decide +kernel, by decide +kernel⟩
theorem scColumns : FnScope ["m", "n", "i", "j", "k", "l"] ["m", "n"] (defScope sColumns) := ⟨rfl, rfl, rfl, by decide +kernel, rfl, by decide +kernel, by decide +kernel⟩
theorem scCompose : FnScope ["form", "other", "first", "m", "second", "n", "a", "b", "_", "c", "product", "step", "tops", "x_row", "y_row", "back", "row", "j"] ["form", "other"] (defScope sCompose) := ⟨rfl, rfl, rfl, by decide +kernel, rfl, by decide +kernel, by decide +kernel⟩
theorem scClassPower : FnScope ["form", "many", "found", "_"] ["form", "many"] (defScope sClassPower) := ⟨rfl, rfl, rfl, by decide +kernel, rfl, by decide +kernel, by decide +kernel⟩
theorem scClassOrder : FnScope ["form", "first", "found", "many"] ["form"] (defScope sClassOrder) := ⟨rfl, rfl, rfl, by decide +kernel, rfl, by decide +kernel, by decide +kernel⟩
theorem scLawCell : FnScope ["_law_script", "_law_k"] ["_law_script", "_law_k"] (defScope sLawCell) := ⟨rfl, rfl, rfl, by decide +kernel, rfl, by decide +kernel, by decide +kernel⟩
theorem scLawNumbers : FnScope ["_law_cell_here", "_law_many", "_law_rest", "_law_span", "_law_numbers_here", "_law_k", "_law_mixed"] ["_law_cell_here", "_law_many"] (defScope sLawNumbers) := ⟨rfl, rfl, rfl, by decide +kernel, rfl, by decide +kernel, by decide +kernel⟩
theorem scLawState : FnScope ["_law_script", "_law_numbers_here", "_law_k"] ["_law_script"] (defScope sLawState) := ⟨rfl, rfl, rfl, by decide +kernel, rfl, by decide +kernel, by decide +kernel⟩
theorem scLawNext : FnScope ["_law_state_here", "_law_many", "_law_number"] ["_law_state_here", "_law_many"] (defScope sLawNext) := ⟨rfl, rfl, rfl, by decide +kernel, rfl, by decide +kernel, by decide +kernel⟩
theorem scLawRoot : FnScope ["_law_n", "_law_low", "_law_high", "_law_k", "_law_middle"] ["_law_n"] (defScope sLawRoot) := ⟨rfl, rfl, rfl, by decide +kernel, rfl, by decide +kernel, by decide +kernel⟩
theorem scLawMul : FnScope ["_law_m", "_law_n", "_law_top"] ["_law_m", "_law_n"] (defScope sLawMul) := ⟨rfl, rfl, rfl, by decide +kernel, rfl, by decide +kernel, by decide +kernel⟩
theorem scLawWorth : FnScope ["_law_form_here", "_law_x", "_law_y"] ["_law_form_here", "_law_x", "_law_y"] (defScope sLawWorth) := ⟨rfl, rfl, rfl, by decide +kernel, rfl, by decide +kernel, by decide +kernel⟩
theorem scLawAct : FnScope ["_law_form_here", "_law_m", "_law_first", "_law_last"] ["_law_form_here", "_law_m"] (defScope sLawAct) := ⟨rfl, rfl, rfl, by decide +kernel, rfl, by decide +kernel, by decide +kernel⟩
theorem scLawChange : FnScope ["_law_state_here", "_law_many", "_law_m", "_law_k", "_law_t"] ["_law_state_here", "_law_many"] (defScope sLawChange) := ⟨rfl, rfl, rfl, by decide +kernel, rfl, by decide +kernel, by decide +kernel⟩
theorem scLawSquare : FnScope ["_law_n"] ["_law_n"] (defScope sLawSquare) := ⟨rfl, rfl, rfl, by decide +kernel, rfl, by decide +kernel, by decide +kernel⟩
theorem scLaw : FnScope ["_law_script", "_law_state_here", "_law_d", "_law_menu", "_law_k", "_law_one", "_law_two", "_law_three", "_law_first", "_law_pair", "_law_many", "_law_found", "_law_other", "_law_order", "_law_at_here"] ["_law_script"] (defScope sLaw) := ⟨rfl, rfl, rfl, by decide +kernel, rfl, by decide +kernel, by decide +kernel⟩
/-- a def as the head tells it -/
structure DefF (K : PySem.W.Frag) (mg : Str → Option Value) (x nm : Str) (st : Stmt) (ps : List Str) where
  f : Addr
  fd : FuncData
  F : FunD K nm nm (defArgs st) (defBody st) (defScope st) [] [] f fd
  g : mg x = some (.ref f)
  b : Binds K fd ps []
structure Tx (K : PySem.W.Frag) (mg : Str → Option Value) where
  xBezout : DefF K mg "bezout" "bezout" sBezout ["a", "b"]
  xMeasure : DefF K mg "measure" "measure" sMeasure ["numbers"]
  xFloorRoot : DefF K mg "floor_root" "floor_root" sFloorRoot ["n"]
  xIsSquare : DefF K mg "is_square" "is_square" sIsSquare ["n"]
  xDiscriminant : DefF K mg "discriminant" "discriminant" sDiscriminant ["form"]
  xContent : DefF K mg "content" "content" sContent ["form"]
  xWorth : DefF K mg "worth" "worth" sWorth ["form", "point"]
  xAct : DefF K mg "act" "act" sAct ["form", "m"]
  xKind : DefF K mg "kind" "kind" sKind ["form"]
  xMultiply : DefF K mg "multiply" "multiply" sMultiply ["m", "n"]
  xDeterminant : DefF K mg "determinant" "determinant" sDeterminant ["m"]
  xInverse : DefF K mg "inverse" "inverse" sInverse ["m"]
  xIsReducedDefinite : DefF K mg "is_reduced_definite" "is_reduced" sIsReducedDefinite ["form"]
  xReducePositive : DefF K mg "reduce_positive" "reduce_positive" sReducePositive ["form"]
  xReduceDefinite : DefF K mg "reduce_definite" "reduce_definite" sReduceDefinite ["form"]
  xPositiveClasses : DefF K mg "positive_classes" "positive_classes" sPositiveClasses ["d"]
  xIsReducedIndefinite : DefF K mg "is_reduced_indefinite" "is_reduced" sIsReducedIndefinite ["form"]
  xStepOf : DefF K mg "step_of" "step_of" sStepOf ["form"]
  xReduceIndefinite : DefF K mg "reduce_indefinite" "reduce_indefinite" sReduceIndefinite ["form"]
  xCycle : DefF K mg "cycle" "cycle" sCycle ["form"]
  xCanonical : DefF K mg "canonical" "canonical" sCanonical ["form"]
  xCanonicalForm : DefF K mg "canonical_form" "canonical_form" sCanonicalForm ["form"]
  xIndefiniteClasses : DefF K mg "indefinite_classes" "indefinite_classes" sIndefiniteClasses ["d"]
  xClasses : DefF K mg "classes" "classes" sClasses ["d"]
  xPrincipal : DefF K mg "principal" "principal" sPrincipal ["d"]
  xOpposite : DefF K mg "opposite" "opposite" sOpposite ["form"]
  xCoprimeColumn : DefF K mg "coprime_column" "coprime_column" sCoprimeColumn ["form", "number"]
  xLeadingChange : DefF K mg "leading_change" "leading_change" sLeadingChange ["form", "point"]
  xMiddleOf : DefF K mg "middle_of" "middle_of" sMiddleOf ["first", "second"]
  xShifted : DefF K mg "shifted" "shifted" sShifted ["form", "middle"]
  xUnited : DefF K mg "united" "united" sUnited ["form", "other"]
  xColumns : DefF K mg "columns" "columns" sColumns ["m", "n"]
  xCompose : DefF K mg "compose" "compose" sCompose ["form", "other"]
  xClassPower : DefF K mg "class_power" "class_power" sClassPower ["form", "many"]
  xClassOrder : DefF K mg "class_order" "class_order" sClassOrder ["form"]
  xLawCell : DefF K mg "_law_cell" "_law_cell" sLawCell ["_law_script", "_law_k"]
  xLawNumbers : DefF K mg "_law_numbers" "_law_numbers" sLawNumbers ["_law_cell_here", "_law_many"]
  xLawState : DefF K mg "_law_state" "_law_state" sLawState ["_law_script"]
  xLawNext : DefF K mg "_law_next" "_law_next" sLawNext ["_law_state_here", "_law_many"]
  xLawRoot : DefF K mg "_law_root" "_law_root" sLawRoot ["_law_n"]
  xLawMul : DefF K mg "_law_mul" "_law_mul" sLawMul ["_law_m", "_law_n"]
  xLawWorth : DefF K mg "_law_worth" "_law_worth" sLawWorth ["_law_form_here", "_law_x", "_law_y"]
  xLawAct : DefF K mg "_law_act" "_law_act" sLawAct ["_law_form_here", "_law_m"]
  xLawChange : DefF K mg "_law_change" "_law_change" sLawChange ["_law_state_here", "_law_many"]
  xLawSquare : DefF K mg "_law_square" "_law_square" sLawSquare ["_law_n"]
  xLaw : DefF K mg "law" "law" sLaw ["_law_script"]
  len : mg "len" = none
  abs : mg "abs" = none
  range : mg "range" = none
  set : mg "set" = none
  sorted : mg "sorted" = none
  min : mg "min" = none
  int : mg "int" = none
  tuple : mg "tuple" = none
  isqrt : mg "isqrt" = some (.builtin "math.isqrt")
  unitA : Addr
  unit : mg "UNIT" = some (.ref unitA)
  unitT : ∀ H : Hp, SqT K H unitA [.int 1, .int 0, .int 0, .int 1]
/-- a def's promise over data, by its body -/
theorem fn_data {P : Program} {w : World} {K : PySem.W.Frag} {mg : Str → Option Value} {base : Heap} {x q : Str} {pa : Arguments} {bd : List Stmt} {sc : Scope} {f : Addr} {fd : FuncData} {N ps : List Str} {k n : Nat} {Pre : List PyData → Prop} {Post : List PyData → PyData → Prop}
    (F : FunD K x q pa bd sc [] [] f fd) (S : FnScope N ps sc) (hn : n = ps.length)
    (hb : ∀ (cdv : Value) (A : Around) (outer : List Env) (s : Shared) (H : Hp) (E : XK), Room k (A.deeper (envOfC q sc s.heap.objs.size f cdv)) → ∃ t, PSs (cxOf CX0 P w K mg base N q sc f cdv A outer s H E).nox bd t ∧
      ∀ ds, ds.length = n → Pre ds → DS K t (ds.map some ++ List.replicate (N.length - n) none) fun o => match o with | .rt d => Post ds d | .nx _ => Post ds .none) : FnOk P w K mg base CX0 (k + 1) f fd ps (spR K n Pre Post) :=
  F.ok S (fun vs H Q E h => by rw [spR_len h, hn]) fun cdv A outer s H vs Q E hr h => by
    obtain ⟨t, h1, h2⟩ := hb cdv A outer s H E hr
    exact ⟨t, PSs.nox h1, run_body h h2⟩
end K19
/-! K19W0 -/
set_option Elab.async false
set_option linter.all false
set_option maxRecDepth 100000
set_option maxHeartbeats 4000000
namespace K19
open PySem PySem.Spec PyProof.Rows L2
open Evl (Ex)
/-! ### forms, matrices as data -/
abbrev fmD (f : Fm) : PyData := .tuple [.int f.a, .int f.b, .int f.c]
abbrev mxD (m : Mx) : PyData := .tuple [.int m.p, .int m.q, .int m.r, .int m.s]
abbrev ptD (x y : Int) : PyData := .tuple [.int x, .int y]
def BdF (n : Nat) (f : Fm) : Prop := Bd n f.a ∧ Bd n f.b ∧ Bd n f.c
def BdM (n : Nat) (m : Mx) : Prop := Bd n m.p ∧ Bd n m.q ∧ Bd n m.r ∧ Bd n m.s
theorem BdF.mono {m n : Nat} {f : Fm} (h : BdF m f) (e : m ≤ n) : BdF n f := ⟨h.1.mono e, h.2.1.mono e, h.2.2.mono e⟩
theorem BdM.mono {m n : Nat} {f : Mx} (h : BdM m f) (e : m ≤ n) : BdM n f := ⟨h.1.mono e, h.2.1.mono e, h.2.2.1.mono e, h.2.2.2.mono e⟩
theorem Bd.lit {n : Nat} {i : Int} (h : decide (i.natAbs < 2 ^ n) = true) : Bd n i := (of_decide_eq_true h : i.natAbs < 2 ^ n)
theorem cm_of {a b : Nat} {i j : Int} (ha : Bd a i) (hb : Bd b j) (h : a + b ≤ 900000) : CMulW i j :=
  wide_mul (a := a + 1) (b := b + 1) (ha.mono (Nat.le_succ _)) (hb.mono (Nat.le_succ _)) (Nat.succ_pos _) (Nat.succ_pos _) (by omega)
theorem cd_of {b : Nat} {i j : Int} (h0 : j ≠ 0) (hb : Bd b j) (h : b ≤ 8000) : CDivZ i j :=
  ⟨h0, Nat.lt_of_lt_of_le (PySem.Flt.log2_lt_of (Nat.succ_pos b) (hb.mono (Nat.le_succ b))) (by omega)⟩
section
variable {K : PySem.W.Frag} {env : Env'} {ta te : TE} {t u : TS} {P : Out → Prop} {a b c d : PyData} {r : List PyData}
theorem dv_ix0 (ha : Dv K ta env (.tuple (a :: r))) : Dv K (tOp (rIxT K) ta (tC (.int 0))) env a := dv_ixT (n := 0) ha rfl
theorem dv_ix1 (ha : Dv K ta env (.tuple (a :: b :: r))) : Dv K (tOp (rIxT K) ta (tC (.int 1))) env b := dv_ixT (n := 1) ha rfl
theorem dv_ix2 (ha : Dv K ta env (.tuple (a :: b :: c :: r))) : Dv K (tOp (rIxT K) ta (tC (.int 2))) env c := dv_ixT (n := 2) ha rfl
theorem dv_ix3 (ha : Dv K ta env (.tuple (a :: b :: c :: d :: r))) : Dv K (tOp (rIxT K) ta (tC (.int 3))) env d := dv_ixT (n := 3) ha rfl
theorem de_ix0 {P : PyData → Prop} (ha : DE K ta env fun t => ∃ a r, t = .tuple (a :: r) ∧ P a) : DE K (tOp (rIxT K) ta (tC (.int 0))) env P := de_ixT (n := 0) (DE.imp ha fun t ⟨a, r, e, p⟩ => ⟨a :: r, a, e, rfl, p⟩)
theorem ds_set' {i : Nat} {d : PyData} (h : Dv K te env d) (k : DS K u (env.set i (some d)) P) : DS K (tSeq (tAsg te (gName i)) u) env P := ds_seq (ds_set (Dv.to h k))
theorem ds_setE {i : Nat} (h : DE K te env fun d => DS K u (env.set i (some d)) P) : DS K (tSeq (tAsg te (gName i)) u) env P := ds_seq (ds_set h)
theorem ds_ret' {d : PyData} (h : Dv K te env d) (p : P (.rt d)) : DS K (tRet te) env P := ds_ret (Dv.to h p)
theorem ds_if1 {tt : TT} {b : Bool} (h : DT K tt env b) (h1 : b = true → DS K t env (thenD K u P)) (h2 : b = false → DS K u env P) : DS K (tSeq (tIfS tt t tNext) u) env P := ds_seq (ds_if h h1 fun e => ds_nil (h2 e))
theorem ds_if2 {tt : TT} {t2 : TS} {b : Bool} (h : DT K tt env b) (h1 : b = true → DS K t env (thenD K u P)) (h2 : b = false → DS K t2 env (thenD K u P)) : DS K (tSeq (tIfS tt t t2) u) env P := ds_seq (ds_if h h1 h2)
theorem ds_u2 {i j : Nat} (h : DE K te env fun z => ∃ a b, z = .tuple [a, b] ∧ DS K u ((env.set i (some a)).set j (some b)) P) : DS K (tSeq (tAsg te (gTup K 2 (gCons (gName i) (gCons (gName j) gNil)))) u) env P :=
  ds_seq (ds_unp (is := [i, j]) (DE.imp h fun z ⟨a, b, e, p⟩ => ⟨[a, b], e, rfl, rfl, p⟩))
theorem ds_u3 {i j l : Nat} (h : DE K te env fun z => ∃ a b c, z = .tuple [a, b, c] ∧ DS K u (((env.set i (some a)).set j (some b)).set l (some c)) P) : DS K (tSeq (tAsg te (gTup K 3 (gCons (gName i) (gCons (gName j) (gCons (gName l) gNil))))) u) env P :=
  ds_seq (ds_unp (is := [i, j, l]) (DE.imp h fun z ⟨a, b, c, e, p⟩ => ⟨[a, b, c], e, rfl, rfl, p⟩))
theorem ds_u4 {i j l m : Nat} (h : DE K te env fun z => ∃ a b c d, z = .tuple [a, b, c, d] ∧ DS K u ((((env.set i (some a)).set j (some b)).set l (some c)).set m (some d)) P) : DS K (tSeq (tAsg te (gTup K 4 (gCons (gName i) (gCons (gName j) (gCons (gName l) (gCons (gName m) gNil)))))) u) env P :=
  ds_seq (ds_unp (is := [i, j, l, m]) (DE.imp h fun z ⟨a, b, c, d, e, p⟩ => ⟨[a, b, c, d], e, rfl, rfl, p⟩))
theorem ds_p2 {i j : Nat} {ta tb : TE} (ha : Dv K ta env a) (hb : Dv K tb env b) (k : DS K u ((env.set i (some a)).set j (some b)) P) : DS K (tSeq (tPar i j (tCons ta (tCons tb tNil))) u) env P :=
  ds_seq (ds_par (da_v ha (da_v hb (da_nil ⟨a, b, rfl, k⟩))))
theorem ds_p3 {i j l : Nat} {ta tb tc : TE} (ha : Dv K ta env a) (hb : Dv K tb env b) (hc : Dv K tc env c) (k : DS K u (((env.set i (some a)).set j (some b)).set l (some c)) P) : DS K (tSeq (tPar3 i j l (tCons ta (tCons tb (tCons tc tNil)))) u) env P :=
  ds_seq (ds_par3 (da_v ha (da_v hb (da_v hc (da_nil ⟨a, b, c, rfl, k⟩)))))
theorem ds_then {e : Env'} (h : DS K u e P) : thenD K u P (.nx e) := h
theorem ds_p2e {i j : Nat} {ta tb : TE} (ha : Dv K ta env a) (hb : Dv K tb env b) (k : P (.nx ((env.set i (some a)).set j (some b)))) : DS K (tPar i j (tCons ta (tCons tb tNil))) env P :=
  ds_par (da_v ha (da_v hb (da_nil ⟨a, b, rfl, k⟩)))
theorem ds_sete {i : Nat} {d : PyData} (h : Dv K te env d) (k : P (.nx (env.set i (some d)))) : DS K (tAsg te (gName i)) env P := ds_set (Dv.to h k)
/-- a promise over what the arguments stand for -/
def spA (K : PySem.W.Frag) {α : Type} (n : Nat) (enc : α → List PyData) (pre : α → Prop) (post : α → PyData → Prop) : Sp := fun vs H Q _ =>
  ∃ a, (enc a).length = n ∧ DpAll K H vs (enc a) ∧ pre a ∧ ∀ d v H', post a d → Ex H H' → Dp K H' v d → Q v H'
theorem de_callA {α : Type} {n : Nat} {enc : α → List PyData} {pre : α → Prop} {post : α → PyData → Prop} {E : XK} {tr : TA} {P : PyData → Prop} (x : α) (hl : (enc x).length = n) (hp : pre x) (ha : DA K tr env fun z => z = enc x) (h : ∀ z, post x z → P z) : DE K (tCall (spA K n enc pre post) [] E tr) env P := fun σ H r Q q =>
  ha σ H r _ fun ds vs H1 e1 x1 D1 => ⟨x, hl, by rw [List.append_nil, ← e1]; exact D1, hp, fun d v H' p y D => q d v H' (h d p) (x1.trans y) D⟩
theorem dv_callA {α : Type} {n : Nat} {enc : α → List PyData} {pre : α → Prop} {post : α → PyData → Prop} {E : XK} {tr : TA} {d : PyData} (x : α) (hl : (enc x).length = n) (hp : pre x) (ha : DA K tr env fun z => z = enc x) (h : ∀ z, post x z → z = d) : Dv K (tCall (spA K n enc pre post) [] E tr) env d := de_callA x hl hp ha h
theorem das1 {ta : TE} (ha : Dv K ta env a) : DA K (tCons ta tNil) env fun z => z = [a] := das_cons ha das_nil
theorem das2 {ta tb : TE} (ha : Dv K ta env a) (hb : Dv K tb env b) : DA K (tCons ta (tCons tb tNil)) env fun z => z = [a, b] := das_cons ha (das1 hb)
theorem das3 {ta tb tc : TE} (ha : Dv K ta env a) (hb : Dv K tb env b) (hc : Dv K tc env c) : DA K (tCons ta (tCons tb (tCons tc tNil))) env fun z => z = [a, b, c] := das_cons ha (das2 hb hc)
theorem das4 {ta tb tc td : TE} (ha : Dv K ta env a) (hb : Dv K tb env b) (hc : Dv K tc env c) (hd : Dv K td env d) : DA K (tCons ta (tCons tb (tCons tc (tCons td tNil)))) env fun z => z = [a, b, c, d] := das_cons ha (das3 hb hc hd)
theorem dv_t2 {ta tb : TE} (ha : Dv K ta env a) (hb : Dv K tb env b) : Dv K (tTup (tCons ta (tCons tb tNil))) env (.tuple [a, b]) := dv_tup (das2 ha hb) (by show 2 ≤ 1000; decide)
theorem dv_t3 {ta tb tc : TE} (ha : Dv K ta env a) (hb : Dv K tb env b) (hc : Dv K tc env c) : Dv K (tTup (tCons ta (tCons tb (tCons tc tNil)))) env (.tuple [a, b, c]) := dv_tup (das3 ha hb hc) (by show 3 ≤ 1000; decide)
theorem dv_t4 {ta tb tc td : TE} (ha : Dv K ta env a) (hb : Dv K tb env b) (hc : Dv K tc env c) (hd : Dv K td env d) : Dv K (tTup (tCons ta (tCons tb (tCons tc (tCons td tNil))))) env (.tuple [a, b, c, d]) := dv_tup (das4 ha hb hc hd) (by show 4 ≤ 1000; decide)
end
def slotI (i : Nat) (e : Env') : Int := match e[i]? with
  | some (some (PyData.int n)) => n
  | _ => 0
theorem fn_dataA {P : Program} {w : World} {K : PySem.W.Frag} {mg : Str → Option Value} {base : Heap} {x q : Str} {pa : Arguments} {bd : List Stmt} {sc : Scope} {f : Addr} {fd : FuncData} {N ps : List Str} {α : Type} {k n : Nat} {enc : α → List PyData} {pre : α → Prop} {post : α → PyData → Prop}
    (F : FunD K x q pa bd sc [] [] f fd) (S : FnScope N ps sc) (hn : n = ps.length)
    (hb : ∀ (cdv : Value) (A : Around) (outer : List Env) (s : Shared) (H : Hp) (E : XK), Room k (A.deeper (envOfC q sc s.heap.objs.size f cdv)) → ∃ t, PSs (cxOf CX0 P w K mg base N q sc f cdv A outer s H E).nox bd t ∧
      ∀ x, pre x → DS K t ((enc x).map some ++ List.replicate (N.length - n) none) fun o => match o with | .rt d => post x d | .nx _ => post x .none) : FnOk P w K mg base CX0 (k + 1) f fd ps (spA K n enc pre post) :=
  F.ok S (fun vs H Q E h => by
    obtain ⟨a, hl, hd, _⟩ := h
    rw [hd.length, hl, hn]) fun cdv A outer s H vs Q E hr h => by
    obtain ⟨t, h1, h2⟩ := hb cdv A outer s H E hr
    refine ⟨t, PSs.nox h1, ?_⟩
    obtain ⟨a, hl, hd, hp, q⟩ := h
    refine h2 a hp _ H _ ?_ (fun e σ' H' p x r => q _ _ _ p x .non) fun d v H' p x D => q d v H' p x D
    unfold L2.start
    rw [hd.length, hl]
    exact RS.args (RS.none _) hd
/-! ### the promises of the small defs -/
abbrev spBezout (K : PySem.W.Frag) : Sp := spA K 2 (fun p : Int × Int => [.int p.1, .int p.2]) (fun p => Bd 600 p.1 ∧ Bd 600 p.2) fun p z => ∃ g u v, z = .tuple [.int g, .int u, .int v] ∧ BzOk p.1 p.2 g u v
abbrev spMeasure (K : PySem.W.Frag) : Sp := spA K 1 (fun ns : List Int => [intsD ns]) (fun ns => ns.length ≤ 10 ∧ ∀ n ∈ ns, Bd 600 n) fun ns z => z = .int ((gcdL ns 0 : Nat) : Int)
def rt (n : Int) : Int := ((Float64.isqrt n.toNat : Nat) : Int)
theorem rt_all : (List.range 400).all (fun n => decide (Float64.isqrt n ≤ 20 ∧ Float64.isqrt n * Float64.isqrt n ≤ n ∧ n < (Float64.isqrt n + 1) * (Float64.isqrt n + 1))) = true := by decide +kernel
theorem rt_ok {n : Int} (h0 : 0 ≤ n) (h : n < 400) : 0 ≤ rt n ∧ rt n ≤ 20 ∧ rt n * rt n ≤ n ∧ n < (rt n + 1) * (rt n + 1) := by
  have h1 := of_decide_eq_true (List.all_eq_true.mp rt_all n.toNat (List.mem_range.mpr (by omega)))
  have e : n = ((n.toNat : Nat) : Int) := by omega
  unfold rt
  generalize Float64.isqrt n.toNat = k at *
  obtain ⟨a, b, c⟩ := h1
  refine ⟨by omega, by omega, ?_, ?_⟩
  · rw [e]; exact_mod_cast b
  · rw [e]; exact_mod_cast c
abbrev spFloorRoot (K : PySem.W.Frag) : Sp := spA K 1 (fun n : Int => [.int n]) (fun n => 0 ≤ n ∧ n < 2 ^ 64) fun n z => z = .int (rt n)
def sqB (n : Int) : Bool := decide (0 ≤ n) && decide (rt n * rt n = n)
abbrev spIsSquare (K : PySem.W.Frag) : Sp := spA K 1 (fun n : Int => [.int n]) (fun n => n < 400) fun n z => z = .bool (sqB n)
abbrev spDiscriminant (K : PySem.W.Frag) : Sp := spA K 1 (fun f : Fm => [fmD f]) (fun f => BdF 600 f) fun f z => z = .int (disc f)
abbrev spContent (K : PySem.W.Frag) : Sp := spA K 1 (fun f : Fm => [fmD f]) (fun f => BdF 600 f) fun f z => z = .int ((gcdL [f.a, f.b, f.c] 0 : Nat) : Int)
abbrev spWorth (K : PySem.W.Frag) : Sp := spA K 2 (fun p : Fm × Int × Int => [fmD p.1, ptD p.2.1 p.2.2]) (fun p => BdF 600 p.1 ∧ Bd 200000 p.2.1 ∧ Bd 200000 p.2.2) fun p z => z = .int (val p.1 p.2.1 p.2.2)
abbrev spAct (K : PySem.W.Frag) : Sp := spA K 2 (fun p : Fm × Mx => [fmD p.1, mxD p.2]) (fun p => BdF 600 p.1 ∧ BdM 200000 p.2) fun p z => z = fmD (act p.1 p.2)
abbrev spKind (K : PySem.W.Frag) : Sp := spA K 1 (fun f : Fm => [fmD f]) (fun f => BdF 600 f ∧ disc f < 400 ∧ disc f ≠ 0 ∧ sqB (disc f) = false) fun f z => z = .str (if disc f < 0 then "definite" else "indefinite")
abbrev spMultiply (K : PySem.W.Frag) : Sp := spA K 2 (fun p : Mx × Mx => [mxD p.1, mxD p.2]) (fun p => BdM 200000 p.1 ∧ BdM 200000 p.2) fun p z => z = mxD (mul p.1 p.2)
abbrev spDeterminant (K : PySem.W.Frag) : Sp := spA K 1 (fun m : Mx => [mxD m]) (fun m => BdM 200000 m) fun m z => z = .int (det m)
def inv' (m : Mx) : Mx := ⟨det m * m.s, -(det m) * m.q, -(det m) * m.r, det m * m.p⟩
abbrev spInverse (K : PySem.W.Frag) : Sp := spA K 1 (fun m : Mx => [mxD m]) (fun m => BdM 200000 m) fun m z => z = mxD (inv' m)
end K19
/-! K19W1 -/
set_option Elab.async false
set_option linter.all false
set_option maxRecDepth 100000
set_option maxHeartbeats 4000000
namespace K19
open PySem PySem.Spec PyProof.Rows L2
open Evl (Ex)
local macro_rules | `(tactic| walk_at "bd") => `(tactic| first | assumption | exact Bd.lit (n := 4) rfl | exact Bd.lit (n := 32) rfl | (apply Bd.mul <;> walk_at "bd") | (apply Bd.add <;> walk_at "bd") | (apply Bd.sub <;> walk_at "bd") | (apply Bd.neg; walk_at "bd") | (apply Bd.fdiv; walk_at "bd"))
local macro_rules | `(tactic| walk_at "cm") => `(tactic| (apply cm_of; walk_at "bd"; walk_at "bd"; first | decide | omega))
local macro_rules | `(tactic| walk_at "dv") => `(tactic| first | exact dv_var rfl | exact dv_int | exact dv_str | exact dv_bl | assumption | (apply dv_ix0; walk_at "dv") | (apply dv_ix1; walk_at "dv") | (apply dv_ix2; walk_at "dv") | (apply dv_ix3; walk_at "dv") | (apply dv_add <;> walk_at "dv") | (apply dv_sub <;> walk_at "dv") | (apply dv_mul; walk_at "dv"; walk_at "dv"; walk_at "cm") | (apply dv_neg; walk_at "dv") | (apply dv_lt <;> walk_at "dv") | (apply dv_le <;> walk_at "dv") | (apply dv_gt <;> walk_at "dv") | (apply dv_ge <;> walk_at "dv") | (apply dv_eqI <;> walk_at "dv") | (apply dv_neI <;> walk_at "dv") | (apply dv_t2 <;> walk_at "dv") | (apply dv_t3 <;> walk_at "dv") | (apply dv_t4 <;> walk_at "dv") | (apply dv_abs; walk_at "dv") | (apply dv_intI; walk_at "dv"))
local macro_rules | `(tactic| walk_at "p2") => `(tactic| (apply ds_p2; walk_at "dv"; walk_at "dv"))
local macro_rules | `(tactic| walk_at "p2e") => `(tactic| (apply ds_p2e; walk_at "dv"; walk_at "dv"))
local macro_rules | `(tactic| walk_at "p3") => `(tactic| (apply ds_p3; walk_at "dv"; walk_at "dv"; walk_at "dv"))
local macro_rules | `(tactic| walk_at "set") => `(tactic| (apply ds_set'; walk_at "dv"))
local macro_rules | `(tactic| walk_at "sete") => `(tactic| (apply ds_sete; walk_at "dv"))
local macro_rules | `(tactic| walk_at "ret") => `(tactic| (apply ds_ret'; walk_at "dv"))
section
variable {P : Program} {w : World} {K : PySem.W.Frag} {mg : Str → Option Value} {base : Heap}

theorem okBezout (T : Tx K mg) : FnOk P w K mg base CX0 1 T.xBezout.f T.xBezout.fd ["a", "b"] (spBezout K) := by
  refine fn_dataA T.xBezout.F scBezout rfl fun cdv A outer s H E hr => ⟨_, (pss_cons (ps_par3 (i := 2) (j := 3) (l := 4) rfl scBezout.nd rfl rfl rfl (by decide) (by decide) (by decide) rfl rfl rfl (pa_cons (pv 0) (pa_cons pe_int (pa_cons pe_int pa_nil))) (by rfl)) (pss_cons (ps_par3 (i := 5) (j := 6) (l := 7) rfl scBezout.nd rfl rfl rfl (by decide) (by decide) (by decide) rfl rfl rfl (pa_cons (pv 1) (pa_cons pe_int (pa_cons pe_int pa_nil))) (by rfl)) (pss_cons (ps_while PassesOwn.never (pt_cmpR op_ne (pv 5) pe_int (nomark _)) (pss_cons (ps_set (i := 8) scBezout.nd rfl (Or.inl rfl) (pe_op op_fdivZ (pv 2) (pv 5))) (pss_cons (ps_par (i := 2) (j := 5) rfl scBezout.nd rfl rfl (by decide) rfl rfl (pa_cons (pv 5) (pa_cons (pe_op op_sub (pv 2) (pe_op op_mulW (pv 8) (pv 5))) pa_nil)) (by rfl)) (pss_cons (ps_par (i := 3) (j := 6) rfl scBezout.nd rfl rfl (by decide) rfl rfl (pa_cons (pv 6) (pa_cons (pe_op op_sub (pv 3) (pe_op op_mulW (pv 8) (pv 6))) pa_nil)) (by rfl)) (pss_one (ps_par (i := 4) (j := 7) rfl scBezout.nd rfl rfl (by decide) rfl rfl (pa_cons (pv 7) (pa_cons (pe_op op_sub (pv 4) (pe_op op_mulW (pv 8) (pv 7))) pa_nil)) (by rfl))))))) (pss_cons (ps_if (pt_cmpR op_lt (pv 2) pe_int (nomark _)) (pss_one (ps_ret (pe_tup (pa_cons (pe_un un_neg (pv 2)) (pa_cons (pe_un un_neg (pv 3)) (pa_cons (pe_un un_neg (pv 4)) pa_nil)))))) pss_nil) (pss_one (ps_ret (pe_tup (pa_cons (pv 2) (pa_cons (pv 3) (pa_cons (pv 4) pa_nil)))))))))), fun p hp => ?_⟩
  obtain ⟨a, b⟩ := p
  obtain ⟨ha, hb⟩ := hp
  walk_at "p3"
  walk_at "p3"
  refine ds_seq (ds_while (fun e => ∃ lo lu lv hi hu hv z, e = [some (.int a), some (.int b), some (.int lo), some (.int lu), some (.int lv), some (.int hi), some (.int hu), some (.int hv), z] ∧ BZ a b lo lu lv hi hu hv)
    (fun e => (slotI 5 e).natAbs) ⟨a, 1, 0, b, 0, 1, none, rfl, BZ.start a b⟩ ?_)
  rintro e ⟨lo, lu, lv, hi, hu, hv, z, rfl, J⟩
  refine ⟨_, dt_test (dv_neI (dv_var rfl) dv_int), fun h => ?_, fun h => ?_⟩
  · have h0 : hi ≠ 0 := by simpa using h
    have bhi : Bd 600 hi := hb.of_le J.bh
    have blo : Bd 610 lo := by
      have h1 := J.bl
      have h2 := pow_two_add 600 600
      have h3 : (2 : Nat) ^ (600 + 600 + 1) = 2 ^ 1201 := rfl
      have h4 : (2 : Nat) ^ 600 + 2 ^ 600 ≤ 2 ^ 610 := by decide +kernel
      unfold Bd at *
      omega
    have bq : Bd 610 (lo.fdiv hi) := blo.fdiv
    have bhu : Bd 610 hu := by
      have h1 := J.cu
      have h4 : (2 : Nat) ^ 600 + 1 ≤ 2 ^ 610 := by decide +kernel
      unfold Bd at *
      omega
    have bhv : Bd 610 hv := by
      have h1 := J.cv
      have h4 : 3 * (2 : Nat) ^ 600 + 1 ≤ 2 ^ 610 := by decide +kernel
      unfold Bd at *
      omega
    refine ds_set' (dv_div (dv_var rfl) (dv_var rfl) (cd_of h0 bhi (by decide))) ?_
    walk_at "p2"
    walk_at "p2"
    walk_at "p2e"
    refine ⟨⟨_, _, _, _, _, _, _, rfl, J.step h0⟩, ?_⟩
    show (lo - lo.fdiv hi * hi).natAbs < hi.natAbs
    have := fdm lo hi
    rw [show lo - lo.fdiv hi * hi = lo.fmod hi by omega]
    exact fmod_abs h0
  · have h0 : hi = 0 := by simpa using h
    have D := J.done h0
    refine ds_then ?_
    refine ds_if1 (dt_test (dv_lt (dv_var rfl) dv_int)) (fun h => ?_) fun h => ?_
    · have hl : lo < 0 := of_decide_eq_true h
      rw [if_pos hl] at D
      walk_at "ret"
      exact ⟨_, _, _, rfl, D⟩
    · have hl : ¬ lo < 0 := of_decide_eq_false h
      rw [if_neg hl] at D
      walk_at "ret"
      exact ⟨_, _, _, rfl, D⟩
end
end K19
/-! K19W2 -/
set_option Elab.async false
set_option linter.all false
set_option maxRecDepth 100000
set_option maxHeartbeats 4000000
namespace K19
open PySem PySem.Spec PyProof.Rows L2
open Evl (Ex)
local macro_rules | `(tactic| walk_at "bd") => `(tactic| first | assumption | exact Bd.lit (n := 4) rfl | exact Bd.lit (n := 32) rfl | (apply Bd.mul <;> walk_at "bd") | (apply Bd.add <;> walk_at "bd") | (apply Bd.sub <;> walk_at "bd") | (apply Bd.neg; walk_at "bd") | (apply Bd.fdiv; walk_at "bd"))
local macro_rules | `(tactic| walk_at "cm") => `(tactic| (apply cm_of; walk_at "bd"; walk_at "bd"; first | decide | omega))
local macro_rules | `(tactic| walk_at "dv") => `(tactic| first | exact dv_var rfl | exact dv_int | exact dv_str | exact dv_bl | assumption | (apply dv_ix0; walk_at "dv") | (apply dv_ix1; walk_at "dv") | (apply dv_ix2; walk_at "dv") | (apply dv_ix3; walk_at "dv") | (apply dv_add <;> walk_at "dv") | (apply dv_sub <;> walk_at "dv") | (apply dv_mul; walk_at "dv"; walk_at "dv"; walk_at "cm") | (apply dv_neg; walk_at "dv") | (apply dv_lt <;> walk_at "dv") | (apply dv_le <;> walk_at "dv") | (apply dv_gt <;> walk_at "dv") | (apply dv_ge <;> walk_at "dv") | (apply dv_eqI <;> walk_at "dv") | (apply dv_neI <;> walk_at "dv") | (apply dv_t2 <;> walk_at "dv") | (apply dv_t3 <;> walk_at "dv") | (apply dv_t4 <;> walk_at "dv") | (apply dv_abs; walk_at "dv") | (apply dv_intI; walk_at "dv"))
local macro_rules | `(tactic| walk_at "p2") => `(tactic| (apply ds_p2; walk_at "dv"; walk_at "dv"))
local macro_rules | `(tactic| walk_at "p2e") => `(tactic| (apply ds_p2e; walk_at "dv"; walk_at "dv"))
local macro_rules | `(tactic| walk_at "p3") => `(tactic| (apply ds_p3; walk_at "dv"; walk_at "dv"; walk_at "dv"))
local macro_rules | `(tactic| walk_at "set") => `(tactic| (apply ds_set'; walk_at "dv"))
local macro_rules | `(tactic| walk_at "sete") => `(tactic| (apply ds_sete; walk_at "dv"))
local macro_rules | `(tactic| walk_at "ret") => `(tactic| (apply ds_ret'; walk_at "dv"))
section
variable {P : Program} {w : World} {K : PySem.W.Frag} {mg : Str → Option Value} {base : Heap}

theorem gcdL_app : ∀ (ns : List Int) (n : Int) (g : Nat), gcdL (ns ++ [n]) g = Int.gcd ((gcdL ns g : Nat) : Int) n
  | [], _, _ => rfl
  | m :: ns, n, g => gcdL_app ns n (Int.gcd g m)
theorem gcd_bd {n : Nat} {x y : Int} (hx : Bd n x) (hy : Bd n y) : Bd n ((Int.gcd x y : Nat) : Int) := by
  by_cases h : x = 0
  · subst h
    rw [Int.gcd_zero_left]
    exact hy.of_le (by omega)
  · refine hx.of_le ?_
    have := Int.gcd_le_natAbs_left y h
    omega
theorem okMeasure (T : Tx K mg) : FnOk P w K mg base CX0 2 T.xMeasure.f T.xMeasure.fd ["numbers"] (spMeasure K) := by
  have GBezout : FnOk P w K mg base CX0 1 T.xBezout.f T.xBezout.fd ["a", "b"] (spBezout K) := okBezout T
  refine fn_dataA T.xMeasure.F scMeasure rfl fun cdv A outer s H E hr => ⟨_, (pss_cons (ps_set (i := 1) scMeasure.nd rfl (Or.inl rfl) pe_int) (pss_cons (ps_for PassesOwn.never rfl (pi_tup (pv 0)) (pg_name (i := 2) scMeasure.nd rfl (Or.inl rfl)) (pss_one (ps_set (i := 1) scMeasure.nd rfl (Or.inl rfl) (pe_ix ix_tup (pe_call GBezout (hr.mono (by decide)) (by rfl) T.xBezout.g T.xBezout.F.kp T.xBezout.b .nil pass0 (pa_cons (pv 1) (pa_cons (pv 2) pa_nil))) pe_int (fun _ _ => rfl))))) (pss_one (ps_ret (pv 1))))), fun ns hp => ?_⟩
  obtain ⟨hl, hb⟩ := hp
  walk_at "set"
  have bdk : ∀ k, Bd 600 ((gcdL (ns.take k) 0 : Nat) : Int) := by
    intro k
    induction k with
    | zero => exact (show (0 : Nat) < 2 ^ 600 from Nat.pow_pos (by decide))
    | succ k ih =>
      by_cases hk : k < ns.length
      · rw [List.take_add_one, List.getElem?_eq_getElem hk]
        show Bd 600 ((gcdL (ns.take k ++ [ns[k]]) 0 : Nat) : Int)
        rw [gcdL_app]
        exact gcd_bd ih (hb _ (List.getElem_mem hk))
      · rw [List.take_of_length_le (by omega)]
        rw [List.take_of_length_le (by omega)] at ih
        exact ih
  refine ds_seq (ds_fort (ds := ns.map PyData.int) (fun k e => ∃ z, e = [some (intsD ns), some (.int ((gcdL (ns.take k) 0 : Nat) : Int)), z]) (dv_var rfl) ⟨none, rfl⟩ ?_ ?_)
  · rintro k d e hd ⟨z, rfl⟩
    rw [List.getElem?_map] at hd
    obtain ⟨x, hx, rfl⟩ := Option.map_eq_some_iff.mp hd
    have hk : k < ns.length := (List.getElem?_eq_some_iff.mp hx).1
    refine ds_set (de_ix0 (de_callA (((gcdL (ns.take k) 0 : Nat) : Int), x) rfl ⟨bdk k, hb _ (List.mem_of_getElem? hx)⟩ (das2 (dv_var rfl) (dv_var rfl)) ?_))
    rintro z2 ⟨g, u, v, rfl, h2⟩
    refine ⟨.int g, _, rfl, ⟨some (.int x), ?_⟩⟩
    have eg : g = ((gcdL (ns.take (k + 1)) 0 : Nat) : Int) := by
      rw [List.take_add_one, hx]
      show g = ((gcdL (ns.take k ++ [x]) 0 : Nat) : Int)
      rw [gcdL_app]
      exact h2.1
    rw [eg]
    rfl
  · rintro e ⟨z, rfl⟩
    refine ds_then ?_
    rw [List.length_map, List.take_of_length_le (Nat.le_refl _)]
    walk_at "ret"
    rfl
theorem okFloorRoot (T : Tx K mg) : FnOk P w K mg base CX0 1 T.xFloorRoot.f T.xFloorRoot.fd ["n"] (spFloorRoot K) := by
  refine fn_dataA T.xFloorRoot.F scFloorRoot rfl fun cdv A outer s H E hr => ⟨_, (pss_one (ps_ret (pe_callBfun cr_isqrt (by rfl) T.isqrt (pa_cons (pv 0) pa_nil)))), fun p hp => ?_⟩
  exact ds_ret' (dv_isqrt (dv_var rfl) hp.1 hp.2) rfl
theorem okIsSquare (T : Tx K mg) : FnOk P w K mg base CX0 1 T.xIsSquare.f T.xIsSquare.fd ["n"] (spIsSquare K) := by
  refine fn_dataA T.xIsSquare.F scIsSquare rfl fun cdv A outer s H E hr => ⟨_, (pss_one (ps_ret (pe_and (pe_cmpR op_ge (pv 0) pe_int (nomark _)) (pe_one (pe_cmpR op_eq (pe_op op_mulW (pe_callBfun cr_isqrt (by rfl) T.isqrt (pa_cons (pv 0) pa_nil)) (pe_callBfun cr_isqrt (by rfl) T.isqrt (pa_cons (pv 0) pa_nil))) (pv 0) (nomark _)))))), fun n hp => ?_⟩
  have h1 : n < 400 := hp
  refine ds_ret' (dv_and (dv_ge (dv_var rfl) dv_int) fun h => ?_) rfl
  have h0 : 0 ≤ n := of_decide_eq_true h
  obtain ⟨r1, r2, _, _⟩ := rt_ok h0 h1
  have b : Bd 10 (rt n) := by
    unfold Bd
    have : (2 : Nat) ^ 10 = 1024 := rfl
    omega
  exact dv_eqI (dv_mul (dv_isqrt (dv_var rfl) h0 (by omega)) (dv_isqrt (dv_var rfl) h0 (by omega)) (cm_of b b (by decide))) (dv_var rfl)
theorem okDiscriminant (T : Tx K mg) : FnOk P w K mg base CX0 1 T.xDiscriminant.f T.xDiscriminant.fd ["form"] (spDiscriminant K) := by
  refine fn_dataA T.xDiscriminant.F scDiscriminant rfl fun cdv A outer s H E hr => ⟨_, (pss_one (ps_ret (pe_op op_sub (pe_op op_mulW (pe_ix ix_tup (pv 0) pe_int (fun _ _ => rfl)) (pe_ix ix_tup (pv 0) pe_int (fun _ _ => rfl))) (pe_op op_mulW (pe_op op_mulW pe_int (pe_ix ix_tup (pv 0) pe_int (fun _ _ => rfl))) (pe_ix ix_tup (pv 0) pe_int (fun _ _ => rfl)))))), fun p hp => ?_⟩
  obtain ⟨b1, b2, b3⟩ := hp
  walk_at "ret"
  rfl
theorem okContent (T : Tx K mg) : FnOk P w K mg base CX0 3 T.xContent.f T.xContent.fd ["form"] (spContent K) := by
  have GMeasure : FnOk P w K mg base CX0 2 T.xMeasure.f T.xMeasure.fd ["numbers"] (spMeasure K) := okMeasure T
  refine fn_dataA T.xContent.F scContent rfl fun cdv A outer s H E hr => ⟨_, (pss_one (ps_ret (pe_call GMeasure (hr.mono (by decide)) (by rfl) T.xMeasure.g T.xMeasure.F.kp T.xMeasure.b .nil pass0 (pa_cons (pv 0) pa_nil)))), fun f hp => ?_⟩
  obtain ⟨b1, b2, b3⟩ := hp
  refine ds_ret' (dv_callA [f.a, f.b, f.c] rfl ⟨by simp, fun n hn => ?_⟩ (das1 (dv_var rfl)) fun z h => h) rfl
  simp only [List.mem_cons, List.not_mem_nil, or_false] at hn
  rcases hn with rfl | rfl | rfl <;> assumption
theorem okWorth (T : Tx K mg) : FnOk P w K mg base CX0 1 T.xWorth.f T.xWorth.fd ["form", "point"] (spWorth K) := by
  refine fn_dataA T.xWorth.F scWorth rfl fun cdv A outer s H E hr => ⟨_, (pss_cons (ps_asg (pv 1) (pg_tup rfl (pgs_cons (pg_name (i := 2) scWorth.nd rfl (Or.inl rfl)) (pgs_cons (pg_name (i := 3) scWorth.nd rfl (Or.inl rfl)) pgs_nil)))) (pss_one (ps_ret (pe_op op_add (pe_op op_add (pe_op op_mulW (pe_op op_mulW (pe_ix ix_tup (pv 0) pe_int (fun _ _ => rfl)) (pv 2)) (pv 2)) (pe_op op_mulW (pe_op op_mulW (pe_ix ix_tup (pv 0) pe_int (fun _ _ => rfl)) (pv 2)) (pv 3))) (pe_op op_mulW (pe_op op_mulW (pe_ix ix_tup (pv 0) pe_int (fun _ _ => rfl)) (pv 3)) (pv 3)))))), fun p hp => ?_⟩
  obtain ⟨f, x, y⟩ := p
  obtain ⟨⟨b1, b2, b3⟩, b4, b5⟩ := hp
  simp only at b1 b2 b3 b4 b5
  refine ds_u2 (Dv.to (dv_var rfl) ⟨_, _, rfl, ?_⟩)
  walk_at "ret"
  rfl
theorem okAct (T : Tx K mg) : FnOk P w K mg base CX0 2 T.xAct.f T.xAct.fd ["form", "m"] (spAct K) := by
  have GWorth : FnOk P w K mg base CX0 1 T.xWorth.f T.xWorth.fd ["form", "point"] (spWorth K) := okWorth T
  refine fn_dataA T.xAct.F scAct rfl fun cdv A outer s H E hr => ⟨_, (pss_cons (ps_asg (pv 1) (pg_tup rfl (pgs_cons (pg_name (i := 2) scAct.nd rfl (Or.inl rfl)) (pgs_cons (pg_name (i := 3) scAct.nd rfl (Or.inl rfl)) (pgs_cons (pg_name (i := 4) scAct.nd rfl (Or.inl rfl)) (pgs_cons (pg_name (i := 5) scAct.nd rfl (Or.inl rfl)) pgs_nil)))))) (pss_cons (ps_set (i := 6) scAct.nd rfl (Or.inl rfl) (pe_op op_add (pe_op op_add (pe_op op_mulW (pe_op op_mulW (pe_op op_mulW pe_int (pe_ix ix_tup (pv 0) pe_int (fun _ _ => rfl))) (pv 2)) (pv 3)) (pe_op op_mulW (pe_ix ix_tup (pv 0) pe_int (fun _ _ => rfl)) (pe_op op_add (pe_op op_mulW (pv 2) (pv 5)) (pe_op op_mulW (pv 3) (pv 4))))) (pe_op op_mulW (pe_op op_mulW (pe_op op_mulW pe_int (pe_ix ix_tup (pv 0) pe_int (fun _ _ => rfl))) (pv 4)) (pv 5)))) (pss_one (ps_ret (pe_tup (pa_cons (pe_call GWorth (hr.mono (by decide)) (by rfl) T.xWorth.g T.xWorth.F.kp T.xWorth.b .nil pass0 (pa_cons (pv 0) (pa_cons (pe_tup (pa_cons (pv 2) (pa_cons (pv 4) pa_nil))) pa_nil))) (pa_cons (pv 6) (pa_cons (pe_call GWorth (hr.mono (by decide)) (by rfl) T.xWorth.g T.xWorth.F.kp T.xWorth.b .nil pass0 (pa_cons (pv 0) (pa_cons (pe_tup (pa_cons (pv 3) (pa_cons (pv 5) pa_nil))) pa_nil))) pa_nil)))))))), fun p hp => ?_⟩
  obtain ⟨f, m⟩ := p
  obtain ⟨bf, bm⟩ := hp
  obtain ⟨b1, b2, b3⟩ := id bf
  obtain ⟨c1, c2, c3, c4⟩ := id bm
  simp only at b1 b2 b3 c1 c2 c3 c4
  refine ds_u4 (Dv.to (dv_var rfl) ⟨_, _, _, _, rfl, ?_⟩)
  walk_at "set"
  exact ds_ret' (dv_t3 (dv_callA (f, m.p, m.r) rfl ⟨bf, c1, c3⟩ (das2 (dv_var rfl) (by walk_at "dv")) fun z h => h) (dv_var rfl) (dv_callA (f, m.q, m.s) rfl ⟨bf, c2, c4⟩ (das2 (dv_var rfl) (by walk_at "dv")) fun z h => h)) rfl
theorem okKind (T : Tx K mg) : FnOk P w K mg base CX0 2 T.xKind.f T.xKind.fd ["form"] (spKind K) := by
  have GIsSquare : FnOk P w K mg base CX0 1 T.xIsSquare.f T.xIsSquare.fd ["n"] (spIsSquare K) := okIsSquare T
  have GDiscriminant : FnOk P w K mg base CX0 1 T.xDiscriminant.f T.xDiscriminant.fd ["form"] (spDiscriminant K) := okDiscriminant T
  refine fn_dataA T.xKind.F scKind rfl fun cdv A outer s H E hr => ⟨_, (pss_cons (ps_set (i := 1) scKind.nd rfl (Or.inl rfl) (pe_call GDiscriminant (hr.mono (by decide)) (by rfl) T.xDiscriminant.g T.xDiscriminant.F.kp T.xDiscriminant.b .nil pass0 (pa_cons (pv 0) pa_nil))) (pss_cons (ps_if (pt_cmpR op_lt (pv 1) pe_int (nomark _)) (pss_one (ps_ret pe_str)) pss_nil) (pss_cons (ps_if (pt_cmpR op_eq (pv 1) pe_int (nomark _)) (pss_one (ps_ret pe_str)) pss_nil) (pss_one (ps_ret (pe_ifExp (pt_val (pe_call GIsSquare (hr.mono (by decide)) (by rfl) T.xIsSquare.g T.xIsSquare.F.kp T.xIsSquare.b .nil pass0 (pa_cons (pv 1) pa_nil))) pe_str pe_str)))))), fun f hp => ?_⟩
  obtain ⟨bf, h1, h2, h3⟩ := hp
  refine ds_set' (dv_callA f rfl bf (das1 (dv_var rfl)) fun z h => h) ?_
  refine ds_if1 (dt_test (dv_lt (dv_var rfl) dv_int)) (fun h => ?_) fun h => ?_
  · refine ds_ret' dv_str ?_
    show PyData.str _ = PyData.str _
    rw [if_pos (of_decide_eq_true h)]
  · refine ds_if1 (dt_test (dv_eqI (dv_var rfl) dv_int)) (fun h => (h2 (of_decide_eq_true h)).elim) fun _ => ?_
    refine ds_ret (de_if (dt_B (dv_callA (disc f) rfl h1 (das1 (dv_var rfl)) fun z h => h)) (fun h => ?_) fun _ => Dv.to dv_str ?_)
    · rw [h3] at h
      cases h
    · show PyData.str _ = PyData.str _
      rw [if_neg (of_decide_eq_false h)]
theorem okMultiply (T : Tx K mg) : FnOk P w K mg base CX0 1 T.xMultiply.f T.xMultiply.fd ["m", "n"] (spMultiply K) := by
  refine fn_dataA T.xMultiply.F scMultiply rfl fun cdv A outer s H E hr => ⟨_, (pss_one (ps_ret (pe_tup (pa_cons (pe_op op_add (pe_op op_mulW (pe_ix ix_tup (pv 0) pe_int (fun _ _ => rfl)) (pe_ix ix_tup (pv 1) pe_int (fun _ _ => rfl))) (pe_op op_mulW (pe_ix ix_tup (pv 0) pe_int (fun _ _ => rfl)) (pe_ix ix_tup (pv 1) pe_int (fun _ _ => rfl)))) (pa_cons (pe_op op_add (pe_op op_mulW (pe_ix ix_tup (pv 0) pe_int (fun _ _ => rfl)) (pe_ix ix_tup (pv 1) pe_int (fun _ _ => rfl))) (pe_op op_mulW (pe_ix ix_tup (pv 0) pe_int (fun _ _ => rfl)) (pe_ix ix_tup (pv 1) pe_int (fun _ _ => rfl)))) (pa_cons (pe_op op_add (pe_op op_mulW (pe_ix ix_tup (pv 0) pe_int (fun _ _ => rfl)) (pe_ix ix_tup (pv 1) pe_int (fun _ _ => rfl))) (pe_op op_mulW (pe_ix ix_tup (pv 0) pe_int (fun _ _ => rfl)) (pe_ix ix_tup (pv 1) pe_int (fun _ _ => rfl)))) (pa_cons (pe_op op_add (pe_op op_mulW (pe_ix ix_tup (pv 0) pe_int (fun _ _ => rfl)) (pe_ix ix_tup (pv 1) pe_int (fun _ _ => rfl))) (pe_op op_mulW (pe_ix ix_tup (pv 0) pe_int (fun _ _ => rfl)) (pe_ix ix_tup (pv 1) pe_int (fun _ _ => rfl)))) pa_nil))))))), fun p hp => ?_⟩
  obtain ⟨m, n⟩ := p
  obtain ⟨⟨b1, b2, b3, b4⟩, ⟨c1, c2, c3, c4⟩⟩ := hp
  simp only at b1 b2 b3 b4 c1 c2 c3 c4
  walk_at "ret"
  rfl
theorem okDeterminant (T : Tx K mg) : FnOk P w K mg base CX0 1 T.xDeterminant.f T.xDeterminant.fd ["m"] (spDeterminant K) := by
  refine fn_dataA T.xDeterminant.F scDeterminant rfl fun cdv A outer s H E hr => ⟨_, (pss_one (ps_ret (pe_op op_sub (pe_op op_mulW (pe_ix ix_tup (pv 0) pe_int (fun _ _ => rfl)) (pe_ix ix_tup (pv 0) pe_int (fun _ _ => rfl))) (pe_op op_mulW (pe_ix ix_tup (pv 0) pe_int (fun _ _ => rfl)) (pe_ix ix_tup (pv 0) pe_int (fun _ _ => rfl)))))), fun p hp => ?_⟩
  obtain ⟨b1, b2, b3, b4⟩ := hp
  walk_at "ret"
  rfl
theorem okInverse (T : Tx K mg) : FnOk P w K mg base CX0 2 T.xInverse.f T.xInverse.fd ["m"] (spInverse K) := by
  have GDeterminant : FnOk P w K mg base CX0 1 T.xDeterminant.f T.xDeterminant.fd ["m"] (spDeterminant K) := okDeterminant T
  refine fn_dataA T.xInverse.F scInverse rfl fun cdv A outer s H E hr => ⟨_, (pss_cons (ps_set (i := 1) scInverse.nd rfl (Or.inl rfl) (pe_call GDeterminant (hr.mono (by decide)) (by rfl) T.xDeterminant.g T.xDeterminant.F.kp T.xDeterminant.b .nil pass0 (pa_cons (pv 0) pa_nil))) (pss_one (ps_ret (pe_tup (pa_cons (pe_op op_mulW (pv 1) (pe_ix ix_tup (pv 0) pe_int (fun _ _ => rfl))) (pa_cons (pe_op op_mulW (pe_un un_neg (pv 1)) (pe_ix ix_tup (pv 0) pe_int (fun _ _ => rfl))) (pa_cons (pe_op op_mulW (pe_un un_neg (pv 1)) (pe_ix ix_tup (pv 0) pe_int (fun _ _ => rfl))) (pa_cons (pe_op op_mulW (pv 1) (pe_ix ix_tup (pv 0) pe_int (fun _ _ => rfl))) pa_nil)))))))), fun m hp => ?_⟩
  obtain ⟨b1, b2, b3, b4⟩ := id hp
  have bd : Bd 500000 (det m) := Bd.mono (Bd.sub (Bd.mul b1 b4) (Bd.mul b2 b3)) (by decide)
  refine ds_set' (dv_callA m rfl hp (das1 (dv_var rfl)) fun z h => h) ?_
  walk_at "ret"
  rfl
end
end K19
/-! K19W3 -/
set_option Elab.async false
set_option linter.all false
set_option maxRecDepth 100000
set_option maxHeartbeats 4000000
namespace K19
open PySem PySem.Spec PyProof.Rows L2
open Evl (Ex)
local macro_rules | `(tactic| walk_at "bd") => `(tactic| first | assumption | exact Bd.lit (n := 4) rfl | exact Bd.lit (n := 32) rfl | (apply Bd.mul <;> walk_at "bd") | (apply Bd.add <;> walk_at "bd") | (apply Bd.sub <;> walk_at "bd") | (apply Bd.neg; walk_at "bd") | (apply Bd.fdiv; walk_at "bd"))
local macro_rules | `(tactic| walk_at "cm") => `(tactic| (apply cm_of; walk_at "bd"; walk_at "bd"; first | decide | omega))
local macro_rules | `(tactic| walk_at "dv") => `(tactic| first | exact dv_var rfl | exact dv_int | exact dv_str | exact dv_bl | assumption | (apply dv_ix0; walk_at "dv") | (apply dv_ix1; walk_at "dv") | (apply dv_ix2; walk_at "dv") | (apply dv_ix3; walk_at "dv") | (apply dv_add <;> walk_at "dv") | (apply dv_sub <;> walk_at "dv") | (apply dv_mul; walk_at "dv"; walk_at "dv"; walk_at "cm") | (apply dv_neg; walk_at "dv") | (apply dv_lt <;> walk_at "dv") | (apply dv_le <;> walk_at "dv") | (apply dv_gt <;> walk_at "dv") | (apply dv_ge <;> walk_at "dv") | (apply dv_eqI <;> walk_at "dv") | (apply dv_neI <;> walk_at "dv") | (apply dv_t2 <;> walk_at "dv") | (apply dv_t3 <;> walk_at "dv") | (apply dv_t4 <;> walk_at "dv") | (apply dv_abs; walk_at "dv") | (apply dv_intI; walk_at "dv"))
local macro_rules | `(tactic| walk_at "p2") => `(tactic| (apply ds_p2; walk_at "dv"; walk_at "dv"))
local macro_rules | `(tactic| walk_at "p2e") => `(tactic| (apply ds_p2e; walk_at "dv"; walk_at "dv"))
local macro_rules | `(tactic| walk_at "p3") => `(tactic| (apply ds_p3; walk_at "dv"; walk_at "dv"; walk_at "dv"))
local macro_rules | `(tactic| walk_at "set") => `(tactic| (apply ds_set'; walk_at "dv"))
local macro_rules | `(tactic| walk_at "sete") => `(tactic| (apply ds_sete; walk_at "dv"))
local macro_rules | `(tactic| walk_at "ret") => `(tactic| (apply ds_ret'; walk_at "dv"))
section
variable {P : Program} {w : World} {K : PySem.W.Frag} {mg : Str → Option Value} {base : Heap}

def formI (i : Nat) (e : Env') : Fm := match e[i]? with
  | some (some (PyData.tuple [PyData.int a, PyData.int b, PyData.int c])) => ⟨a, b, c⟩
  | _ => ⟨0, 0, 0⟩
theorem not_t {b : Bool} (h : (!b) = true) : b = false := by
  cases b
  · rfl
  · cases h
theorem not_f {b : Bool} (h : (!b) = false) : b = true := by
  cases b
  · cases h
  · rfl
theorem bdS : BdM 200000 mS := ⟨(Bd.lit (n := 4) rfl).mono (by decide), (Bd.lit (n := 4) rfl).mono (by decide), (Bd.lit (n := 4) rfl).mono (by decide), (Bd.lit (n := 4) rfl).mono (by decide)⟩
abbrev spIsReducedDefinite (K : PySem.W.Frag) : Sp := spA K 1 (fun f : Fm => [fmD f]) (fun _ => True) fun f z => z = .bool (redB f)
theorem okIsReducedDefinite (T : Tx K mg) : FnOk P w K mg base CX0 1 T.xIsReducedDefinite.f T.xIsReducedDefinite.fd ["form"] (spIsReducedDefinite K) := by
  refine fn_dataA T.xIsReducedDefinite.F scIsReducedDefinite rfl fun cdv A outer s H E hr => ⟨_, (pss_cons (ps_asg (pv 0) (pg_tup rfl (pgs_cons (pg_name (i := 1) scIsReducedDefinite.nd rfl (Or.inl rfl)) (pgs_cons (pg_name (i := 2) scIsReducedDefinite.nd rfl (Or.inl rfl)) (pgs_cons (pg_name (i := 3) scIsReducedDefinite.nd rfl (Or.inl rfl)) pgs_nil))))) (pss_cons (ps_if (pt_not (pt_chain3 op_lt op_le op_le (pe_un un_neg (pv 1)) (pv 2) (pv 1) (pv 3))) (pss_one (ps_ret pe_bl)) pss_nil) (pss_one (ps_ret (pe_or (pe_cmpR op_ge (pv 2) pe_int (nomark _)) (pe_one (pe_cmpR op_lt (pv 1) (pv 3) (nomark _)))))))), fun f hp => ?_⟩
  refine ds_u3 (Dv.to (dv_var rfl) ⟨_, _, _, rfl, ?_⟩)
  refine ds_if1 (dt_not (dt_chain3 (dv_neg (dv_var rfl)) (dv_var rfl) (dv_var rfl) (dv_var rfl))) (fun h => ?_) fun h => ?_
  · refine ds_ret' dv_bl ?_
    show PyData.bool false = PyData.bool (redB f)
    have h := not_t h
    unfold redB
    rw [h]
    rfl
  · refine ds_ret' (dv_or (dv_ge (dv_var rfl) dv_int) fun _ => dv_lt (dv_var rfl) (dv_var rfl)) ?_
    show PyData.bool _ = PyData.bool (redB f)
    have h := not_f h
    unfold redB
    rw [h]
    rfl
/-- positive forms of a small discriminant -/
def PosOk (f : Fm) : Prop := 0 < f.a ∧ disc f < 0 ∧ -400 < disc f ∧ BdF 250 f
def ResD (f : Fm) (z : PyData) : Prop := ∃ R m, z = .tuple [fmD R, mxD m] ∧ Red R ∧ det m = 1 ∧ act f m = R ∧ BdM 400 m
abbrev spReducePositive (K : PySem.W.Frag) : Sp := spA K 1 (fun f : Fm => [fmD f]) PosOk ResD
theorem okReducePositive (T : Tx K mg) : FnOk P w K mg base CX0 3 T.xReducePositive.f T.xReducePositive.fd ["form"] (spReducePositive K) := by
  have GIsReducedDefinite : FnOk P w K mg base CX0 1 T.xIsReducedDefinite.f T.xIsReducedDefinite.fd ["form"] (spIsReducedDefinite K) := okIsReducedDefinite T
  have GMultiply : FnOk P w K mg base CX0 1 T.xMultiply.f T.xMultiply.fd ["m", "n"] (spMultiply K) := okMultiply T
  have GAct : FnOk P w K mg base CX0 2 T.xAct.f T.xAct.fd ["form", "m"] (spAct K) := okAct T
  refine fn_dataA T.xReducePositive.F scReducePositive rfl fun cdv A outer s H E hr => ⟨_, (pss_cons (ps_set (i := 1) scReducePositive.nd rfl (Or.inl rfl) (pe_glob (v := .ref T.unitA) rfl T.unit rfl)) (pss_cons (ps_while PassesOwn.never (pt_not (pt_val (pe_call GIsReducedDefinite (hr.mono (by decide)) (by rfl) T.xIsReducedDefinite.g T.xIsReducedDefinite.F.kp T.xIsReducedDefinite.b .nil pass0 (pa_cons (pv 0) pa_nil)))) (pss_cons (ps_asg (pv 0) (pg_tup rfl (pgs_cons (pg_name (i := 2) scReducePositive.nd rfl (Or.inl rfl)) (pgs_cons (pg_name (i := 3) scReducePositive.nd rfl (Or.inl rfl)) (pgs_cons (pg_name (i := 4) scReducePositive.nd rfl (Or.inl rfl)) pgs_nil))))) (pss_cons (ps_if (PW.pt (pw_or (pt_cmpR op_gt (pv 2) (pv 4) (nomark _)) (pw_or1 (PW.pt (pw_and (pt_cmpR op_eq (pv 2) (pv 4) (nomark _)) (pw_and1 (pt_cmpR op_lt (pv 3) pe_int (nomark _)))))))) (pss_one (ps_set (i := 5) scReducePositive.nd rfl (Or.inl rfl) (pe_tup (pa_cons pe_int (pa_cons (pe_un un_neg pe_int) (pa_cons pe_int (pa_cons pe_int pa_nil))))))) (pss_one (ps_set (i := 5) scReducePositive.nd rfl (Or.inl rfl) (pe_tup (pa_cons pe_int (pa_cons (pe_op op_fdivZ (pe_op op_sub (pv 2) (pv 3)) (pe_op op_mulW pe_int (pv 2))) (pa_cons pe_int (pa_cons pe_int pa_nil)))))))) (pss_cons (ps_set (i := 0) scReducePositive.nd rfl (Or.inl rfl) (pe_call GAct (hr.mono (by decide)) (by rfl) T.xAct.g T.xAct.F.kp T.xAct.b .nil pass0 (pa_cons (pv 0) (pa_cons (pv 5) pa_nil)))) (pss_one (ps_set (i := 1) scReducePositive.nd rfl (Or.inl rfl) (pe_call GMultiply (hr.mono (by decide)) (by rfl) T.xMultiply.g T.xMultiply.F.kp T.xMultiply.b .nil pass0 (pa_cons (pv 1) (pa_cons (pv 5) pa_nil))))))))) (pss_one (ps_ret (pe_tup (pa_cons (pv 0) (pa_cons (pv 1) pa_nil))))))), fun f hp => ?_⟩
  obtain ⟨ha, hd, hd2, b1, b2, b3⟩ := hp
  refine ds_set' (dv_ref (d := mxD one) fun H => .tup (T.unitT H) (.cons (.int 1) (.cons (.int 0) (.cons (.int 0) (.cons (.int 1) .nil))))) ?_
  refine ds_seq (ds_while (fun e => ∃ g m x2 x3 x4 x5, e = [some (fmD g), some (mxD m), x2, x3, x4, x5] ∧ RP f g m) (fun e => muD (formI 0 e)) ⟨f, one, none, none, none, none, rfl, RP.start ha⟩ ?_)
  rintro e ⟨g, m, x2, x3, x4, x5, rfl, J⟩
  obtain ⟨⟨s1, s2, s3⟩, t1, t2, t3, t4⟩ := J.sizes ha hd hd2 b1 b2 b3
  have bg : BdF 600 g := ⟨s1.mono (by decide), s2.mono (by decide), s3.mono (by decide)⟩
  have bm : BdM 200000 m := ⟨t1.mono (by decide), t2.mono (by decide), t3.mono (by decide), t4.mono (by decide)⟩
  refine ⟨_, dt_not (dt_B (dv_callA g rfl trivial (das1 (dv_var rfl)) fun z h => h)), fun h => ?_, fun h => ?_⟩
  · have hn : ¬ Red g := fun r => by
      rw [(redB_iff g).mpr r] at h
      cases h
    refine ds_u3 (Dv.to (dv_var rfl) ⟨_, _, _, rfl, ?_⟩)
    refine ds_if2 (dt_or (dt_test (dv_gt (dv_var rfl) (dv_var rfl))) fun _ => dt_and (dt_test (dv_eqI (dv_var rfl) (dv_var rfl))) fun _ => dt_test (dv_lt (dv_var rfl) dv_int)) (fun h => ?_) fun h => ?_
    · have hs : g.a > g.c ∨ (g.a = g.c ∧ g.b < 0) := by simpa using h
      obtain ⟨J2, lt⟩ := J.swap hd hs
      refine ds_sete (d := mxD mS) (dv_t4 dv_int (dv_neg dv_int) dv_int dv_int) ?_
      refine ds_then ?_
      refine ds_set' (dv_callA (g, mS) rfl ⟨bg, bdS⟩ (das2 (dv_var rfl) (dv_var rfl)) fun z h => h) ?_
      refine ds_sete (dv_callA (m, mS) rfl ⟨bm, bdS⟩ (das2 (dv_var rfl) (dv_var rfl)) fun z h => h) ?_
      exact ⟨⟨_, _, _, _, _, _, rfl, J2⟩, lt⟩
    · have hs : ¬ (g.a > g.c ∨ (g.a = g.c ∧ g.b < 0)) := by simpa using h
      obtain ⟨J2, lt⟩ := J.shift hn hs
      have ga := J.a
      have bk : Bd 600 ((g.a - g.b).fdiv (2 * g.a)) := Bd.mono (Bd.fdiv (Bd.sub s1 s2)) (by decide)
      have b2a : Bd 600 (2 * g.a) := Bd.mono (Bd.mul (Bd.lit (n := 2) (i := 2) rfl) s1) (by decide)
      refine ds_sete (d := mxD (mSh ((g.a - g.b).fdiv (2 * g.a)))) (dv_t4 dv_int (dv_div (dv_sub (dv_var rfl) (dv_var rfl)) (dv_mul dv_int (dv_var rfl) (by walk_at "cm")) (cd_of (by omega) b2a (by decide))) dv_int dv_int) ?_
      refine ds_then ?_
      have bs : BdM 200000 (mSh ((g.a - g.b).fdiv (2 * g.a))) := ⟨(Bd.lit (n := 4) rfl).mono (by decide), bk.mono (by decide), (Bd.lit (n := 4) rfl).mono (by decide), (Bd.lit (n := 4) rfl).mono (by decide)⟩
      refine ds_set' (dv_callA (g, mSh ((g.a - g.b).fdiv (2 * g.a))) rfl ⟨bg, bs⟩ (das2 (dv_var rfl) (dv_var rfl)) fun z h => h) ?_
      refine ds_sete (dv_callA (m, mSh ((g.a - g.b).fdiv (2 * g.a))) rfl ⟨bm, bs⟩ (das2 (dv_var rfl) (dv_var rfl)) fun z h => h) ?_
      exact ⟨⟨_, _, _, _, _, _, rfl, J2⟩, lt⟩
  · have hr : Red g := by
      rw [← redB_iff]
      simpa using h
    refine ds_then ?_
    refine ds_ret' (dv_t2 (dv_var rfl) (dv_var rfl)) ?_
    exact ⟨g, m, rfl, hr, J.d, J.e, t1, t2, t3, t4⟩
abbrev spReduceDefinite (K : PySem.W.Frag) : Sp := spA K 1 (fun f : Fm => [fmD f]) PosOk ResD
theorem okReduceDefinite (T : Tx K mg) : FnOk P w K mg base CX0 4 T.xReduceDefinite.f T.xReduceDefinite.fd ["form"] (spReduceDefinite K) := by
  have GReducePositive : FnOk P w K mg base CX0 3 T.xReducePositive.f T.xReducePositive.fd ["form"] (spReducePositive K) := okReducePositive T
  refine fn_dataA T.xReduceDefinite.F scReduceDefinite rfl fun cdv A outer s H E hr => ⟨_, (pss_cons (ps_if (pt_cmpR op_gt (pe_ix ix_tup (pv 0) pe_int (fun _ _ => rfl)) pe_int (nomark _)) (pss_one (ps_ret (pe_call GReducePositive (hr.mono (by decide)) (by rfl) T.xReducePositive.g T.xReducePositive.F.kp T.xReducePositive.b .nil pass0 (pa_cons (pv 0) pa_nil)))) pss_nil) (pss_cons ps_never (pss_one ps_never))), fun f hp => ?_⟩
  have ha : 0 < f.a := hp.1
  refine ds_if1 (dt_test (dv_gt (dv_ix0 (dv_var rfl)) dv_int)) (fun _ => ?_) fun h => ?_
  · exact ds_ret (de_callA f rfl hp (das1 (dv_var rfl)) fun z h => h)
  · exact absurd ha (of_decide_eq_false h)
end
end K19
/-! K19LayE -/
set_option Elab.async false
set_option linter.all false
set_option maxRecDepth 100000
set_option maxHeartbeats 4000000
namespace K19
open PySem PySem.Spec PyProof.Rows L2
/-! ### sorting tuples of ints of either sign -/
def wide (B : Int) (ns : List Int) : Prop := ∀ m ∈ ns, -B ≤ m ∧ m < B
def lift (B : Int) (ns : List Int) : List Int := ns.map (· + B)
def rank (B : Int) (ns : List Int) : Int := TS.code (2 * B) (lift B ns)
theorem wide.lift {B : Int} {ns : List Int} (h : wide B ns) : TS.Bd (2 * B) (lift B ns) := fun m hm => by
  obtain ⟨k, hk, rfl⟩ := List.mem_map.mp hm
  have := h k hk
  omega
theorem wide.tail {B d : Int} {r : List Int} (h : wide B (d :: r)) : wide B r := fun m hm => h m (List.mem_cons_of_mem _ hm)
theorem lift_len (B : Int) (ns : List Int) : (lift B ns).length = ns.length := List.length_map ..
theorem rank_lt {B d e : Int} {r q : List Int} (hl : r.length = q.length) (hr : wide B r) (hq : wide B q) (h : d < e) : rank B (d :: r) < rank B (e :: q) :=
  TS.code_lt (d := d + B) (e := e + B) (r := lift B r) (q := lift B q) (by rw [lift_len, lift_len]; exact hl) hr.lift hq.lift (by omega)
theorem rank_same {B d : Int} {r q : List Int} (hl : r.length = q.length) : rank B (d :: r) < rank B (d :: q) ↔ rank B r < rank B q :=
  TS.code_same (d := d + B) (r := lift B r) (q := lift B q) (by rw [lift_len, lift_len]; exact hl)
def WideTups (h : Heap) (d : Nat) (B : Int) (vs : List Value) : Prop := ∀ v, v ∈ vs → ∃ ns, TS.TupInts h v ns ∧ ns.length = d ∧ wide B ns
theorem WideTups.keeps {h h' : Heap} {d : Nat} {B : Int} {vs : List Value} (x : WideTups h d B vs) (k : ∀ b o, h.get? b = some o → o.cls = .type "tuple" → h'.get? b = some o) : WideTups h' d B vs := fun v hv =>
  let ⟨ns, t, r⟩ := x v hv; ⟨ns, t.keeps k, r⟩
section
variable {prog : Program} {w : World} {A : Around} {E : Value → Shared → Prop} {s : Shared}
theorem lex_wide {B : Int} {b : Bool} {Q : Bool → Shared → Prop} : ∀ {xs ys : List Value} {ns ms : List Int} (i : Nat), IntsAre xs ns → IntsAre ys ms → ns.length = ms.length → wide B ns → wide B ms →
    Q (decide (rank B ns < rank B ms)) s → PySem.W.KatLex prog w A b false Q (xs.zip ys) i s
  | _, _, _, _, i, .nil, .nil, _, _, _, h => PySem.W.kat_nil (by rw [show decide (rank B [] < rank B []) = false from decide_eq_false (Int.lt_irrefl _)] at h; exact h)
  | _, _, _, _, i, .nil, .cons _ _ _, hl, _, _, _ => by simp at hl
  | _, _, _, _, i, .cons _ _ _, .nil, hl, _, _, _ => by simp at hl
  | _, _, _, _, i, .cons (ns := ns) p t hx, .cons (ns := ms) q u hy, hl, h1, h2, h => by
    have hl' : ns.length = ms.length := by simpa using hl
    refine PySem.W.kat_cons (wpAny_eqBool_int ?_)
    by_cases e : p = q
    · subst e
      rw [beq_self_eq_true]
      rw [decide_eq_decide.mpr (rank_same (d := p) hl')] at h
      exact PySem.W.kat_yes (lex_wide (i + 1) hx hy hl' h1.tail h2.tail h)
    · rw [show (p == q) = false from beq_eq_false_iff_ne.mpr e]
      refine PySem.W.kat_no (TS.oneLt_ints _ ?_)
      have d : decide (rank B (p :: ns) < rank B (q :: ms)) = decide (p < q) := by
        refine decide_eq_decide.mpr ⟨fun x => ?_, fun x => rank_lt hl' h1.tail h2.tail x⟩
        rcases Int.lt_trichotomy p q with y | y | y
        · exact y
        · exact absurd y e
        · have := rank_lt hl'.symm h2.tail h1.tail y
          omega
      rw [d] at h
      exact h
theorem wide_firsts {h : Heap} {d : Nat} {B : Int} (hd : 1 ≤ d) : ∀ vs : List Value, WideTups h d B vs → ∃ fs, PySem.W.KatTups h vs fs ∧ fs.length = vs.length ∧ ∀ f, f ∈ fs → ∃ n t, f = Value.int n t
  | [], _ => ⟨[], .nil, rfl, fun f hf => by simp at hf⟩
  | v :: vs, x => by
    obtain ⟨fs, k, hl, hi⟩ := wide_firsts hd vs fun u hu => x u (List.mem_cons_of_mem _ hu)
    obtain ⟨ns, ⟨a, xs, rfl, ⟨o, ho, hc, n, hdt⟩, i⟩, hn, _⟩ := x v (List.mem_cons_self ..)
    cases q : xs.toList with
    | nil =>
      have l := i.length
      rw [q, List.length_nil, hn] at l
      omega
    | cons y ys =>
      obtain ⟨m, t, hy⟩ := i.all y (by rw [q]; exact List.mem_cons_self ..)
      refine ⟨y :: fs, .cons ho hc hdt (by have z := congrArg (fun l : List Value => l[0]?) q; rw [Array.getElem?_toList] at z; exact z) k, by simp [hl], fun f hf => ?_⟩
      rcases List.mem_cons.mp hf with rfl | hf
      · exact ⟨m, t, hy⟩
      · exact hi f hf
theorem kind_wide {d : Nat} {B : Int} {vs : List Value} (hd : 1 ≤ d) (h2 : 2 ≤ vs.length) (x : WideTups s.heap d B vs) (r : Value → Int) (hr : ∀ v, v ∈ vs → ∀ ns, TS.TupInts s.heap v ns → r v = rank B ns) (Q : SortKind → Shared → Prop)
    (h : ∀ κ, TS.Cmp prog w A s κ (pairsOf vs) r → Q κ s) : wpAny (model prog w) A (keyKind' vs.toArray) Q E s := by
  obtain ⟨fs, k, hl, hi⟩ := wide_firsts hd vs x
  refine PySem.W.kat_kind (T := Value.type "int") k (by omega) (fun f hf => ?_) rfl (h _ ?_)
  · obtain ⟨n, t, rfl⟩ := hi f hf
    exact PySem.W.Looks.of_pure rfl
  · intro p q hp hq Q' E' hQ
    rw [pairsOf_toList] at hp hq
    obtain ⟨ns, tp, lp, bp⟩ := x _ (mem_zip_self hp).2
    obtain ⟨ms, tq, lq, bq⟩ := x _ (mem_zip_self hq).2
    rw [hr _ (mem_zip_self hp).2 _ tp, hr _ (mem_zip_self hq).2 _ tq] at hQ
    obtain ⟨a, xs, e1, ⟨o, ho, hc, n, hdt⟩, i⟩ := tp
    obtain ⟨a', ys, e2, ⟨o', ho', hc', n', hdt'⟩, i'⟩ := tq
    rw [e1, e2]
    refine PySem.W.kat_lt ho hdt ho' hdt' ?_
    rw [show decide (xs.size < ys.size) = false from decide_eq_false (by
      have l1 := i.length
      have l2 := i'.length
      rw [Array.length_toList] at l1 l2
      omega)]
    exact lex_wide 0 i i' (by omega) bp bq hQ
theorem sort_wide {a : Addr} {vs : List Value} {n d : Nat} {B : Int} {P : PySem.Fin → Shared → Prop} (ho : s.heap.get? a = some (seqObj "list" vs.toArray n)) (h64 : vs.length < 64) (hd : 1 ≤ d) (x : WideTups s.heap d B vs)
    (h : ∀ out : Array Value, out.toList.Perm vs → P (.done (.ret .none)) { s with heap := sortedHeap s.heap a vs out }) :
    wpAny (model prog w) A (Builtin.«list.sort» ⟨[.ref a], []⟩) P E s := by
  have keep : ∀ b o, s.heap.get? b = some o → o.cls = .type "tuple" → (TS.midHeap s.heap a vs).get? b = some o := fun b o e hc => by
    refine TS.midHeap_old ?_ e
    rintro rfl
    rw [ho] at e
    have e' : seqObj "list" vs.toArray n = o := Option.some.inj e
    rw [← e'] at hc
    have c' : Value.type "list" = Value.type "tuple" := hc
    injection c' with c''
    exact absurd c'' (by decide)
  refine SK.plain_sort (r := fun v => rank B (TS.intsOf s.heap v)) ho h64 (fun h2 Q hQ => ?_) fun ps out h1 h2 h3 => h out (TS.out_rank (r := fun v => rank B (TS.intsOf s.heap v)) h1 h2 h3).1
  refine kind_wide (s := { s with heap := TS.midHeap s.heap a vs }) hd h2 (x.keeps keep) (fun v => rank B (TS.intsOf s.heap v)) (fun v hv ns t => ?_) Q hQ
  obtain ⟨ns0, t0, _⟩ := x v hv
  have e : ns = ns0 := t.ints.symm.trans (t0.keeps keep).ints
  rw [e]
  show rank B (TS.intsOf s.heap v) = _
  rw [t0.ints]
theorem call_sort_wide {a : Addr} {vs : List Value} {n d : Nat} {B : Int} {Q : Value → Shared → Prop} (ho : s.heap.get? a = some (seqObj "list" vs.toArray n)) (h64 : vs.length < 64) (hd : 1 ≤ d) (x : WideTups s.heap d B vs)
    (h : ∀ out : Array Value, out.toList.Perm vs → Q .none { s with heap := sortedHeap s.heap a vs out }) :
    wpAny (model prog w) A (call (.builtin "list.sort") [.ref a]) Q E s :=
  wpAny_call_entry slot_list_sort ⟨_, ho, rfl⟩ entry_list_sort (sort_wide ho h64 hd x fun out h1 => ⟨_, rfl, h out h1⟩) (args_list_sort _)
theorem sorted_wide {l : Addr} {vs : List Value} {d : Nat} {B : Int} {Q : Value → Shared → Prop} (hl : s.heap.IsList l vs.toArray) (h64 : vs.length < 64) (hd : 1 ≤ d) (x : WideTups s.heap d B vs)
    (h : ∀ out : Array Value, out.toList.Perm vs → Q (.ref (s.heap.objs.size + 1)) { s with heap := sortedAll s.heap vs out }) :
    wpAny (model prog w) A (call (.builtin "sorted") [.ref l]) Q E s := by
  refine Calls.call_function_entry kind_sorted plain_sorted entry_sorted (args_sorted1 _) ?_
  unfold Builtin.«sorted»
  refine wpAny_bind (m := checkCount "sorted" 1 1 _) (wpAny_pure ?_)
  refine wpAny_bind (collect_list hl ?_ (by rw [sizeLine_eq]; omega))
  refine wpAny_bind (wpAny_newList ?_ (by rw [sizeLine_eq]; omega))
  have hsz : ((s.heap.push (seqObj "list" #[] 0)).update s.heap.objs.size (Obj.mapSeq (· ++ vs.toArray))).objs.size = s.heap.objs.size + 1 := by
    rw [Heap.size_update, size_push']
  have hoL : (((s.heap.push (seqObj "list" #[] 0)).update s.heap.objs.size (Obj.mapSeq (· ++ vs.toArray))).push (seqObj "list" vs.toArray 0)).get? (s.heap.objs.size + 1) = some (seqObj "list" vs.toArray 0) := by
    rw [← hsz]; exact Heap.get?_push_size _ rfl
  have keep : ∀ b o, s.heap.get? b = some o → o.cls = .type "tuple" → (((s.heap.push (seqObj "list" #[] 0)).update s.heap.objs.size (Obj.mapSeq (· ++ vs.toArray))).push (seqObj "list" vs.toArray 0)).get? b = some o := fun b o q _ => by
    have hlt : b < s.heap.objs.size := Heap.lt_size q
    rw [Heap.get?_push_ne _ _ _ (by rw [hsz]; exact Nat.ne_of_lt (Nat.lt_succ_of_lt hlt)), Heap.get?_update_ne _ _ _ _ (Nat.ne_of_lt hlt), Heap.get?_push_ne _ _ _ (Nat.ne_of_lt hlt)]
    exact q
  show wpAny _ _ _ _ _ { s with heap := ((s.heap.push (seqObj "list" #[] 0)).update s.heap.objs.size (Obj.mapSeq (· ++ vs.toArray))).push (seqObj "list" vs.toArray 0) }
  rw [hsz]
  refine wpAny_bind (wpAny_holding (wpAny_call_entry slot_list_sort ⟨_, hoL, rfl⟩ entry_list_sort (sort_wide hoL h64 hd (x.keeps keep) fun out a1 => ⟨_, rfl, ?_⟩) (args_list_sort _)))
  exact wpAny_pure ⟨_, rfl, h out a1⟩
end
/-! ### sorted of a set of tuples -/
section
variable {P : Program} {w : World} {A : Around} {E : Value → Shared → Prop} {s : Shared}
theorem sorted_setW {a : Addr} {L : List (Addr × List Int)} {es : Array (Int × Value)} {ep : Nat} {t : SetTable} {Q : Value → Shared → Prop} (R : SetTR P w s.heap a L es ep t) (hh : A.handled = none)
    {d : Nat} {B : Int} (hd1 : 1 ≤ d) (hB : ∀ p ∈ L, p.2.length = d ∧ wide B p.2)
    (hQ : ∀ s' p (out : Array Value) (c : Nat) (L' : List (Addr × List Int)), (∀ b o, s.heap.get? b = some o → s'.heap.get? b = some o) → s'.gens = s.gens → s'.os = s.os → s.heap.objs.size ≤ p →
      s'.heap.get? p = some (seqObj "list" out c) → out.toList = L'.map (fun q => Value.ref q.1) → L'.Perm L → Q (.ref p) s') :
    wpAny (model P w) A (call (.builtin "sorted") [.ref a]) Q E s := by
  obtain ⟨o, ho, hex, hd⟩ := R.ob
  have hsz := R.size
  have hfew := R.few
  refine Calls.call_function_entry kind_sorted plain_sorted entry_sorted (args_sorted1 _) ?_
  unfold Builtin.«sorted»
  refine wpAny_bind (m := checkCount "sorted" 1 1 _) (wpAny_pure ?_)
  refine wpAny_bind (collect_set (A := A.in1) hh ⟨o, ho, hex.1, hd⟩ R.fits (by unfold scanBound; omega) R.tab.ris R.led fun s1 vs k1 hz g1 o1 pm => ?_)
  have hes : es.toList.map (·.2) = L.map fun q => Value.ref q.1 := by
    rw [R.rows]
    unfold rowsOf
    rw [List.map_map] <;> rfl
  rw [hes] at pm
  have ord : ∀ vs : List Value, (∀ v ∈ vs, ∃ q ∈ L, v = Value.ref q.1) → ∃ L1 : List (Addr × List Int), vs = L1.map (fun q => Value.ref q.1) ∧ ∀ q ∈ L1, q ∈ L := by
    intro vs
    induction vs with
    | nil => intro _; exact ⟨[], rfl, fun q hq => (by cases hq)⟩
    | cons v vs ih =>
      intro hv
      obtain ⟨q, hq, e⟩ := hv v List.mem_cons_self
      obtain ⟨L1, e1, hs⟩ := ih fun u hu => hv u (List.mem_cons_of_mem _ hu)
      refine ⟨q :: L1, by rw [List.map_cons, e, e1], fun r hr => ?_⟩
      rcases List.mem_cons.mp hr with z | z
      · rw [z]; exact hq
      · exact hs r z
  have one : ∀ q ∈ L, ∀ r ∈ L, q.1 = r.1 → q = r := fun q hq r hr e => by
    have a1 := R.tup q hq
    have a2 := R.tup r hr
    rw [e] at a1
    exact Prod.ext e (a1.inj a2)
  have perm_of : ∀ L1 : List (Addr × List Int), (∀ q ∈ L1, q ∈ L) → (L1.map (fun q => Value.ref q.1)).Perm (L.map fun q => Value.ref q.1) → L1.Perm L := by
    intro L1 hs pm1
    have nL : L.Nodup := nodup_of_map R.nd
    have nref : (L.map fun q => Value.ref q.1).Nodup := by
      refine List.pairwise_map.mpr (List.Pairwise.imp_of_mem (fun {q r} hq hr hne e => ?_) nL)
      injection e with e
      exact hne (one q hq r hr e)
    have n1 : L1.Nodup := nodup_of_map (pm1.nodup_iff.mpr nref)
    refine (List.perm_ext_iff_of_nodup n1 nL).mpr fun q => ⟨hs q, fun hq => ?_⟩
    have hm : Value.ref q.1 ∈ L1.map (fun q => Value.ref q.1) := pm1.mem_iff.mpr (List.mem_map.mpr ⟨q, hq, rfl⟩)
    obtain ⟨r, hr, e⟩ := List.mem_map.mp hm
    injection e with e
    rw [← one r (hs r hr) q hq e]
    exact hr
  have hvl : vs.length < 64 := by rw [pm.length_eq, List.length_map]; exact hfew
  refine wpAny_bind (wpAny_newList ?_ (by rw [sizeLine_eq]; omega))
  have hoL : (s1.heap.push (seqObj "list" vs.toArray 0)).get? s1.heap.objs.size = some (seqObj "list" vs.toArray 0) := Heap.get?_push_size _ rfl
  have tk : ∀ q ∈ L, TS.TupInts (s1.heap.push (seqObj "list" vs.toArray 0)) (.ref q.1) q.2 := fun q hq => tupInts_of (P := P) (w := w) (isT_keep (R.tup q hq) fun b u e => Heap.get?_push_of_some _ (k1 b u e))
  have x : WideTups (s1.heap.push (seqObj "list" vs.toArray 0)) d B vs := fun v hv => by
    obtain ⟨q, hq, e⟩ := List.mem_map.mp (pm.mem_iff.mp hv)
    rw [← e]
    exact ⟨q.2, tk q hq, (hB q hq).1, (hB q hq).2⟩
  refine wpAny_bind (wpAny_holding (call_sort_wide (s := { s1 with heap := s1.heap.push (seqObj "list" vs.toArray 0) }) hoL hvl hd1 x fun out a1 => ?_))
  obtain ⟨c, hc⟩ := sortedHeap_at (vs := vs) (out := out) hoL
  obtain ⟨L', e', hs'⟩ := ord out.toList fun v hv => by
    obtain ⟨q, hq, e⟩ := List.mem_map.mp (pm.mem_iff.mp (a1.mem_iff.mp hv))
    exact ⟨q, hq, e.symm⟩
  have pL : L'.Perm L := perm_of L' hs' (by rw [← e']; exact a1.trans pm)
  refine wpAny_pure ⟨_, rfl, hQ _ s1.heap.objs.size out c L' (fun b u e => ?_) g1 o1 hz hc e' pL⟩
  have q := k1 b u e
  have hlt := Heap.lt_size q
  show (sortedHeap (s1.heap.push (seqObj "list" vs.toArray 0)) s1.heap.objs.size vs out).get? b = some u
  rw [sortedHeap_old (Nat.ne_of_lt hlt) (by rw [size_push']; exact Nat.lt_succ_of_lt hlt)]
  exact Heap.get?_push_of_some _ q
end
section
variable {X : Cx}
def rSortedW (K : PySem.W.Frag) (P : Program) (w : World) : List V → Hp → VK → Prop := fun vs H Q => ∃ (a : Addr) (L : List (Addr × List Int)) (d : Nat) (B : Int), vs = [V.ref a] ∧ H a = some (SetTO P w a L) ∧ (∀ p ∈ L, SqT K H p.1 (p.2.map V.int)) ∧ 1 ≤ d ∧
  (∀ p ∈ L, p.2.length = d ∧ wide B p.2) ∧
  ∀ (L' : List (Addr × List Int)) (p : Addr), L'.Perm L → (L'.map (·.2)).Nodup → L'.length < 64 → H p = none → Q (.ref p) (upd H p (.lst (L'.map fun q => V.ref q.1)))
theorem cr_sortedW (hc : X.calm = true) : CallR X (.builtin "sorted") (rSortedW X.K X.prog X.w) := by
  intro pins s σ H vs us Q I r h
  obtain ⟨a, L, d, B, rfl, ha, hk, hd, hB, q⟩ := h
  have R0 : SetT0 X.prog X.w s.heap a L := (I.hok a _ ha).1
  obtain ⟨es, ep, t, R⟩ := R0.full fun p hp => I.isT (hk p hp)
  rw [Vals.ref1 r]
  refine sorted_setW R (I.ok.hd hc) hd hB fun s' p out c L' k g o hp hg hout pm => ?_
  have hfew : L'.length < 64 := by rw [pm.length_eq]; exact R.few
  have hlen : (L'.map fun q => V.ref q.1).length ≤ sizeLine := by rw [List.length_map, sizeLine_eq]; omega
  have hn : H p = none := I.hok.fresh hp
  have hv : Vals (L'.map fun q => V.ref q.1) out.toList := by rw [hout]; exact vals_of_refs L'
  have J : Inv X pins σ (upd H p (.lst (L'.map fun q => V.ref q.1))) { s with heap := s'.heap, gens := s'.gens, drawn := s'.drawn, toks := s'.toks } :=
    I.call (ch := []) (Un.laid k hp hn) (I.hok.laid k hp ⟨hlen, out.toList, c, hv, hg⟩) (by rw [g]; exact I.bare) (fun _ z => nomatch z)
  have e : s' = { s with heap := s'.heap, gens := s'.gens, drawn := s'.drawn, toks := s'.toks } := by
    cases s'
    cases s
    cases o
    rfl
  rw [e]
  exact ⟨.ref p, _, J, rfl, q L' p pm ((pm.map (·.2)).nodup_iff.mpr R.nd) hfew hn⟩
def rSortW (K : PySem.W.Frag) : List V → Hp → VK → Prop := fun vs H Q => ∃ (a : Addr) (xs : List V) (d : Nat) (B : Int), vs = [V.ref a] ∧ SqL K H a xs ∧ xs.length < 64 ∧ 1 ≤ d ∧ (∀ x ∈ xs, ∃ ns, TupI K H x ns ∧ ns.length = d ∧ wide B ns) ∧
  ∀ (ys : List V) (p : Addr), ys.Perm xs → H p = none → Q (.ref p) (upd H p (.lst ys))
theorem cr_sortW : CallR X (.builtin "sorted") (rSortW X.K) := by
  intro pins s σ H vs us Q I r h
  obtain ⟨a, xs, d, B, rfl, hs, h64, hd, hx, q⟩ := h
  obtain ⟨its, rv, hl, hz⟩ := I.list hs
  rw [Vals.ref1 r]
  obtain ⟨e1, e2⟩ := bkV_refs rv fun x m => by
    obtain ⟨ns, ⟨t, e, _⟩, _⟩ := hx x m
    exact ⟨t, e⟩
  refine sorted_wide (d := d) (B := B) hl.isList (by rw [← rv.length]; exact h64) hd (fun v hv => ?_) fun out h1 => ?_
  · obtain ⟨t, rfl⟩ := e2 v hv
    have hm : V.ref t ∈ xs := by
      rw [e1]
      exact List.mem_map.mpr ⟨_, hv, rfl⟩
    obtain ⟨ns, ⟨t', e, ht⟩, hn, hb⟩ := hx _ hm
    cases e
    exact ⟨ns, tupI_raw I ht, hn, hb⟩
  · obtain ⟨ep, he'⟩ := PyProof.Rows.sortedAll_at s.heap its out
    have h3 : ∀ u ∈ out.toList, ∃ a, u = Value.ref a := fun u hu => e2 u (h1.mem_iff.mp hu)
    have hp : (out.toList.map bkV).Perm xs := by
      rw [e1]
      exact h1.map bkV
    have hlen : (out.toList.map bkV).length ≤ sizeLine := by
      rw [hp.length_eq]
      exact hz
    exact ⟨.ref _, upd H (s.heap.objs.size + 1) (.lst (out.toList.map bkV)), I.laid (t' := s.toks) (fun _ _ => PyProof.Rows.sortedAll_old) (Nat.le_succ _) ⟨hlen, out.toList, ep, bkV_vals h3, he'⟩, rfl, q _ _ hp (I.hok.fresh (Nat.le_succ _))⟩
end
end K19
/-! K19LayF -/
set_option Elab.async false
set_option linter.all false
set_option maxRecDepth 100000
set_option maxHeartbeats 4000000
namespace K19
open PySem PySem.Spec PyProof.Rows L2
open Evl (Ex)
/-! ### one list that is changed in place -/
def rm (p : Addr) (H : Hp) : Hp := fun a => if a = p then none else H a
theorem rm_self {p : Addr} {H : Hp} : rm p H p = none := if_pos rfl
theorem rm_ne {p a : Addr} {H : Hp} (h : a ≠ p) : rm p H a = H a := if_neg h
theorem rm_le {p : Addr} {H : Hp} : Ex (rm p H) H := fun a o e => by
  by_cases h : a = p
  · subst h; rw [rm_self] at e; cases e
  · rw [rm_ne h] at e; exact e
theorem rm_ex {p : Addr} {H H' : Hp} (x : Ex H H') : Ex (rm p H) (rm p H') := fun a o e => by
  by_cases h : a = p
  · subst h; rw [rm_self] at e; cases e
  · rw [rm_ne h] at e ⊢; exact x a o e
theorem rm_upd {p : Addr} {H : Hp} {o : HO} : rm p (upd H p o) = rm p H := funext fun a => by
  by_cases h : a = p
  · subst h; rw [rm_self, rm_self]
  · rw [rm_ne h, rm_ne h, upd_ne h]
theorem rm_upd_new {p : Addr} {H : Hp} {o : HO} (h : H p = none) : rm p (upd H p o) = H := by
  rw [rm_upd]
  funext a
  by_cases e : a = p
  · subst e; rw [rm_self, h]
  · rw [rm_ne e]
theorem exT_rm {p : Addr} {H : Hp} {xs : List V} (hp : H p = some (.lst xs)) : ExT H (rm p H) := fun a ys r => by
  have ne : a ≠ p := by
    rintro rfl
    rcases r with r | ⟨ob, r⟩ <;> rw [hp] at r <;> cases r
  rcases r with r | ⟨ob, r⟩
  · exact .inl (by rw [rm_ne ne]; exact r)
  · exact .inr ⟨ob, by rw [rm_ne ne]; exact r⟩
theorem dp_rm {K : PySem.W.Frag} {p : Addr} {H : Hp} {xs : List V} {d : PyData} {v : V} (hp : H p = some (.lst xs)) (n : noL d = true) (h : Dp K H v d) : Dp K (rm p H) v d := dp_exT (exT_rm hp) d v n h
theorem dps_rm {K : PySem.W.Frag} {p : Addr} {H : Hp} {xs : List V} {ds : List PyData} {vs : List V} (hp : H p = some (.lst xs)) (n : noLs ds = true) (h : DpAll K H vs ds) : DpAll K (rm p H) vs ds := dps_exT (exT_rm hp) ds vs n h
structure Ow (K : PySem.W.Frag) where
  S : Type
  B : Hp
  p : Addr
  j : Nat
  O : S → List V → Hp → Prop
  hO : ∀ s vs H H', Ex H H' → O s vs H → O s vs H'
structure Fin' {K : PySem.W.Frag} (o : Ow K) (s : o.S) (H : Hp) : Prop where
  b : Ex o.B (rm o.p H)
  ob : ∃ vs, H o.p = some (.lst vs) ∧ o.O s vs (rm o.p H)
structure GC {K : PySem.W.Frag} (o : Ow K) (e : Env') (s : o.S) (σ : L2.St) (H : Hp) : Prop extends Fin' o s H where
  r : RS K (rm o.p H) σ e
  jj : σ[o.j]? = some (some (.ref o.p))
section
variable {K : PySem.W.Frag} {o : Ow K} {e : Env'} {s : o.S} {σ : L2.St} {H H' : Hp}
theorem Fin'.ex (g : Fin' o s H) (x : Ex H H') : Fin' o s H' := by
  obtain ⟨vs, h, q⟩ := g.ob
  exact ⟨g.b.trans (rm_ex x), vs, x _ _ h, o.hO _ _ _ _ (rm_ex x) q⟩
theorem GC.rs (g : GC o e s σ H) : RS K H σ e := g.r.ex rm_le
theorem GC.ex (g : GC o e s σ H) (x : Ex H H') : GC o e s σ H' := ⟨g.toFin'.ex x, g.r.ex (rm_ex x), g.jj⟩
theorem GC.clean {d : PyData} {v : V} (g : Fin' o s H) (n : noL d = true) (h : Dp K H v d) : Dp K (rm o.p H) v d := by
  obtain ⟨vs, e, _⟩ := g.ob
  exact dp_rm e n h
theorem GC.set (g : GC o e s σ H) {i : Nat} {d : PyData} {v : V} (ne : i ≠ o.j) (h : Dp K (rm o.p H) v d) : GC o (e.set i (some d)) s (σ.set i (some v)) H :=
  ⟨g.toFin', g.r.set h i, by rw [List.getElem?_set_ne ne]; exact g.jj⟩
theorem GC.drop (g : GC o e s σ H) (i : Nat) : GC o (e.set i none) s σ H := ⟨g.toFin', g.r.drop i, g.jj⟩
end
def GE {K : PySem.W.Frag} (o : Ow K) (te : TE) (e : Env') (s : o.S) (P : PyData → o.S → Prop) : Prop := ∀ σ H, GC o e s σ H → ∀ Q : VK, (∀ d v s' H', P d s' → GC o e s' σ H' → Ex (rm o.p H) (rm o.p H') → Dp K (rm o.p H') v d → Q v H') → te σ H Q
def GA {K : PySem.W.Frag} (o : Ow K) (ta : TA) (e : Env') (s : o.S) (P : List PyData → o.S → Prop) : Prop := ∀ σ H, GC o e s σ H → ∀ Q : List V → Hp → Prop, (∀ ds vs s' H', P ds s' → GC o e s' σ H' → Ex (rm o.p H) (rm o.p H') → DpAll K (rm o.p H') vs ds → Q vs H') → ta σ H Q
def GT {K : PySem.W.Frag} (o : Ow K) (tt : TT) (e : Env') (s : o.S) (P : Bool → o.S → Prop) : Prop := ∀ σ H, GC o e s σ H → ∀ Q : Bool → Hp → Prop, (∀ b s' H', P b s' → GC o e s' σ H' → Ex (rm o.p H) (rm o.p H') → Q b H') → tt σ H Q
inductive GOut (S : Type) where
  | nx (e : Env') (s : S)
  | rt (d : PyData) (s : S)
def GS {K : PySem.W.Frag} (o : Ow K) (ts : TS) (e : Env') (s : o.S) (P : GOut o.S → Prop) : Prop := ∀ σ H (D : Ends), GC o e s σ H →
  (∀ e' s' σ' H', P (.nx e' s') → GC o e' s' σ' H' → Ex (rm o.p H) (rm o.p H') → D.nx σ' H') → (∀ d v s' H', P (.rt d s') → Fin' o s' H' → Ex (rm o.p H) (rm o.p H') → Dp K H' v d → D.rt v H') → ts D σ H
section
variable {K : PySem.W.Frag} {o : Ow K} {e : Env'} {s : o.S} {ta tb te : TE} {P : PyData → o.S → Prop}
theorem GE.imp {P' : PyData → o.S → Prop} (h : GE o te e s P) (f : ∀ d t, P d t → P' d t) : GE o te e s P' := fun σ H g Q q => h σ H g Q fun d v s' H' p => q d v s' H' (f d s' p)
theorem ge_pure {P' : PyData → Prop} (h : DE K te e P') (k : ∀ d, P' d → noL d = true ∧ P d s) : GE o te e s P := fun σ H g Q q => h σ H g.rs Q fun d v H' p x D => by
  obtain ⟨n, p⟩ := k d p
  have g' := g.ex x
  exact q d v s H' p g' (rm_ex x) (GC.clean g'.toFin' n D)
theorem ge_v {d : PyData} (h : Dv K te e d) (n : noL d = true) (k : P d s) : GE o te e s P := ge_pure h fun z hz => by subst hz; exact ⟨n, k⟩
/-- lists among the names: they do not hold what is changed -/
theorem ge_var {i : Nat} {d : PyData} (h : e[i]? = some (some d)) (k : P d s) : GE o (tVar i) e s P := fun σ H g Q q => by
  obtain ⟨v, hv, D⟩ := g.r.get h
  exact ⟨v, hv, q d v s H k g (Evl.Ex.refl _) D⟩
theorem ge_I0 {f : Int → Int → Int} (ha : GE o ta e s fun d s1 => ∃ i, d = .int i ∧ GE o tb e s1 fun d' s2 => ∃ j, d' = .int j ∧ P (.int (f i j)) s2) : GE o (tOp (rI0 fun i j => .int (f i j)) ta tb) e s P := fun σ H g Q q =>
  ha σ H g _ fun d v s1 H1 ⟨i, e1, p1⟩ g1 x1 D1 => p1 σ H1 g1 _ fun d' w s2 H2 ⟨j, e2, p2⟩ g2 x2 D2 => by
    subst e1 e2
    cases D1
    cases D2
    exact ⟨i, j, rfl, rfl, q _ _ s2 H2 p2 g2 (x1.trans x2) (.int _)⟩
theorem ge_I {C : Int → Int → Prop} {f : Int → Int → Int} (ha : GE o ta e s fun d s1 => ∃ i, d = .int i ∧ GE o tb e s1 fun d' s2 => ∃ j, d' = .int j ∧ C i j ∧ P (.int (f i j)) s2) : GE o (tOp (rI C fun i j => .int (f i j)) ta tb) e s P := fun σ H g Q q =>
  ha σ H g _ fun d v s1 H1 ⟨i, e1, p1⟩ g1 x1 D1 => p1 σ H1 g1 _ fun d' w s2 H2 ⟨j, e2, p2⟩ g2 x2 D2 => by
    subst e1 e2
    cases D1
    cases D2
    exact ⟨i, j, rfl, rfl, p2.1, q _ _ s2 H2 p2.2 g2 (x1.trans x2) (.int _)⟩
theorem ge_eqI (ha : GE o ta e s fun d s1 => ∃ i, d = .int i ∧ GE o tb e s1 fun d' s2 => ∃ j, d' = .int j ∧ P (.bool (decide (i = j))) s2) : GE o (tOp rEq ta tb) e s P := fun σ H g Q q =>
  ha σ H g _ fun d v s1 H1 ⟨i, e1, p1⟩ g1 x1 D1 => p1 σ H1 g1 _ fun d' w s2 H2 ⟨j, e2, p2⟩ g2 x2 D2 => by
    subst e1 e2
    cases D1
    cases D2
    exact ⟨rfl, by rw [dec_vint]; exact q _ _ s2 H2 p2 g2 (x1.trans x2) (.bl _)⟩
theorem ge_neD (ha : GE o ta e s fun d s1 => SeqAt.shaped d = true ∧ GE o tb e s1 fun d' s2 => SeqAt.shaped d' = true ∧ P (.bool (!PyData.eqv d d')) s2) : GE o (tOp (rNeD K) ta tb) e s P := fun σ H g Q q =>
  ha σ H g _ fun d v s1 H1 ⟨e1, p1⟩ g1 x1 D1 => p1 σ H1 g1 _ fun d' w s2 H2 ⟨e2, p2⟩ g2 x2 D2 =>
    ⟨d, d', dp_ex (x2.trans rm_le) _ _ D1, dp_ex rm_le _ _ D2, e1, e2, q _ _ s2 H2 p2 g2 (x1.trans x2) (.bl _)⟩
theorem ge_notIn (ha : GE o ta e s fun d s1 => SeqAt.shaped d = true ∧ GE o tb e s1 fun d' s2 => ∃ ds, d' = .list ds ∧ SeqAt.shaped (.list ds) = true ∧ P (.bool (!ds.any fun z => PyData.eqv z d)) s2) : GE o (tOp (rNotInD K) ta tb) e s P := fun σ H g Q q =>
  ha σ H g _ fun d v s1 H1 ⟨e1, p1⟩ g1 x1 D1 => p1 σ H1 g1 _ fun d' w s2 H2 ⟨ds, e2, e3, p2⟩ g2 x2 D2 => by
    subst e2
    exact ⟨d, ds, dp_ex (x2.trans rm_le) _ _ D1, dp_ex rm_le _ _ D2, e1, e3, q _ _ s2 H2 p2 g2 (x1.trans x2) (.bl _)⟩
theorem ge_ixT {n : Nat} (ha : GE o ta e s fun t s1 => ∃ ds d, t = .tuple ds ∧ ds[n]? = some d ∧ P d s1) : GE o (tOp (rIxT K) ta (tC (.int (n : Int)))) e s P := fun σ H g Q q =>
  ha σ H g _ fun t v s1 H1 ⟨ds, d, e1, hd, p1⟩ g1 x1 D1 => by
    subst e1
    cases D1 with
    | tup hs hall =>
      obtain ⟨w, hw, Dw⟩ := hall.get hd
      exact ⟨_, _, _, w, rfl, rfl, Evl.ex_t rm_le hs, atI_nat hw, q d w s1 H1 p1 g1 x1 Dw⟩
/-- an item of a list, the place reckoned after it -/
theorem ge_ixL (ha : GE o ta e s fun t s1 => ∃ ds, t = .list ds ∧ GE o tb e s1 fun d' s2 => ∃ (n : Nat) (d : PyData), d' = .int (n : Int) ∧ ds[n]? = some d ∧ P d s2) : GE o (tOp (rIxL K) ta tb) e s P := fun σ H g Q q =>
  ha σ H g _ fun t v s1 H1 ⟨ds, e1, p1⟩ g1 x1 D1 => p1 σ H1 g1 _ fun d' w s2 H2 ⟨n, d, e2, hd, p2⟩ g2 x2 D2 => by
    subst e1 e2
    cases D2
    cases D1 with
    | lst hs hall =>
      obtain ⟨w, hw, Dw⟩ := hall.get hd
      exact ⟨_, _, _, w, rfl, rfl, Evl.ex_l (x2.trans rm_le) hs, atI_nat hw, q d w s2 H2 p2 g2 (x1.trans x2) (dp_ex x2 _ _ Dw)⟩
theorem ga_nil {P : List PyData → o.S → Prop} (p : P [] s) : GA o tNil e s P := fun σ H g Q q => q [] [] s H p g (Evl.Ex.refl _) .nil
theorem ga_cons {tr : TA} {P : List PyData → o.S → Prop} (ha : GE o ta e s fun d s1 => GA o tr e s1 fun ds s2 => P (d :: ds) s2) : GA o (tCons ta tr) e s P := fun σ H g Q q =>
  ha σ H g _ fun d v s1 H1 p1 g1 x1 D1 => p1 σ H1 g1 _ fun ds vs s2 H2 p2 g2 x2 D2 => q (d :: ds) (v :: vs) s2 H2 p2 g2 (x1.trans x2) (.cons (dp_ex x2 _ _ D1) D2)
theorem GC.new (g : GC o e s σ H) {q : Addr} {u : HO} (h : H q = none) : GC o e s σ (upd H q u) ∧ rm o.p (upd H q u) = upd (rm o.p H) q u ∧ rm o.p H q = none := by
  obtain ⟨vs, ho, _⟩ := g.ob
  have ne : q ≠ o.p := by rintro rfl; rw [h] at ho; cases ho
  refine ⟨g.ex (ex_new h), funext fun a => ?_, by rw [rm_ne ne, h]⟩
  by_cases ha : a = o.p
  · subst ha; rw [rm_self, upd_ne (Ne.symm ne), rm_self]
  · by_cases hq : a = q
    · subst hq; rw [rm_ne ha, upd_same, upd_same]
    · rw [rm_ne ha, upd_ne hq, upd_ne hq, rm_ne ha]
theorem ge_tup {tr : TA} (ha : GA o tr e s fun ds s1 => ds.length ≤ 1000 ∧ P (.tuple ds) s1) : GE o (tTup tr) e s P := fun σ H g Q q =>
  ha σ H g _ fun ds vs s1 H1 p1 g1 x1 D1 => ⟨by rw [D1.length]; exact Nat.le_trans p1.1 (by decide), fun a hq => by
    obtain ⟨g2, e2, n2⟩ := g1.new (u := .tup vs) hq
    have x2 : Ex (rm o.p H1) (rm o.p (upd H1 a (.tup vs))) := by rw [e2]; exact ex_new n2
    exact q _ _ s1 _ p1.2 g2 (x1.trans x2) (.tup (by rw [e2]; exact SqT.of upd_same) (dps_ex x2 _ _ D1))⟩
theorem ge_lst {tr : TA} (ha : GA o tr e s fun ds s1 => ds.length ≤ 1000 ∧ P (.list ds) s1) : GE o (tLst tr) e s P := fun σ H g Q q =>
  ha σ H g _ fun ds vs s1 H1 p1 g1 x1 D1 => ⟨by rw [D1.length]; exact Nat.le_trans p1.1 (by decide), fun a hq => by
    obtain ⟨g2, e2, n2⟩ := g1.new (u := .lst vs) hq
    have x2 : Ex (rm o.p H1) (rm o.p (upd H1 a (.lst vs))) := by rw [e2]; exact ex_new n2
    exact q _ _ s1 _ p1.2 g2 (x1.trans x2) (.lst (by rw [e2]; exact SqL.of upd_same) (dps_ex x2 _ _ D1))⟩
theorem ge_call {α : Type} {n : Nat} {enc : α → List PyData} {pre : α → Prop} {post : α → PyData → Prop} {E : XK} {tr : TA}
    (ha : GA o tr e s fun ds s1 => ∃ x, ds = enc x ∧ ds.length = n ∧ pre x ∧ ∀ z, post x z → noL z = true ∧ P z s1) : GE o (tCall (spA K n enc pre post) [] E tr) e s P := fun σ H g Q q =>
  ha σ H g _ fun ds vs s1 H1 ⟨x, e1, hl, hp, k⟩ g1 x1 D1 => by
    subst e1
    refine ⟨x, hl, by rw [List.append_nil]; exact dps_ex rm_le _ _ D1, hp, fun d v H' p y D => ?_⟩
    obtain ⟨n, p⟩ := k d p
    exact q d v s1 H' p (g1.ex y) (x1.trans (rm_ex y)) (GC.clean (g1.ex y).toFin' n D)
/-! tests -/
theorem gt_pure {tt : TT} {b : Bool} {P : Bool → o.S → Prop} (h : DT K tt e b) (k : P b s) : GT o tt e s P := fun σ H g Q q => h σ H g.rs Q fun H' x => q b s H' k (g.ex x) (rm_ex x)
theorem gt_test {P : Bool → o.S → Prop} (h : GE o te e s fun d s1 => ∃ b, d = .bool b ∧ P b s1) : GT o (tTest te) e s P := fun σ H g Q q => h σ H g _ fun d v s1 H1 ⟨b, e1, p⟩ g1 x D => by
  subst e1
  cases D
  exact ⟨b, rfl, q b s1 H1 p g1 x⟩
theorem gt_B {P : Bool → o.S → Prop} (h : GE o te e s fun d s1 => ∃ b, d = .bool b ∧ P b s1) : GT o (tB te) e s P := fun σ H g Q q => h σ H g _ fun d v s1 H1 ⟨b, e1, p⟩ g1 x D => by
  subst e1
  cases D
  exact ⟨b, rfl, q b s1 H1 p g1 x⟩
theorem gt_or {t u : TT} {P : Bool → o.S → Prop} (h : GT o t e s fun b s1 => match b with | true => P true s1 | false => GT o u e s1 P) : GT o (tOr t u) e s P := fun σ H g Q q => h σ H g _ fun b s1 H1 p g1 x => by
  cases b with
  | true => exact q true s1 H1 p g1 x
  | false => exact p σ H1 g1 Q fun b2 s2 H2 p2 g2 y => q b2 s2 H2 p2 g2 (x.trans y)
theorem gt_and {t u : TT} {P : Bool → o.S → Prop} (h : GT o t e s fun b s1 => match b with | false => P false s1 | true => GT o u e s1 P) : GT o (tAnd t u) e s P := fun σ H g Q q => h σ H g _ fun b s1 H1 p g1 x => by
  cases b with
  | false => exact q false s1 H1 p g1 x
  | true => exact p σ H1 g1 Q fun b2 s2 H2 p2 g2 y => q b2 s2 H2 p2 g2 (x.trans y)
end
/-! statements -/
section
variable {K : PySem.W.Frag} {o : Ow K} {e : Env'} {s : o.S} {te : TE} {t u : TS} {P : GOut o.S → Prop}
def thenG (o : Ow K) (u : TS) (P : GOut o.S → Prop) : GOut o.S → Prop
  | .nx e s => GS o u e s P
  | .rt d s => P (.rt d s)
theorem gs_then {e : Env'} (h : GS o u e s P) : thenG o u P (.nx e s) := h
theorem gs_seq (h : GS o t e s (thenG o u P)) : GS o (tSeq t u) e s P := fun σ H D g n k =>
  h σ H { D with nx := u D } g (fun e1 s1 σ1 H1 p1 g1 x1 => p1 σ1 H1 D g1 (fun e2 s2 σ2 H2 p2 g2 x2 => n e2 s2 σ2 H2 p2 g2 (x1.trans x2)) fun d v s2 H2 p2 f2 x2 D2 => k d v s2 H2 p2 f2 (x1.trans x2) D2) k
theorem gs_nil (p : P (.nx e s)) : GS o tNext e s P := fun σ H D g n k => n e s σ H p g (Evl.Ex.refl _)
theorem gs_set {i : Nat} (ne : i ≠ o.j) (h : GE o te e s fun d s1 => P (.nx (e.set i (some d)) s1)) : GS o (tAsg te (gName i)) e s P := fun σ H D g n k =>
  h σ H g _ fun d v s1 H1 p g1 x D1 => n _ s1 _ H1 p (g1.set ne D1) x
theorem gs_set' {i : Nat} {d : PyData} (ne : i ≠ o.j) (h : Dv K te e d) (nl : noL d = true) (k : GS o u (e.set i (some d)) s P) : GS o (tSeq (tAsg te (gName i)) u) e s P := gs_seq (gs_set ne (ge_v h nl k))
theorem gs_sete {i : Nat} {d : PyData} (ne : i ≠ o.j) (h : Dv K te e d) (nl : noL d = true) (k : P (.nx (e.set i (some d)) s)) : GS o (tAsg te (gName i)) e s P := gs_set ne (ge_v h nl k)
theorem gs_ret (h : GE o te e s fun d s1 => P (.rt d s1)) : GS o (tRet te) e s P := fun σ H D g n k => h σ H g _ fun d v s1 H1 p g1 x D1 => k d v s1 H1 p g1.toFin' x (dp_ex rm_le _ _ D1)
/-- a list returned, new -/
theorem gs_retX (h : ∀ σ H, GC o e s σ H → ∀ Q : VK, (∀ d v H', P (.rt d s) → Ex H H' → Dp K H' v d → Q v H') → te σ H Q) : GS o (tRet te) e s P := fun σ H D g n k => h σ H g _ fun d v H1 p x D1 => k d v s H1 p (g.toFin'.ex x) (rm_ex x) D1
theorem gs_if {tt : TT} {b : Bool} (h : DT K tt e b) (h1 : b = true → GS o t e s P) (h2 : b = false → GS o u e s P) : GS o (tIfS tt t u) e s P := fun σ H D g n k =>
  h σ H g.rs _ fun H1 x => by
    cases b with
    | true => exact h1 rfl σ H1 D (g.ex x) (fun e' s' σ' H' p g' x' => n e' s' σ' H' p g' ((rm_ex x).trans x')) fun d v s' H' p g' x' D' => k d v s' H' p g' ((rm_ex x).trans x') D'
    | false => exact h2 rfl σ H1 D (g.ex x) (fun e' s' σ' H' p g' x' => n e' s' σ' H' p g' ((rm_ex x).trans x')) fun d v s' H' p g' x' D' => k d v s' H' p g' ((rm_ex x).trans x') D'
theorem gs_ifG {tt : TT} (h : GT o tt e s fun b s1 => match b with | true => GS o t e s1 P | false => GS o u e s1 P) : GS o (tIfS tt t u) e s P := fun σ H D g n k =>
  h σ H g _ fun b s1 H1 p g1 x => by
    cases b with
    | true => exact p σ H1 D g1 (fun e' s' σ' H' p g' x' => n e' s' σ' H' p g' (x.trans x')) fun d v s' H' p g' x' D' => k d v s' H' p g' (x.trans x') D'
    | false => exact p σ H1 D g1 (fun e' s' σ' H' p g' x' => n e' s' σ' H' p g' (x.trans x')) fun d v s' H' p g' x' D' => k d v s' H' p g' (x.trans x') D'
theorem gs_if1 {tt : TT} {b : Bool} (h : DT K tt e b) (h1 : b = true → GS o t e s (thenG o u P)) (h2 : b = false → GS o u e s P) : GS o (tSeq (tIfS tt t tNext) u) e s P := gs_seq (gs_if h h1 fun e => gs_nil (h2 e))
theorem gs_while {c : TT} {tb : TS} (W : Env' → o.S → Prop) (μ : Env' → o.S → Nat) (h0 : W e s)
    (hs : ∀ e s, W e s → ∃ b, DT K c e b ∧ (b = true → GS o tb e s fun r => match r with | .nx e' s' => W e' s' ∧ μ e' s' < μ e s | .rt d s' => P (.rt d s')) ∧ (b = false → P (.nx e s))) : GS o (tWhile c tb) e s P := fun σ H D g k1 k2 => by
  refine ⟨fun m σ' H' => ∃ e' s', m = μ e' s' ∧ W e' s' ∧ Ex (rm o.p H) (rm o.p H') ∧ GC o e' s' σ' H', ⟨_, e, s, rfl, h0, Evl.Ex.refl _, g⟩, ?_⟩
  rintro m σ1 H1 ⟨e1, s1, rfl, w, x1, g1⟩
  obtain ⟨b, hb, ht, hf⟩ := hs e1 s1 w
  refine hb σ1 H1 g1.rs _ fun H2 x2 => ?_
  have y2 := x1.trans (rm_ex (p := o.p) x2)
  cases b with
  | true =>
    refine iteT ⟨fun σ' H' => ∃ m', m' < μ e1 s1 ∧ ∃ e' s', m' = μ e' s' ∧ W e' s' ∧ Ex (rm o.p H) (rm o.p H') ∧ GC o e' s' σ' H', fun σ' H' z => z, ?_⟩
    exact ht rfl σ1 H2 _ (g1.ex x2) (fun e' s' σ' H' p g' x => ⟨_, p.2, e', s', rfl, p.1, y2.trans x, g'⟩) fun d v s' H' p g' x D' => k2 d v s' H' p g' (y2.trans x) D'
  | false => exact iteF (k1 e1 s1 σ1 H2 (hf rfl) (g1.ex x2) y2)
theorem gs_range {lo : Int} {n : Nat} {i : Nat} {tb : TS} {wi : TI} (ne : i ≠ o.j) (W : Nat → Env' → o.S → Prop) (hi : ∀ σ H, GC o e s σ H → ∀ R : It → Hp → Prop, (∀ s1 H', W 0 e s1 → GC o e s1 σ H' → Ex (rm o.p H) (rm o.p H') → R (Itr lo n) H') → wi σ H R)
    (hs : ∀ k e s, k < n → W k e s → GS o tb (e.set i (some (.int (lo + (k : Int))))) s fun r => match r with | .nx e' s' => W (k + 1) e' s' | .rt d s' => P (.rt d s')) (hd : ∀ e s, W n e s → P (.nx e s)) : GS o (tFor wi (gName i) tb) e s P := fun σ H D g k1 k2 => by
  refine hi σ H g _ fun s1 H1 w1 g1 x1 => ?_
  refine for_range (fun k σ' H' => ∃ e s, W k e s ∧ Ex (rm o.p H) (rm o.p H') ∧ GC o e s σ' H') ⟨e, s1, w1, x1, g1⟩ ?_ ?_
  · rintro k σ2 H2 hk ⟨e, s, w, x2, g2⟩
    exact hs k e s hk w _ H2 _ (g2.set ne (.int _)) (fun e' s' σ' H' p g' x => ⟨e', s', p, x2.trans x, g'⟩) fun d v s' H' p g' x D' => k2 d v s' H' p g' (x2.trans x) D'
  · rintro σ2 H2 ⟨e, s, w, x2, g2⟩
    exact k1 e s σ2 H2 (hd e s w) g2 x2
/-- for over a list display -/
theorem gs_forL {tx : TE} {i : Nat} {tb : TS} (ne : i ≠ o.j) (ds : List PyData) (W : Nat → Env' → o.S → Prop) (hx : GE o tx e s fun d s1 => d = .list ds ∧ W 0 e s1)
    (hs : ∀ k d e s, ds[k]? = some d → W k e s → GS o tb (e.set i (some d)) s fun r => match r with | .nx e' s' => W (k + 1) e' s' | .rt d s' => P (.rt d s')) (hd : ∀ e s, W ds.length e s → P (.nx e s)) : GS o (tFor (iList K tx) (gName i) tb) e s P := fun σ H D g k1 k2 => by
  refine hx σ H g _ fun d v s1 H1 ⟨e1, w1⟩ g1 x1 D1 => ?_
  subst e1
  cases D1 with
  | lst hS hall =>
    rename_i a xs
    refine ⟨a, rfl, ⟨xs, Evl.ex_l rm_le hS⟩, for_list (K := K) (a := a) (xs := xs) (fun k σ' H' => ∃ e s, W k e s ∧ Ex (rm o.p H1) (rm o.p H') ∧ GC o e s σ' H') ⟨e, s1, w1, Evl.Ex.refl _, g1⟩ (fun k σ' H' _ ⟨e, s, w, x, g'⟩ => Evl.ex_l (x.trans rm_le) hS) ?_ ?_⟩
    · rintro k x σ2 H2 hk ⟨e, s, w, x2, g2⟩
      have hlt : k < ds.length := by
        rw [← hall.length]
        exact (List.getElem?_eq_some_iff.mp hk).1
      obtain ⟨v, hv, Dv'⟩ := hall.get (List.getElem?_eq_getElem hlt)
      have ev : x = v := Option.some.inj (hk.symm.trans hv)
      subst ev
      exact hs k ds[k] e s (List.getElem?_eq_getElem hlt) w _ H2 _ (g2.set ne (dp_ex x2 _ _ Dv')) (fun e' s' σ' H' p g' x => ⟨e', s', p, x2.trans x, g'⟩) fun d v s' H' p g' x D' => k2 d v s' H' p g' ((x1.trans x2).trans x) D'
    · rintro σ2 H2 ⟨e, s, w, x2, g2⟩
      exact k1 e s σ2 H2 (hd e s (by rw [← hall.length]; exact w)) g2 (x1.trans x2)
end
/-! ### an own list of data -/
def snoc (l : List PyData) (d : PyData) : List PyData := l ++ [d]
def OL (K : PySem.W.Frag) (B : Hp) (p : Addr) (j : Nat) : Ow K where
  S := List PyData
  B := B
  p := p
  j := j
  O := fun ds vs H => DpAll K H vs ds
  hO := fun s vs H H' x h => dps_ex x _ _ h
section
variable {K : PySem.W.Frag} {B : Hp} {p : Addr} {j : Nat} {e : Env'} {ds : List PyData} {te : TE} {u : TS}
theorem gs_app {P : GOut (List PyData) → Prop} (h : GE (OL K B p j) te e ds fun d s1 => List.length (α := PyData) s1 < 1000000 ∧ P (.nx e (snoc s1 d))) : GS (OL K B p j) (tDrop (tBM K "list" rAppend (tVar j) (tCons te tNil))) e ds P := fun σ H D g n k => by
  obtain ⟨vs0, h0, q0⟩ := g.ob
  refine ⟨.ref p, g.jj, .inl ⟨rfl, _, SqL.of h0⟩, ?_⟩
  refine h σ H g _ fun d v s1 H1 p1 g1 x1 D1 => ?_
  obtain ⟨vs1, h1, q1⟩ := g1.ob
  have hl : vs1.length < 1000000 := by rw [DpAll.length q1]; exact p1.1
  refine ⟨p, vs1, v, rfl, rfl, h1, Nat.lt_of_lt_of_le hl (by decide), ?_⟩
  have er : rm p (upd H1 p (.lst (vs1 ++ [v]))) = rm p H1 := rm_upd
  have er' : rm (OL K B p j).p (upd H1 p (.lst (vs1 ++ [v]))) = rm p H1 := rm_upd
  refine n e (snoc s1 d) σ _ p1.2 ⟨⟨by rw [er']; exact g1.b, vs1 ++ [v], upd_same, by rw [er']; exact DpAll.append q1 D1⟩, by rw [er']; exact g1.r, g1.jj⟩ (by rw [er']; exact x1)
/-- .. begun -/
theorem ds_own {P : Out → Prop} {ta : TA} (hj : j < e.length) (h : DA K ta e fun ds => ds.length ≤ 1000 ∧ ∀ B p, GS (OL K B p j) u (e.set j none) ds fun r => match r with | .rt d _ => P (.rt d) | .nx _ _ => False) : DS K (tSeq (tAsg (tLst ta) (gName j)) u) e P := fun σ H D r n k => by
  refine h σ H r _ fun ds vs H1 p1 x1 D1 => ⟨by rw [D1.length]; exact Nat.le_trans p1.1 (by decide), fun a ha => ?_⟩
  have er : rm a (upd H1 a (.lst vs)) = H1 := rm_upd_new ha
  have hσ : σ.length = e.length := by
    clear h n k p1 D1 x1 er hj
    induction r with
    | nil => rfl
    | no _ ih => simp [ih]
    | yes _ _ ih => simp [ih]
  have er' : rm (OL K H1 a j).p (upd H1 a (.lst vs)) = H1 := er
  refine p1.2 H1 a _ _ D ⟨⟨by rw [er']; exact Evl.Ex.refl _, vs, upd_same, by rw [er']; exact D1⟩, ?_, ?_⟩ ?_ ?_
  · rw [er']
    have r1 := r.ex x1
    clear h n k p1 D1 er er' hσ ha
    have : ∀ {σ : L2.St} {e : Env'} (j : Nat) (v : Option V), RS K H1 σ e → RS K H1 (σ.set j v) (e.set j none) := by
      intro σ e j v r
      induction r generalizing j with
      | nil => exact .nil
      | no r ih => cases j with
        | zero => exact .no r
        | succ j => exact .no (ih j)
      | yes h r ih => cases j with
        | zero => exact .no r
        | succ j => exact .yes h (ih j)
    exact this j _ r1
  · exact List.getElem?_set_self (by rw [hσ]; exact hj)
  · intro e' s' σ' H' pf
    exact pf.elim
  · intro d v s' H' pf f x D'
    have x2 : Ex H1 (rm a H') := f.b
    exact k d v H' pf (x1.trans (x2.trans rm_le)) D'
/-- .. returned -/
theorem gs_retOwn {P : GOut (List PyData) → Prop} (h : P (.rt (.list ds) ds)) : GS (OL K B p j) (tRet (tVar j)) e ds P := fun σ H D g n k => by
  obtain ⟨vs0, h0, q0⟩ := g.ob
  exact ⟨.ref p, g.jj, k _ _ ds H h g.toFin' (Evl.Ex.refl _) (.lst (SqL.of h0) (dps_ex rm_le _ _ q0))⟩
end
end K19
/-! K19W4 -/
set_option Elab.async false
set_option linter.all false
set_option maxRecDepth 100000
set_option maxHeartbeats 4000000
namespace K19
open PySem PySem.Spec PyProof.Rows L2
open Evl (Ex)
local macro_rules | `(tactic| walk_at "bd") => `(tactic| first | assumption | exact Bd.lit (n := 4) rfl | exact Bd.lit (n := 32) rfl | (apply Bd.mul <;> walk_at "bd") | (apply Bd.add <;> walk_at "bd") | (apply Bd.sub <;> walk_at "bd") | (apply Bd.neg; walk_at "bd") | (apply Bd.fdiv; walk_at "bd"))
local macro_rules | `(tactic| walk_at "cm") => `(tactic| (apply cm_of; walk_at "bd"; walk_at "bd"; first | decide | omega))
local macro_rules | `(tactic| walk_at "dv") => `(tactic| first | exact dv_var rfl | exact dv_int | exact dv_str | exact dv_bl | assumption | (apply dv_ix0; walk_at "dv") | (apply dv_ix1; walk_at "dv") | (apply dv_ix2; walk_at "dv") | (apply dv_ix3; walk_at "dv") | (apply dv_add <;> walk_at "dv") | (apply dv_sub <;> walk_at "dv") | (apply dv_mul; walk_at "dv"; walk_at "dv"; walk_at "cm") | (apply dv_neg; walk_at "dv") | (apply dv_lt <;> walk_at "dv") | (apply dv_le <;> walk_at "dv") | (apply dv_gt <;> walk_at "dv") | (apply dv_ge <;> walk_at "dv") | (apply dv_eqI <;> walk_at "dv") | (apply dv_neI <;> walk_at "dv") | (apply dv_t2 <;> walk_at "dv") | (apply dv_t3 <;> walk_at "dv") | (apply dv_t4 <;> walk_at "dv") | (apply dv_abs; walk_at "dv") | (apply dv_intI; walk_at "dv"))
local macro_rules | `(tactic| walk_at "p2") => `(tactic| (apply ds_p2; walk_at "dv"; walk_at "dv"))
local macro_rules | `(tactic| walk_at "p2e") => `(tactic| (apply ds_p2e; walk_at "dv"; walk_at "dv"))
local macro_rules | `(tactic| walk_at "p3") => `(tactic| (apply ds_p3; walk_at "dv"; walk_at "dv"; walk_at "dv"))
local macro_rules | `(tactic| walk_at "set") => `(tactic| (apply ds_set'; walk_at "dv"))
local macro_rules | `(tactic| walk_at "sete") => `(tactic| (apply ds_sete; walk_at "dv"))
local macro_rules | `(tactic| walk_at "ret") => `(tactic| (apply ds_ret'; walk_at "dv"))
section
variable {P : Program} {w : World} {K : PySem.W.Frag} {mg : Str → Option Value} {base : Heap}

theorem ds_joinE {env : Env'} {t u : TS} {P : Out → Prop} (E : Env') (h : DS K t env fun o => o = .nx E) (k : DS K u E P) : DS K (tSeq t u) env P := ds_seq (fun σ H D r n q => h σ H D r (fun e σ' H' p x r' => by
  cases p
  exact n _ σ' H' k x r') fun d v H' p x D' => by cases p)
def wd (f : Fm) : Int := rt (disc f)
abbrev spIsReducedIndefinite (K : PySem.W.Frag) : Sp := spA K 1 (fun f : Fm => [fmD f]) (fun f => BdF 600 f ∧ 0 ≤ disc f ∧ disc f < 400) fun f z => z = .bool (redIB (wd f) f)
theorem okIsReducedIndefinite (T : Tx K mg) : FnOk P w K mg base CX0 2 T.xIsReducedIndefinite.f T.xIsReducedIndefinite.fd ["form"] (spIsReducedIndefinite K) := by
  have GFloorRoot : FnOk P w K mg base CX0 1 T.xFloorRoot.f T.xFloorRoot.fd ["n"] (spFloorRoot K) := okFloorRoot T
  have GDiscriminant : FnOk P w K mg base CX0 1 T.xDiscriminant.f T.xDiscriminant.fd ["form"] (spDiscriminant K) := okDiscriminant T
  refine fn_dataA T.xIsReducedIndefinite.F scIsReducedIndefinite rfl fun cdv A outer s H E hr => ⟨_, (pss_cons (ps_asg (pv 0) (pg_tup rfl (pgs_cons (pg_name (i := 1) scIsReducedIndefinite.nd rfl (Or.inl rfl)) (pgs_cons (pg_name (i := 2) scIsReducedIndefinite.nd rfl (Or.inl rfl)) (pgs_cons (pg_name (i := 3) scIsReducedIndefinite.nd rfl (Or.inl rfl)) pgs_nil))))) (pss_cons (ps_set (i := 4) scIsReducedIndefinite.nd rfl (Or.inl rfl) (pe_call GFloorRoot (hr.mono (by decide)) (by rfl) T.xFloorRoot.g T.xFloorRoot.F.kp T.xFloorRoot.b .nil pass0 (pa_cons (pe_call GDiscriminant (hr.mono (by decide)) (by rfl) T.xDiscriminant.g T.xDiscriminant.F.kp T.xDiscriminant.b .nil pass0 (pa_cons (pv 0) pa_nil)) pa_nil))) (pss_one (ps_ret (pe_and (pe_chain op_lt op_le pe_int (pv 2) (pv 4)) (pe_one (pe_chain op_lt op_le (pe_op op_sub (pv 4) (pv 2)) (pe_op op_mulW pe_int (pe_callB call_abs (by rfl) T.abs (by decide +kernel) (pa_cons (pv 1) pa_nil))) (pe_op op_add (pv 4) (pv 2))))))))), fun f hp => ?_⟩
  obtain ⟨bf, h1, h2⟩ := hp
  refine ds_u3 (Dv.to (dv_var rfl) ⟨_, _, _, rfl, ?_⟩)
  refine ds_set' (d := .int (wd f)) (dv_callA (disc f) rfl ⟨h1, Int.lt_trans h2 (by decide)⟩ (das1 (dv_callA f rfl bf (das1 (dv_var rfl)) fun z h => h)) fun z h => h) ?_
  refine ds_ret' (dv_and (dv_chain dv_int (dv_var rfl) (dv_var rfl)) fun _ => dv_chain (dv_sub (dv_var rfl) (dv_var rfl)) (dv_mul dv_int (dv_abs (dv_var rfl)) ?_) (dv_add (dv_var rfl) (dv_var rfl))) ?_
  · refine cm_of (a := 4) (b := 600) (Bd.lit (n := 4) rfl) ?_ (by decide)
    have := bf.1
    unfold Bd at *
    omega
  · rfl
abbrev spStepOf (K : PySem.W.Frag) : Sp := spA K 1 (fun f : Fm => [fmD f]) (fun f => BdF 600 f ∧ 0 ≤ disc f ∧ disc f < 400 ∧ f.c ≠ 0) fun f z => z = mxD (stepM (wd f) f)
theorem okStepOf (T : Tx K mg) : FnOk P w K mg base CX0 2 T.xStepOf.f T.xStepOf.fd ["form"] (spStepOf K) := by
  have GFloorRoot : FnOk P w K mg base CX0 1 T.xFloorRoot.f T.xFloorRoot.fd ["n"] (spFloorRoot K) := okFloorRoot T
  have GDiscriminant : FnOk P w K mg base CX0 1 T.xDiscriminant.f T.xDiscriminant.fd ["form"] (spDiscriminant K) := okDiscriminant T
  refine fn_dataA T.xStepOf.F scStepOf rfl fun cdv A outer s H E hr => ⟨_, (pss_cons (ps_asg (pv 0) (pg_tup rfl (pgs_cons (pg_name (i := 1) scStepOf.nd rfl (Or.inl rfl)) (pgs_cons (pg_name (i := 2) scStepOf.nd rfl (Or.inl rfl)) (pgs_cons (pg_name (i := 3) scStepOf.nd rfl (Or.inl rfl)) pgs_nil))))) (pss_cons (ps_set (i := 4) scStepOf.nd rfl (Or.inl rfl) (pe_call GFloorRoot (hr.mono (by decide)) (by rfl) T.xFloorRoot.g T.xFloorRoot.F.kp T.xFloorRoot.b .nil pass0 (pa_cons (pe_call GDiscriminant (hr.mono (by decide)) (by rfl) T.xDiscriminant.g T.xDiscriminant.F.kp T.xDiscriminant.b .nil pass0 (pa_cons (pv 0) pa_nil)) pa_nil))) (pss_cons (ps_if (pt_cmpR op_gt (pe_callB call_abs (by rfl) T.abs (by decide +kernel) (pa_cons (pv 3) pa_nil)) (pv 4) (nomark _)) (pss_one (ps_set (i := 5) scStepOf.nd rfl (Or.inl rfl) (pe_callB call_abs (by rfl) T.abs (by decide +kernel) (pa_cons (pv 3) pa_nil)))) (pss_one (ps_set (i := 5) scStepOf.nd rfl (Or.inl rfl) (pv 4)))) (pss_cons (ps_set (i := 6) scStepOf.nd rfl (Or.inl rfl) (pe_op op_sub (pv 5) (pe_op op_modN (pe_op op_add (pv 5) (pv 2)) (pe_op op_mulW pe_int (pe_callB call_abs (by rfl) T.abs (by decide +kernel) (pa_cons (pv 3) pa_nil)))))) (pss_one (ps_ret (pe_tup (pa_cons pe_int (pa_cons (pe_un un_neg pe_int) (pa_cons pe_int (pa_cons (pe_op op_fdivZ (pe_op op_add (pv 2) (pv 6)) (pe_op op_mulW pe_int (pv 3))) pa_nil))))))))))), fun f hp => ?_⟩
  obtain ⟨bf, h1, h2, hc⟩ := hp
  have bc : Bd 600 (f.c.natAbs : Int) := by have := bf.2.2; unfold Bd at *; omega
  refine ds_u3 (Dv.to (dv_var rfl) ⟨_, _, _, rfl, ?_⟩)
  refine ds_set' (d := .int (wd f)) (dv_callA (disc f) rfl ⟨h1, Int.lt_trans h2 (by decide)⟩ (das1 (dv_callA f rfl bf (das1 (dv_var rfl)) fun z h => h)) fun z h => h) ?_
  refine ds_joinE [some (fmD f), some (.int f.a), some (.int f.b), some (.int f.c), some (.int (wd f)), some (.int (topI (wd f) f)), none] (ds_if (dt_test (dv_gt (dv_abs (dv_var rfl)) (dv_var rfl))) (fun h => ?_) fun h => ?_) ?_
  · have h := of_decide_eq_true h
    refine ds_sete (dv_abs (dv_var rfl)) ?_
    unfold topI
    rw [if_pos h]
    rfl
  · have h := of_decide_eq_false h
    refine ds_sete (dv_var rfl) ?_
    unfold topI
    rw [if_neg h]
    rfl
  · refine ds_set' (d := .int (midI (wd f) f)) (dv_sub (dv_var rfl) (dv_mod (dv_add (dv_var rfl) (dv_var rfl)) (dv_mul dv_int (dv_abs (dv_var rfl)) (cm_of (a := 4) (b := 600) (Bd.lit (n := 4) rfl) bc (by decide))) (by omega))) ?_
    refine ds_ret' (dv_t4 dv_int (dv_neg dv_int) dv_int (dv_div (dv_add (dv_var rfl) (dv_var rfl)) (dv_mul dv_int (dv_var rfl) (cm_of (a := 4) (b := 600) (Bd.lit (n := 4) rfl) bf.2.2 (by decide))) (cd_of (b := 604) (by omega) (Bd.mul (Bd.lit (n := 4) (i := 2) rfl) bf.2.2) (by decide)))) ?_
    rfl
/-- indefinite forms of a small discriminant -/
structure IndOk (f : Fm) : Prop where
  b : BdF 250 f
  ns : NSq (disc f)
  lo : 4 < disc f
  hi : disc f < 400
theorem IndOk.root {f : Fm} (h : IndOk f) : RootOk (wd f) (disc f) := by
  obtain ⟨a, b, c, d⟩ := rt_ok (n := disc f) (by have := h.lo; omega) h.hi
  refine ⟨c, d, ?_⟩
  have l := h.lo
  unfold wd
  apply Int.not_lt.mp; intro g
  have : rt (disc f) + 1 ≤ 2 := by omega
  have k := sq_le (x := rt (disc f) + 1) (y := 2) (by omega) (by omega) this
  omega
theorem IndOk.w20 {f : Fm} (h : IndOk f) : wd f ≤ 20 := (rt_ok (n := disc f) (by have := h.lo; omega) h.hi).2.1
theorem IndOk.next {f : Fm} (h : IndOk f) : IndOk (rho (wd f) f) ∧ wd (rho (wd f) f) = wd f ∧ Bd 252 (stepN (wd f) f) := by
  have e := rho_disc (wd f) f
  obtain ⟨b, k⟩ := rho_bd h.root h.w20 h.ns h.b.1 h.b.2.1 h.b.2.2
  exact ⟨⟨b, by rw [e]; exact h.ns, by rw [e]; exact h.lo, by rw [e]; exact h.hi⟩, congrArg rt e, k⟩
/-- what a reduction is to give -/
structure RI (f g : Fm) (m : Mx) (k : Nat) : Prop where
  ok : IndOk g
  e : act f m = g
  d : det m = 1
  b : BdM (10 + 254 * k) m
theorem RI.wdEq {f g : Fm} {m : Mx} {k : Nat} (h : RI f g m k) : wd g = wd f := by unfold wd; rw [← h.e, disc_act, h.d]; congr 1; omega
theorem RI.step {f g : Fm} {m : Mx} {k : Nat} (h : RI f g m k) : RI f (rho (wd g) g) (mul m (stepM (wd g) g)) (k + 1) := by
  obtain ⟨a, b, c⟩ := h.ok.next
  refine ⟨a, by rw [← act_mul, h.e]; rfl, by rw [det_mul, h.d, stepM_det]; rfl, ?_⟩
  obtain ⟨b1, b2, b3, b4⟩ := h.b
  have e1 : mul m (stepM (wd g) g) = ⟨m.q, -m.p + m.q * stepN (wd g) g, m.s, -m.r + m.s * stepN (wd g) g⟩ := by
    apply Mx.ext' <;> simp only [mul, stepM] <;> omega
  rw [e1]
  refine ⟨b2.mono (by omega), ?_, b4.mono (by omega), ?_⟩
  · exact (Bd.add (b1.neg) (Bd.mul b2 c)).mono (by omega)
  · exact (Bd.add (b3.neg) (Bd.mul b4 c)).mono (by omega)
theorem nuI_le {f : Fm} (h : IndOk f) : nuI (wd f) f ≤ 253 := by
  have b := h.b.2.2
  unfold nuI
  split
  · omega
  · split
    · omega
    · split
      · omega
      · rename_i hh
        have hc := c_ne h.ns
        have : f.c.natAbs.log2 < 250 := (Nat.log2_lt (by omega)).mpr b
        omega
theorem bdStep {w : Int} {f : Fm} (h : Bd 252 (stepN w f)) : BdM 252 (stepM w f) := ⟨(Bd.lit (n := 4) rfl).mono (by decide), (Bd.lit (n := 4) rfl).mono (by decide), (Bd.lit (n := 4) rfl).mono (by decide), h⟩
theorem bdOne : BdM 4 one := ⟨Bd.lit rfl, Bd.lit rfl, Bd.lit rfl, Bd.lit rfl⟩
def ResI (f : Fm) (z : PyData) : Prop := ∃ R m, z = .tuple [fmD R, mxD m] ∧ IndOk R ∧ RedI (wd f) R ∧ det m = 1 ∧ act f m = R ∧ BdM 65000 m
abbrev spReduceIndefinite (K : PySem.W.Frag) : Sp := spA K 1 (fun f : Fm => [fmD f]) IndOk ResI
theorem okReduceIndefinite (T : Tx K mg) : FnOk P w K mg base CX0 3 T.xReduceIndefinite.f T.xReduceIndefinite.fd ["form"] (spReduceIndefinite K) := by
  have GIsReducedIndefinite : FnOk P w K mg base CX0 2 T.xIsReducedIndefinite.f T.xIsReducedIndefinite.fd ["form"] (spIsReducedIndefinite K) := okIsReducedIndefinite T
  have GMultiply : FnOk P w K mg base CX0 1 T.xMultiply.f T.xMultiply.fd ["m", "n"] (spMultiply K) := okMultiply T
  have GAct : FnOk P w K mg base CX0 2 T.xAct.f T.xAct.fd ["form", "m"] (spAct K) := okAct T
  have GStepOf : FnOk P w K mg base CX0 2 T.xStepOf.f T.xStepOf.fd ["form"] (spStepOf K) := okStepOf T
  refine fn_dataA T.xReduceIndefinite.F scReduceIndefinite rfl fun cdv A outer s H E hr => ⟨_, (pss_cons (ps_set (i := 1) scReduceIndefinite.nd rfl (Or.inl rfl) (pe_glob (v := .ref T.unitA) rfl T.unit rfl)) (pss_cons (ps_while PassesOwn.never (pt_not (pt_val (pe_call GIsReducedIndefinite (hr.mono (by decide)) (by rfl) T.xIsReducedIndefinite.g T.xIsReducedIndefinite.F.kp T.xIsReducedIndefinite.b .nil pass0 (pa_cons (pv 0) pa_nil)))) (pss_cons (ps_set (i := 2) scReduceIndefinite.nd rfl (Or.inl rfl) (pe_call GStepOf (hr.mono (by decide)) (by rfl) T.xStepOf.g T.xStepOf.F.kp T.xStepOf.b .nil pass0 (pa_cons (pv 0) pa_nil))) (pss_cons (ps_set (i := 0) scReduceIndefinite.nd rfl (Or.inl rfl) (pe_call GAct (hr.mono (by decide)) (by rfl) T.xAct.g T.xAct.F.kp T.xAct.b .nil pass0 (pa_cons (pv 0) (pa_cons (pv 2) pa_nil)))) (pss_one (ps_set (i := 1) scReduceIndefinite.nd rfl (Or.inl rfl) (pe_call GMultiply (hr.mono (by decide)) (by rfl) T.xMultiply.g T.xMultiply.F.kp T.xMultiply.b .nil pass0 (pa_cons (pv 1) (pa_cons (pv 2) pa_nil)))))))) (pss_one (ps_ret (pe_tup (pa_cons (pv 0) (pa_cons (pv 1) pa_nil))))))), fun f hp => ?_⟩
  refine ds_set' (dv_ref (d := mxD one) fun H => .tup (T.unitT H) (.cons (.int 1) (.cons (.int 0) (.cons (.int 0) (.cons (.int 1) .nil))))) ?_
  refine ds_seq (ds_while (fun e => ∃ g m x2 k, e = [some (fmD g), some (mxD m), x2] ∧ RI f g m k ∧ k + nuI (wd f) g ≤ 253) (fun e => nuI (wd f) (formI 0 e)) ⟨f, one, none, 0, rfl, ⟨hp, act_one f, by decide, bdOne.mono (by decide)⟩, by have := nuI_le hp; omega⟩ ?_)
  rintro e ⟨g, m, x2, k, rfl, J, hk⟩
  have hw := J.wdEq
  have okg := J.ok
  have bg : BdF 600 g := okg.b.mono (by decide)
  have lo : 0 ≤ disc g := by have := okg.lo; omega
  have bm : BdM 200000 m := J.b.mono (by omega)
  obtain ⟨_, _, bs⟩ := okg.next
  refine ⟨_, dt_not (dt_B (dv_callA g rfl ⟨bg, lo, okg.hi⟩ (das1 (dv_var rfl)) fun z h => h)), fun h => ?_, fun h => ?_⟩
  · have hn : ¬ RedI (wd g) g := fun r => by
      rw [(redIB_iff _ g).mpr r] at h
      cases h
    have lt := nu_lt okg.root okg.ns hn
    rw [hw] at lt
    refine ds_set' (dv_callA g rfl ⟨bg, lo, okg.hi, c_ne okg.ns⟩ (das1 (dv_var rfl)) fun z h => h) ?_
    refine ds_set' (dv_callA (g, stepM (wd g) g) rfl ⟨bg, (bdStep bs).mono (by decide)⟩ (das2 (dv_var rfl) (dv_var rfl)) fun z h => h) ?_
    refine ds_sete (dv_callA (m, stepM (wd g) g) rfl ⟨bm, (bdStep bs).mono (by decide)⟩ (das2 (dv_var rfl) (dv_var rfl)) fun z h => h) ?_
    refine ⟨⟨_, _, _, k + 1, rfl, J.step, ?_⟩, ?_⟩
    · have h2 : act g (stepM (wd g) g) = rho (wd f) g := by rw [hw]; rfl
      rw [h2]
      omega
    · have h2 : act g (stepM (wd g) g) = rho (wd f) g := by rw [hw]; rfl
      show nuI (wd f) (act g (stepM (wd g) g)) < nuI (wd f) g
      rw [h2]
      exact lt
  · have hr : RedI (wd g) g := by
      rw [← redIB_iff]
      simpa using h
    refine ds_then ?_
    refine ds_ret' (dv_t2 (dv_var rfl) (dv_var rfl)) ?_
    exact ⟨g, m, rfl, okg, by rw [← hw]; exact hr, J.d, J.e, J.b.mono (by omega)⟩
end
end K19
/-! K19Cyc2 -/
set_option maxRecDepth 100000
set_option linter.all false
set_option maxHeartbeats 4000000
namespace K19
/-- a reduced form of a small discriminant -/
structure RR (f : Fm) : Prop where
  r : RedI (wd f) f
  ns : NSq (disc f)
  lo : 4 < disc f
  hi : disc f < 300
theorem RR.root {f : Fm} (h : RR f) : RootOk (wd f) (disc f) := by
  obtain ⟨a, b, c, d⟩ := rt_ok (n := disc f) (by have := h.lo; omega) (by have := h.hi; omega)
  refine ⟨c, d, ?_⟩
  have l := h.lo
  unfold wd
  apply Int.not_lt.mp; intro g
  have k := sq_le (x := rt (disc f) + 1) (y := 2) (by omega) (by omega) (by omega)
  omega
theorem RR.chk {f : Fm} (h : RR f) : chkB (wd f) f = true := by
  have R := h.root
  obtain ⟨r1, r2, r3, r4⟩ := id h.r
  have lo := h.lo
  have hi := h.hi
  have dz : disc f = (((disc f).toNat : Nat) : Int) := by omega
  have z := List.all_eq_true.mp chk_all (disc f).toNat (List.mem_range.mpr (by omega))
  have hw : wd f = (rootN (disc f).toNat : Int) := rfl
  rw [decide_eq_false (show ¬ (disc f).toNat < 5 by omega), Bool.false_or] at z
  unfold chkD at z
  rw [Bool.or_eq_true] at z
  rcases z with z | z
  · exfalso
    refine h.ns (wd f) ?_
    have e := of_decide_eq_true z
    rw [hw]
    have e2 : (rootN (disc f).toNat : Int) * (rootN (disc f).toNat : Int) = ((disc f).toNat : Int) := by exact_mod_cast e
    omega
  · have z := List.all_eq_true.mp z (f.b - 1).toNat (List.mem_range.mpr (by omega))
    have z := List.all_eq_true.mp z (f.a + wd f).toNat (List.mem_range.mpr (by omega))
    have ea : (((f.a + wd f).toNat : Nat) : Int) - (rootN (disc f).toNat : Int) = f.a := by omega
    have eb : (((f.b - 1).toNat : Nat) : Int) + 1 = f.b := by omega
    rw [ea, eb] at z
    have ec : (f.b * f.b - (((disc f).toNat : Nat) : Int)).fdiv (4 * f.a) = f.c := by
      rw [← dz]
      have e : f.b * f.b - disc f = f.c * (4 * f.a) := by unfold disc; grind
      rw [e, Int.mul_fdiv_cancel _ (by omega)]
    dsimp only at z
    rw [ec] at z
    rw [show (⟨f.a, f.b, f.c⟩ : Fm) = f from rfl, decide_eq_true dz, ← hw, (redIB_iff (wd f) f).mpr h.r] at z
    simpa using z
theorem wd_rho (f : Fm) : wd (rho (wd f) f) = wd f := congrArg rt (rho_disc (wd f) f)
theorem RR.next {f : Fm} (h : RR f) : RR (rho (wd f) f) ∧ f.a * (rho (wd f) f).a < 0 := by
  have z := h.chk
  unfold chkB at z
  simp only [Bool.and_eq_true, decide_eq_true_eq] at z
  obtain ⟨_, z2, z3, _⟩ := z
  have e := rho_disc (wd f) f
  refine ⟨⟨?_, by rw [e]; exact h.ns, by rw [e]; exact h.lo, by rw [e]; exact h.hi⟩, z3⟩
  rw [wd_rho]
  exact (redIB_iff _ _).mp z2
theorem ret_of {w : Int} {h : Fm} : ∀ {n : Nat} {g : Fm}, retB w h n g = true → ∃ k, k < n ∧ rhoN w k g = h
  | 0, g, z => by cases z
  | n + 1, g, z => by
    unfold retB at z
    by_cases e : g = h
    · exact ⟨0, Nat.succ_pos _, e⟩
    · rw [if_neg e] at z
      obtain ⟨k, hk, e⟩ := ret_of z
      exact ⟨k + 1, by omega, e⟩
theorem RR.per {f : Fm} (h : RR f) : ∃ k, 1 ≤ k ∧ k ≤ 60 ∧ rhoN (wd f) k f = f := by
  have z := h.chk
  unfold chkB at z
  rw [Bool.and_eq_true] at z
  obtain ⟨k, hk, e⟩ := ret_of z.1
  exact ⟨k + 1, by omega, by omega, e⟩
theorem nu_of {w : Int} {h : Fm} : ∀ {n : Nat} {g : Fm}, nuB w h n g = true → ∃ k, k < n ∧ nuN k g = h ∧ ∀ i, i < k → ¬ RedI w (nuN i g)
  | 0, g, z => by cases z
  | n + 1, g, z => by
    unfold nuB at z
    cases e : redIB w g with
    | true =>
      rw [e, if_pos rfl] at z
      exact ⟨0, Nat.succ_pos _, of_decide_eq_true z, fun i hi => by omega⟩
    | false =>
      rw [e] at z
      obtain ⟨k, hk, e1, e2⟩ := nu_of (n := n) z
      refine ⟨k + 1, by omega, e1, fun i hi => ?_⟩
      cases i with
      | zero =>
        intro r
        rw [show nuN 0 g = g from rfl, ← redIB_iff, e] at r
        cases r
      | succ i => exact e2 i (by omega)
theorem nuN_add : ∀ (m n : Nat) (f : Fm), nuN (m + n) f = nuN n (nuN m f)
  | 0, n, f => by rw [Nat.zero_add]; rfl
  | m + 1, n, f => by rw [Nat.add_right_comm]; exact nuN_add m n (nu f)
theorem RR.many {f : Fm} (h : RR f) : ∀ k, RR (rhoN (wd f) k f) ∧ wd (rhoN (wd f) k f) = wd f
  | 0 => ⟨h, rfl⟩
  | k + 1 => by
    obtain ⟨a, b⟩ := h.many k
    rw [rhoN_succ]
    have c := a.next.1
    rw [b] at c
    refine ⟨c, ?_⟩
    have e := wd_rho (rhoN (wd f) k f)
    rw [b] at e
    exact e
def Orb (f g : Fm) : Prop := ∃ k, rhoN (wd f) k f = g
theorem Orb.refl (f : Fm) : Orb f f := ⟨0, rfl⟩
theorem Orb.wd_eq {f g : Fm} (h : RR f) (o : Orb f g) : wd g = wd f := by
  obtain ⟨k, rfl⟩ := o
  exact (h.many k).2
theorem Orb.rr {f g : Fm} (h : RR f) (o : Orb f g) : RR g := by
  obtain ⟨k, rfl⟩ := o
  exact (h.many k).1
theorem Orb.trans {f g i : Fm} (h : RR f) (o : Orb f g) (q : Orb g i) : Orb f i := by
  have e := o.wd_eq h
  obtain ⟨k, rfl⟩ := o
  obtain ⟨l, rfl⟩ := q
  exact ⟨k + l, by rw [rhoN_add, e]⟩
theorem per_mul {w : Int} {f : Fm} {n : Nat} (h : rhoN w n f = f) : ∀ m, rhoN w (m * n) f = f
  | 0 => by rw [Nat.zero_mul]; rfl
  | m + 1 => by rw [Nat.succ_mul, rhoN_add, per_mul h m, h]
theorem Orb.symm {f g : Fm} (h : RR f) (o : Orb f g) : Orb g f := by
  have e := o.wd_eq h
  obtain ⟨k, rfl⟩ := o
  obtain ⟨n, h1, _, h2⟩ := h.per
  refine ⟨k * n - k, ?_⟩
  rw [e, ← rhoN_add, show k + (k * n - k) = k * n by
    have : k * 1 ≤ k * n := Nat.mul_le_mul_left k h1
    omega, per_mul h2]
theorem Orb.eqv {f g : Fm} (h : RR f) (o : Orb f g) : Eqv f g := by
  obtain ⟨k, rfl⟩ := o
  induction k with
  | zero => exact Eqv.refl f
  | succ k ih =>
    rw [rhoN_succ]
    refine ih.trans ?_
    have := rho_eqv (wd f) (rhoN (wd f) k f)
    exact this
theorem RR.riv {f : Fm} (h : RR f) (ha : 0 < f.a) : Riv f := by
  refine ⟨ha, ?_⟩
  obtain ⟨r1, r2, _, _⟩ := h.r
  have s := sq_le (x := f.b) (y := wd f) (by omega) (by omega) r2
  have lo := h.root.lo
  have ne := h.ns f.b
  apply Int.not_le.mp; intro hc
  have k := Int.mul_nonneg (Int.le_of_lt ha) hc
  have e : disc f = f.b * f.b - 4 * (f.a * f.c) := by unfold disc; grind
  omega
theorem orb_nu : ∀ (k : Nat) (f g : Fm), RR f → 0 < f.a → nuN k f = g → RR g → wd g = wd f → Orb f g := by
  intro k
  induction k using Nat.strongRecOn with
  | ind k ih =>
    intro f g hf ha e hg hw
    have z := hf.chk
    unfold chkB at z
    simp only [Bool.and_eq_true, Bool.or_eq_true, decide_eq_true_eq] at z
    obtain ⟨_, _, z3, z4⟩ := z
    rcases z4 with z4 | z4
    · omega
    · obtain ⟨n1, s1⟩ := hf.next
      have n2 := n1.next
      rw [wd_rho] at n2
      obtain ⟨n2, s2⟩ := n2
      obtain ⟨m, _, e1, e2⟩ := nu_of z4
      cases k with
      | zero => exact ⟨0, e⟩
      | succ k =>
        have e' : nuN k (nu f) = g := e
        have hm : m ≤ k := by
          apply Nat.not_lt.mp; intro lt
          refine e2 k lt ?_
          rw [e', ← hw]
          exact hg.r
        have a2 : 0 < (rho (wd f) (rho (wd f) f)).a := by
          have h1 : (rho (wd f) f).a < 0 := by
            apply Int.not_le.mp; intro g0
            have := Int.mul_nonneg (Int.le_of_lt ha) g0
            omega
          apply Int.not_le.mp; intro g0
          have := Int.mul_nonneg (show 0 ≤ -(rho (wd f) f).a by omega) (show 0 ≤ -(rho (wd f) (rho (wd f) f)).a by omega)
          have e5 : -(rho (wd f) f).a * -(rho (wd f) (rho (wd f) f)).a = (rho (wd f) f).a * (rho (wd f) (rho (wd f) f)).a := by grind
          omega
        have ww : wd (rho (wd f) (rho (wd f) f)) = wd f := by
          exact congrArg rt ((rho_disc (wd f) (rho (wd f) f)).trans (rho_disc (wd f) f))
        have e3 : nuN (k - m) (rho (wd f) (rho (wd f) f)) = g := by
          rw [← e1, ← nuN_add, show m + (k - m) = k by omega]
          exact e'
        have o := ih (k - m) (by omega) _ g n2 a2 e3 hg (by rw [hw, ww])
        exact Orb.trans hf ⟨2, rfl⟩ o
/-- reduced forms that are alike lie on one cycle -/
theorem orb_eqv {f g : Fm} (hf : RR f) (hg : RR g) (e : Eqv f g) : Orb f g := by
  have side : ∀ f, RR f → ∃ f', Orb f f' ∧ 0 < f'.a := fun f h => by
    by_cases ha : 0 < f.a
    · exact ⟨f, Orb.refl f, ha⟩
    · obtain ⟨n1, s1⟩ := h.next
      refine ⟨rho (wd f) f, ⟨1, rfl⟩, ?_⟩
      apply Int.not_le.mp; intro g0
      have := Int.mul_nonneg (show 0 ≤ -f.a by omega) (show 0 ≤ -(rho (wd f) f).a by omega)
      have e5 : -f.a * -(rho (wd f) f).a = f.a * (rho (wd f) f).a := by grind
      omega
  obtain ⟨f', of, af⟩ := side f hf
  obtain ⟨g', og, ag⟩ := side g hg
  have hf' := of.rr hf
  have hg' := og.rr hg
  have e' : Eqv f' g' := (of.eqv hf).symm.trans (e.trans (og.eqv hg))
  have hw : wd g' = wd f' := congrArg rt e'.disc.symm
  rcases riv_two hf'.ns (hf'.riv af) (hg'.riv ag) e' with ⟨k, hk⟩ | ⟨k, hk⟩
  · exact of.trans hf ((orb_nu k f' g' hf' af hk hg' hw).trans hf' (og.symm hg))
  · exact of.trans hf (((orb_nu k g' f' hg' ag hk hf' hw.symm).symm hg').trans hf' (og.symm hg))
/-! the least of a cycle -/
def ltF (f g : Fm) : Bool := HT.lexLt [f.a, f.b, f.c] [g.a, g.b, g.c]
theorem ltF_iff (f g : Fm) : ltF f g = true ↔ f.a < g.a ∨ (f.a = g.a ∧ (f.b < g.b ∨ (f.b = g.b ∧ f.c < g.c))) := by
  unfold ltF
  rw [HT.lexLt_cons]
  by_cases h : f.a = g.a
  · rw [if_pos h, HT.lexLt_cons]
    by_cases h2 : f.b = g.b
    · rw [if_pos h2, HT.lexLt_cons]
      by_cases h3 : f.c = g.c
      · rw [if_pos h3, HT.lexLt_nil_nil]
        constructor
        · intro z; cases z
        · omega
      · rw [if_neg h3, decide_eq_true_iff]; omega
    · rw [if_neg h2, decide_eq_true_iff]; omega
  · rw [if_neg h, decide_eq_true_iff]; omega
theorem ltF_no {f g : Fm} (h1 : ltF f g = false) (h2 : ltF g f = false) : f = g := by
  have a : ¬ ltF f g = true := by rw [h1]; decide
  have b : ¬ ltF g f = true := by rw [h2]; decide
  rw [ltF_iff] at a b
  exact Fm.ext' (by omega) (by omega) (by omega)
theorem best_ok (F : Nat → Fm) : ∀ k i, i ≤ k → ltF (F i) (F (PySem.argBest (fun i j => ltF (F i) (F j)) k)) = false
  | 0, i, hi => by
    have : i = 0 := by omega
    subst this
    show ltF (F 0) (F 0) = false
    rw [Bool.eq_false_iff]
    intro h
    rw [ltF_iff] at h
    omega
  | k + 1, i, hi => by
    unfold PySem.argBest
    split
    · rename_i h
      rw [Bool.eq_false_iff]
      intro h2
      by_cases e : i = k + 1
      · subst e
        rw [ltF_iff] at h2
        omega
      · have := best_ok F k i (by omega)
        rw [Bool.eq_false_iff] at this
        apply this
        rw [ltF_iff] at h h2 ⊢
        omega
    · rename_i h
      by_cases e : i = k + 1
      · subst e
        exact Bool.eq_false_iff.mpr h
      · exact best_ok F k i (by omega)
/-- R is the least of f's cycle -/
def MinOf (f R : Fm) : Prop := Orb f R ∧ ∀ g, Orb f g → ltF g R = false
theorem MinOf.one {f g R S : Fm} (hf : RR f) (o : Orb f g) (h1 : MinOf f R) (h2 : MinOf g S) : R = S := by
  have hg := o.rr hf
  exact ltF_no (h2.2 R ((o.symm hf).trans hg h1.1)) (h1.2 S (o.trans hf h2.1))
/-- the first time round -/
theorem least {p : Nat → Prop} {n : Nat} (h : p n) : ∃ k, k ≤ n ∧ p k ∧ ∀ i, i < k → ¬ p i := by
  induction n using Nat.strongRecOn with
  | ind n ih =>
    by_cases q : ∃ i, i < n ∧ p i
    · obtain ⟨i, hi, pi⟩ := q
      obtain ⟨k, a, b, c⟩ := ih i hi pi
      exact ⟨k, by omega, b, c⟩
    · exact ⟨n, Nat.le_refl _, h, fun i hi pi => q ⟨i, hi, pi⟩⟩
theorem RR.cyc {f : Fm} (h : RR f) : ∃ n, 1 ≤ n ∧ n ≤ 60 ∧ rhoN (wd f) n f = f ∧ (∀ i j, i < n → j < n → rhoN (wd f) i f = rhoN (wd f) j f → i = j) ∧ ∀ g, Orb f g → ∃ i, i < n ∧ rhoN (wd f) i f = g := by
  obtain ⟨k, h1, h2, h3⟩ := h.per
  obtain ⟨n, a, ⟨b1, b2⟩, c⟩ := least (p := fun k => 1 ≤ k ∧ rhoN (wd f) k f = f) ⟨h1, h3⟩
  have inj : ∀ i j, i < j → j < n → rhoN (wd f) i f ≠ rhoN (wd f) j f := fun i j hij hj e => by
    refine c (n - (j - i)) (by omega) ⟨by omega, ?_⟩
    have e2 : rhoN (wd f) (n - j) (rhoN (wd f) i f) = rhoN (wd f) (n - j) (rhoN (wd f) j f) := by rw [e]
    rw [← rhoN_add, ← rhoN_add, show j + (n - j) = n by omega, b2, show i + (n - j) = n - (j - i) by omega] at e2
    exact e2
  refine ⟨n, b1, by omega, b2, fun i j hi hj e => ?_, fun g o => ?_⟩
  · rcases Nat.lt_trichotomy i j with q | q | q
    · exact (inj i j q hj e).elim
    · exact q
    · exact (inj j i q hi e.symm).elim
  · obtain ⟨k, rfl⟩ := o
    refine ⟨k % n, Nat.mod_lt _ b1, ?_⟩
    have e : rhoN (wd f) k f = rhoN (wd f) (k / n * n + k % n) f := by rw [Nat.div_add_mod']
    rw [e, rhoN_add, per_mul b2]
end K19
/-! K19W5 -/
set_option Elab.async false
set_option linter.all false
set_option maxRecDepth 100000
set_option maxHeartbeats 4000000
namespace K19
open PySem PySem.Spec PyProof.Rows L2
open Evl (Ex)
local macro_rules | `(tactic| walk_at "bd") => `(tactic| first | assumption | exact Bd.lit (n := 4) rfl | exact Bd.lit (n := 32) rfl | (apply Bd.mul <;> walk_at "bd") | (apply Bd.add <;> walk_at "bd") | (apply Bd.sub <;> walk_at "bd") | (apply Bd.neg; walk_at "bd") | (apply Bd.fdiv; walk_at "bd"))
local macro_rules | `(tactic| walk_at "cm") => `(tactic| (apply cm_of; walk_at "bd"; walk_at "bd"; first | decide | omega))
local macro_rules | `(tactic| walk_at "dv") => `(tactic| first | exact dv_var rfl | exact dv_int | exact dv_str | exact dv_bl | assumption | (apply dv_ix0; walk_at "dv") | (apply dv_ix1; walk_at "dv") | (apply dv_ix2; walk_at "dv") | (apply dv_ix3; walk_at "dv") | (apply dv_add <;> walk_at "dv") | (apply dv_sub <;> walk_at "dv") | (apply dv_mul; walk_at "dv"; walk_at "dv"; walk_at "cm") | (apply dv_neg; walk_at "dv") | (apply dv_lt <;> walk_at "dv") | (apply dv_le <;> walk_at "dv") | (apply dv_gt <;> walk_at "dv") | (apply dv_ge <;> walk_at "dv") | (apply dv_eqI <;> walk_at "dv") | (apply dv_neI <;> walk_at "dv") | (apply dv_t2 <;> walk_at "dv") | (apply dv_t3 <;> walk_at "dv") | (apply dv_t4 <;> walk_at "dv") | (apply dv_abs; walk_at "dv") | (apply dv_intI; walk_at "dv"))
local macro_rules | `(tactic| walk_at "p2") => `(tactic| (apply ds_p2; walk_at "dv"; walk_at "dv"))
local macro_rules | `(tactic| walk_at "p2e") => `(tactic| (apply ds_p2e; walk_at "dv"; walk_at "dv"))
local macro_rules | `(tactic| walk_at "p3") => `(tactic| (apply ds_p3; walk_at "dv"; walk_at "dv"; walk_at "dv"))
local macro_rules | `(tactic| walk_at "set") => `(tactic| (apply ds_set'; walk_at "dv"))
local macro_rules | `(tactic| walk_at "sete") => `(tactic| (apply ds_sete; walk_at "dv"))
local macro_rules | `(tactic| walk_at "ret") => `(tactic| (apply ds_ret'; walk_at "dv"))
section
variable {P : Program} {w : World} {K : PySem.W.Frag} {mg : Str → Option Value} {base : Heap}

section
variable {env : Env'} {ta tb : TE}
theorem fm_eq_iff {f g : Fm} : ([f.a, f.b, f.c] : List Int) = [g.a, g.b, g.c] ↔ f = g := by
  constructor
  · intro h
    injection h with h1 h
    injection h with h2 h
    injection h with h3 h
    exact Fm.ext' h1 h2 h3
  · intro h; rw [h]
theorem eqv_fm (f g : Fm) : PyData.eqv (fmD f) (fmD g) = decide (f = g) := by
  have h : PyData.eqv (intsD [f.a, f.b, f.c]) (intsD [g.a, g.b, g.c]) = decide (([f.a, f.b, f.c] : List Int) = [g.a, g.b, g.c]) := eqv_intsD
  rw [show fmD f = intsD [f.a, f.b, f.c] from rfl, show fmD g = intsD [g.a, g.b, g.c] from rfl, h]
  exact decide_eq_decide.mpr fm_eq_iff
theorem shaped_fm (f : Fm) : SeqAt.shaped (fmD f) = true := shaped_ints [f.a, f.b, f.c]
theorem dv_neF {f g : Fm} (ha : Dv K ta env (fmD f)) (hb : Dv K tb env (fmD g)) : Dv K (tOp (rNeD K) ta tb) env (.bool (!decide (f = g))) :=
  de_neD (DE.imp ha fun d e => by
    subst e
    exact ⟨shaped_fm f, DE.imp hb fun d e => by
      subst e
      exact ⟨shaped_fm g, by rw [eqv_fm]⟩⟩)
theorem de_minP {P : PyData → Prop} (ha : DE K ta env fun z => ∃ ks, z = .list (ks.map pairD) ∧ ks ≠ [] ∧ (ks.map (·.1)).Nodup ∧ ∀ p, ks[bestAt ks]? = some p → P (pairD p)) : DE K (tCB (rMinP K) (tCons ta tNil)) env P := fun σ H r Q q =>
  ha σ H r _ fun z v H1 ⟨ks, e, hne, hnd, k⟩ x1 D1 => by
    subst e
    cases D1 with
    | lst hs hall =>
      refine ⟨_, _, ks, rfl, hs, hall, hne, hnd, fun v hv => ?_⟩
      have hlt : bestAt ks < ks.length := by
        have := (List.getElem?_eq_some_iff.mp hv).1
        rw [DpAll.length hall, List.length_map] at this
        exact this
      obtain ⟨w, hw, D⟩ := hall.get (show (ks.map pairD)[bestAt ks]? = some (pairD ks[bestAt ks]) by rw [List.getElem?_map, List.getElem?_eq_getElem hlt]; rfl)
      have e : v = w := Option.some.inj (hv.symm.trans hw)
      subst e
      exact q _ v H1 (k _ (List.getElem?_eq_getElem hlt)) x1 D
theorem ds_match {r : V → TS} {y : Str} {te : TE} {P : Out → Prop} (h : Dv K te env (.str y)) (k : DS K (r (.str y)) env P) : DS K (tMatch te r) env P := fun σ H D rr n q =>
  h σ H rr _ fun d v H1 e x D1 => by
    subst e
    cases D1
    exact k σ H1 D (rr.ex x) (fun e σ' H' p x' r' => n e σ' H' p (x.trans x') r') fun d v H' p x' D' => q d v H' p (x.trans x') D'
theorem dm_hit {z : Str} {t : TS} {r : V → TS} {P : Out → Prop} (h : DS K t env P) : DS K (mCons z t r (.str z)) env P := fun σ H D rr n q => ⟨z, rfl, by
  rw [if_pos (decide_eq_true rfl)]
  exact h σ H D rr n q⟩
theorem dm_miss {y z : Str} {t : TS} {r : V → TS} {P : Out → Prop} (ne : y ≠ z) (h : DS K (r (.str y)) env P) : DS K (mCons z t r (.str y)) env P := fun σ H D rr n q => ⟨y, rfl, by
  rw [if_neg (by
    rw [decide_eq_true_iff]
    intro e
    injection e with e
    exact ne e)]
  exact h σ H D rr n q⟩
end
theorem argBest_congr {bt bt' : Nat → Nat → Bool} : ∀ {k : Nat}, (∀ i j, i ≤ k → j ≤ k → bt i j = bt' i j) → argBest bt k = argBest bt' k
  | 0, _ => rfl
  | k + 1, h => by
    have e : argBest bt k = argBest bt' k := argBest_congr fun i j hi hj => h i j (by omega) (by omega)
    unfold argBest
    rw [e, h (k + 1) (argBest bt' k) (Nat.le_refl _) (Nat.le_succ_of_le (argBest_le bt' k))]
theorem RR.small {f : Fm} (h : RR f) : BdF 10 f := by
  obtain ⟨r1, r2, r3, r4⟩ := h.r
  have w20 := (rt_ok (n := disc f) (by have := h.lo; omega) (by have := h.hi; omega)).2.1
  have hw : wd f ≤ 20 := w20
  have hc : f.c.natAbs ≤ 400 := by
    have e : (4 * (f.a * f.c)).natAbs ≤ 700 := by
      have e : 4 * (f.a * f.c) = f.b * f.b - disc f := by unfold disc; grind
      have s := sq_le (x := f.b) (y := 20) (by omega) (by omega) (by omega)
      have s2 := sq_nonneg f.b
      have := h.lo
      have := h.hi
      omega
    have e2 : (f.a * f.c).natAbs ≤ 400 := by omega
    exact nat_of_mul (by omega) e2
  unfold BdF Bd
  omega
theorem RR.step {f : Fm} (h : RR f) : BdM 10 (stepM (wd f) f) := by
  have hn := h.next.1
  have hc := c_ne h.ns
  obtain ⟨_, s2, _⟩ := h.small
  have t2 := hn.small.2.1
  rw [rho_eq hc] at t2
  have t2 : Bd 10 (midI (wd f) f) := t2
  have q1 := h.r
  have q2 := hn.r
  rw [wd_rho, rho_eq hc] at q2
  have w20 := (rt_ok (n := disc f) (by have := h.lo; omega) (by have := h.hi; omega)).2.1
  have hw : wd f ≤ 20 := w20
  obtain ⟨a1, a2, _, _⟩ := q1
  obtain ⟨b1, b2, _, _⟩ := q2
  have b1 : 0 < midI (wd f) f := b1
  have b2 : midI (wd f) f ≤ wd f := b2
  have k : Bd 9 (f.b + midI (wd f) f) := by unfold Bd; omega
  exact ⟨(Bd.lit (n := 4) rfl).mono (by decide), (Bd.lit (n := 4) rfl).mono (by decide), (Bd.lit (n := 4) rfl).mono (by decide), (Bd.fdiv k).mono (by decide)⟩
theorem RR.pre {f : Fm} (h : RR f) : BdF 600 f ∧ 0 ≤ disc f ∧ disc f < 400 ∧ f.c ≠ 0 := ⟨h.small.mono (by decide), by have := h.lo; omega, by have := h.hi; omega, c_ne h.ns⟩
theorem mul_bd {n : Nat} {m : Mx} {f : Fm} (hm : BdM (10 + 12 * n) m) (h : RR f) : BdM (10 + 12 * (n + 1)) (mul m (stepM (wd f) f)) := by
  obtain ⟨b1, b2, b3, b4⟩ := hm
  have c := h.step.2.2.2
  have e1 : mul m (stepM (wd f) f) = ⟨m.q, -m.p + m.q * stepN (wd f) f, m.s, -m.r + m.s * stepN (wd f) f⟩ := by
    apply Mx.ext' <;> simp only [mul, stepM] <;> omega
  rw [e1]
  exact ⟨b2.mono (by omega), (Bd.add (b1.neg) (Bd.mul b2 c)).mono (by omega), b4.mono (by omega), (Bd.add (b3.neg) (Bd.mul b4 c)).mono (by omega)⟩
def cellD (p : Fm × Mx) : PyData := .tuple [fmD p.1, mxD p.2]
def ResY (f : Fm) (z : PyData) : Prop := ∃ (n : Nat) (ks : List (Fm × Mx)), z = .list (ks.map cellD) ∧ ks.map (·.1) = (List.range n).map (fun i => rhoN (wd f) i f) ∧ (∀ p ∈ ks, BdM 4000 p.2) ∧ 1 ≤ n ∧ (∀ i j, i < n → j < n → rhoN (wd f) i f = rhoN (wd f) j f → i = j) ∧ ∀ g, Orb f g → ∃ i, i < n ∧ rhoN (wd f) i f = g
abbrev spCycle (K : PySem.W.Frag) : Sp := spA K 1 (fun f : Fm => [fmD f]) RR ResY
theorem noL_fm (f : Fm) : noL (fmD f) = true := rfl
theorem noL_mx (m : Mx) : noL (mxD m) = true := rfl
theorem okCycle (T : Tx K mg) : FnOk P w K mg base CX0 3 T.xCycle.f T.xCycle.fd ["form"] (spCycle K) := by
  have GMultiply : FnOk P w K mg base CX0 1 T.xMultiply.f T.xMultiply.fd ["m", "n"] (spMultiply K) := okMultiply T
  have GAct : FnOk P w K mg base CX0 2 T.xAct.f T.xAct.fd ["form", "m"] (spAct K) := okAct T
  have GStepOf : FnOk P w K mg base CX0 2 T.xStepOf.f T.xStepOf.fd ["form"] (spStepOf K) := okStepOf T
  refine fn_dataA T.xCycle.F scCycle rfl fun cdv A outer s H E hr => ⟨_, (pss_cons (ps_set (i := 1) scCycle.nd rfl (Or.inl rfl) (pe_lst (pa_cons (pe_tup (pa_cons (pv 0) (pa_cons (pe_glob (v := .ref T.unitA) rfl T.unit rfl) pa_nil))) pa_nil))) (pss_cons (ps_set (i := 2) scCycle.nd rfl (Or.inl rfl) (pe_call GStepOf (hr.mono (by decide)) (by rfl) T.xStepOf.g T.xStepOf.F.kp T.xStepOf.b .nil pass0 (pa_cons (pv 0) pa_nil))) (pss_cons (ps_set (i := 3) scCycle.nd rfl (Or.inl rfl) (pe_call GAct (hr.mono (by decide)) (by rfl) T.xAct.g T.xAct.F.kp T.xAct.b .nil pass0 (pa_cons (pv 0) (pa_cons (pv 2) pa_nil)))) (pss_cons (ps_while PassesOwn.never (pt_cmpR (op_neD hr.units) (pv 3) (pv 0) (nomark _)) (pss_cons (ps_expr (pe_bm PySem.F.plainAttrs_list PySem.F.slot_list_append PySem.F.type_list_append mt_append (pv 1) (pa_cons (pe_tup (pa_cons (pv 3) (pa_cons (pv 2) pa_nil))) pa_nil))) (pss_cons (ps_set (i := 4) scCycle.nd rfl (Or.inl rfl) (pe_call GStepOf (hr.mono (by decide)) (by rfl) T.xStepOf.g T.xStepOf.F.kp T.xStepOf.b .nil pass0 (pa_cons (pv 3) pa_nil))) (pss_cons (ps_set (i := 3) scCycle.nd rfl (Or.inl rfl) (pe_call GAct (hr.mono (by decide)) (by rfl) T.xAct.g T.xAct.F.kp T.xAct.b .nil pass0 (pa_cons (pv 3) (pa_cons (pv 4) pa_nil)))) (pss_one (ps_set (i := 2) scCycle.nd rfl (Or.inl rfl) (pe_call GMultiply (hr.mono (by decide)) (by rfl) T.xMultiply.g T.xMultiply.F.kp T.xMultiply.b .nil pass0 (pa_cons (pv 2) (pa_cons (pv 4) pa_nil))))))))) (pss_one (ps_ret (pv 1))))))), fun f hp => ?_⟩
  obtain ⟨n, n1, n60, nper, ninj, nall⟩ := hp.cyc
  have many : ∀ k, RR (rhoN (wd f) k f) ∧ wd (rhoN (wd f) k f) = wd f := hp.many
  refine ds_own (by show 1 < 5; decide) (DA.imp (das1 (dv_t2 (dv_var rfl) (dv_ref (d := mxD one) fun H => .tup (T.unitT H) (.cons (.int 1) (.cons (.int 0) (.cons (.int 0) (.cons (.int 1) .nil))))))) fun ds e => ?_)
  subst e
  refine ⟨by show 1 ≤ 1000; decide, fun B p => ?_⟩
  refine gs_set' (d := mxD (stepM (wd f) f)) (show (2 : Nat) ≠ 1 by decide) (dv_callA f rfl hp.pre (das1 (dv_var rfl)) fun z h => h) rfl ?_
  refine gs_set' (d := fmD (rhoN (wd f) 1 f)) (show (3 : Nat) ≠ 1 by decide) (dv_callA (f, stepM (wd f) f) rfl ⟨hp.pre.1, hp.step.mono (by decide)⟩ (das2 (dv_var rfl) (dv_var rfl)) fun z h => h) rfl ?_
  refine gs_seq (gs_while (fun e s => ∃ (k : Nat) (m : Mx) (x4 : Option PyData) (ks : List (Fm × Mx)), e = [some (fmD f), none, some (mxD m), some (fmD (rhoN (wd f) (k + 1) f)), x4] ∧ k + 1 ≤ n ∧ BdM (10 + 12 * (k + 1)) m ∧ s = ks.map cellD ∧ ks.map (·.1) = (List.range (k + 1)).map (fun i => rhoN (wd f) i f) ∧ ∀ p ∈ ks, BdM 4000 p.2)
    (fun e s => n - List.length (α := PyData) s) ⟨0, stepM (wd f) f, none, [(f, one)], rfl, n1, hp.step.mono (by decide), rfl, rfl, fun p hp => ?_⟩ ?_)
  · rw [List.mem_singleton.mp hp]
    exact bdOne.mono (by decide)
  rintro e s ⟨k, m, x4, ks, rfl, hk, bm, rfl, hks, hb⟩
  obtain ⟨Rg, wg⟩ := many (k + 1)
  have e1 : act (rhoN (wd f) (k + 1) f) (stepM (wd (rhoN (wd f) (k + 1) f)) (rhoN (wd f) (k + 1) f)) = rhoN (wd f) (k + 1 + 1) f := by
    rw [rhoN_succ _ (k + 1), wg]
    rfl
  have klen : ks.length = k + 1 := by
    have := congrArg List.length hks
    simpa using this
  refine ⟨_, dt_test (dv_neF (dv_var rfl) (dv_var rfl)), fun h => ?_, fun h => ?_⟩
  · have hne : rhoN (wd f) (k + 1) f ≠ f := of_decide_eq_false (not_t h)
    have hlt : k + 1 + 1 ≤ n := by
      apply Nat.lt_of_le_of_ne hk
      rintro rfl
      exact hne nper
    refine gs_seq (gs_app (ge_v (d := cellD (rhoN (wd f) (k + 1) f, m)) (dv_t2 (dv_var rfl) (dv_var rfl)) rfl ⟨by rw [List.length_map, klen]; omega, ?_⟩))
    refine gs_then ?_
    refine gs_set' (show (4 : Nat) ≠ 1 by decide) (dv_callA (rhoN (wd f) (k + 1) f) rfl Rg.pre (das1 (dv_var rfl)) fun z h => h) rfl ?_
    refine gs_set' (show (3 : Nat) ≠ 1 by decide) (dv_callA (rhoN (wd f) (k + 1) f, stepM (wd (rhoN (wd f) (k + 1) f)) (rhoN (wd f) (k + 1) f)) rfl ⟨Rg.pre.1, Rg.step.mono (by decide)⟩ (das2 (dv_var rfl) (dv_var rfl)) fun z h => h) rfl ?_
    refine gs_sete (show (2 : Nat) ≠ 1 by decide) (dv_callA (m, stepM (wd (rhoN (wd f) (k + 1) f)) (rhoN (wd f) (k + 1) f)) rfl ⟨bm.mono (by omega), Rg.step.mono (by decide)⟩ (das2 (dv_var rfl) (dv_var rfl)) fun z h => h) rfl ?_
    refine ⟨⟨k + 1, _, _, ks ++ [(rhoN (wd f) (k + 1) f, m)], by rw [← e1]; rfl, hlt, mul_bd bm Rg, ?_, ?_, fun p hp => ?_⟩, ?_⟩
    · show ks.map cellD ++ [cellD (rhoN (wd f) (k + 1) f, m)] = _
      rw [List.map_append]
      rfl
    · rw [List.map_append, hks, List.range_succ (n := k + 1), List.map_append]
      rfl
    · rcases List.mem_append.mp hp with hp | hp
      · exact hb p hp
      · rw [List.mem_singleton.mp hp]
        exact bm.mono (by omega)
    · show n - List.length (ks.map cellD ++ [cellD (rhoN (wd f) (k + 1) f, m)]) < n - List.length (ks.map cellD)
      rw [List.length_append, List.length_map, klen]
      simp only [List.length_singleton]
      omega
  · have he : rhoN (wd f) (k + 1) f = f := of_decide_eq_true (not_f h)
    have hn : k + 1 = n := by
      apply Nat.le_antisymm hk
      apply Nat.not_lt.mp; intro lt
      have := ninj (k + 1) 0 lt (by omega) he
      omega
    refine gs_then ?_
    refine gs_retOwn ?_
    subst hn
    exact ⟨k + 1, ks, rfl, hks, hb, by omega, ninj, nall⟩
/-- the canonical form -/
def CanI (f R : Fm) : Prop := ∃ r, RR r ∧ Eqv f r ∧ MinOf r R
def IndF (f : Fm) : Prop := IndOk f ∧ disc f < 300
abbrev spCanonical (K : PySem.W.Frag) : Sp := spA K 1 (fun f : Fm => [fmD f]) IndF fun f z => ∃ R m, z = .tuple [fmD R, mxD m] ∧ CanI f R ∧ BdM 70000 m
theorem okCanonical (T : Tx K mg) : FnOk P w K mg base CX0 4 T.xCanonical.f T.xCanonical.fd ["form"] (spCanonical K) := by
  have GMultiply : FnOk P w K mg base CX0 1 T.xMultiply.f T.xMultiply.fd ["m", "n"] (spMultiply K) := okMultiply T
  have GCycle : FnOk P w K mg base CX0 3 T.xCycle.f T.xCycle.fd ["form"] (spCycle K) := okCycle T
  have GReduceIndefinite : FnOk P w K mg base CX0 3 T.xReduceIndefinite.f T.xReduceIndefinite.fd ["form"] (spReduceIndefinite K) := okReduceIndefinite T
  refine fn_dataA T.xCanonical.F scCanonical rfl fun cdv A outer s H E hr => ⟨_, (pss_cons (ps_asg (pe_call GReduceIndefinite (hr.mono (by decide)) (by rfl) T.xReduceIndefinite.g T.xReduceIndefinite.F.kp T.xReduceIndefinite.b .nil pass0 (pa_cons (pv 0) pa_nil)) (pg_tup rfl (pgs_cons (pg_name (i := 1) scCanonical.nd rfl (Or.inl rfl)) (pgs_cons (pg_name (i := 2) scCanonical.nd rfl (Or.inl rfl)) pgs_nil)))) (pss_cons (ps_asg (pe_callB (cr_minP rfl hr.units) (by rfl) T.min (by decide +kernel) (pa_cons (pe_call GCycle (hr.mono (by decide)) (by rfl) T.xCycle.g T.xCycle.F.kp T.xCycle.b .nil pass0 (pa_cons (pv 1) pa_nil)) pa_nil)) (pg_tup rfl (pgs_cons (pg_name (i := 3) scCanonical.nd rfl (Or.inl rfl)) (pgs_cons (pg_name (i := 4) scCanonical.nd rfl (Or.inl rfl)) pgs_nil)))) (pss_one (ps_ret (pe_tup (pa_cons (pv 3) (pa_cons (pe_call GMultiply (hr.mono (by decide)) (by rfl) T.xMultiply.g T.xMultiply.F.kp T.xMultiply.b .nil pass0 (pa_cons (pv 2) (pa_cons (pv 4) pa_nil))) pa_nil))))))), fun f hp => ?_⟩
  obtain ⟨ok, h300⟩ := hp
  refine ds_u2 (de_callA f rfl ok (das1 (dv_var rfl)) fun z hz => ?_)
  obtain ⟨r, m, rfl, rok, rr, dm, em, bm⟩ := hz
  refine ⟨_, _, rfl, ?_⟩
  have dr : disc r = disc f := by rw [← em, disc_act, dm]; omega
  have wr : wd r = wd f := congrArg rt dr
  have hr' : RR r := ⟨by rw [wr]; exact rr, rok.ns, rok.lo, by omega⟩
  refine ds_u2 (de_minP (de_callA r rfl hr' (das1 (dv_var rfl)) fun z hz => ?_))
  obtain ⟨n, ks, rfl, hks, hb, n1, ninj, nall⟩ := hz
  have klen : ks.length = n := by
    have := congrArg List.length hks
    simpa using this
  have kat : ∀ i, i < n → ∃ m, ks[i]? = some (rhoN (wd r) i r, m) := fun i hi => by
    have e : (ks.map (·.1))[i]? = some (rhoN (wd r) i r) := by
      rw [hks, List.getElem?_map, List.getElem?_range hi]
      rfl
    rw [List.getElem?_map, List.getElem?_eq_getElem (by omega)] at e
    have e := Option.some.inj e
    exact ⟨ks[i].2, by rw [List.getElem?_eq_getElem (by omega), ← e]⟩
  refine ⟨ks.map fun p => (([p.1.a, p.1.b, p.1.c] : List Int), mxD p.2), by rw [List.map_map]; rfl, ?_, ?_, ?_⟩
  · intro e
    have := congrArg List.length e
    rw [List.length_map, klen] at this
    simp at this
    omega
  · rw [List.map_map]
    have e : ((fun x : List Int × PyData => x.1) ∘ fun p : Fm × Mx => (([p.1.a, p.1.b, p.1.c] : List Int), mxD p.2)) = (fun f : Fm => ([f.a, f.b, f.c] : List Int)) ∘ (fun p : Fm × Mx => p.1) := rfl
    rw [e, ← List.map_map, hks]
    refine List.pairwise_map.mpr (List.pairwise_map.mpr ?_)
    refine List.Pairwise.imp_of_mem (fun {a b} ha hb ne => ?_) (List.nodup_range (n := n))
    intro e
    exact ne (ninj a b (List.mem_range.mp ha) (List.mem_range.mp hb) (fm_eq_iff.mp e))
  · intro p hp
    have hb2 : bestAt (ks.map fun p => (([p.1.a, p.1.b, p.1.c] : List Int), mxD p.2)) = argBest (fun i j => ltF (rhoN (wd r) i r) (rhoN (wd r) j r)) (n - 1) := by
      unfold bestAt
      rw [List.length_map, klen]
      refine argBest_congr fun i j hi hj => ?_
      have f1 : ∀ i, i ≤ n - 1 → fst_ (ks.map fun p => (([p.1.a, p.1.b, p.1.c] : List Int), mxD p.2)) i = [(rhoN (wd r) i r).a, (rhoN (wd r) i r).b, (rhoN (wd r) i r).c] := fun i hi => by
        obtain ⟨m, e⟩ := kat i (by omega)
        unfold fst_
        rw [List.getD_eq_getElem?_getD, List.getElem?_map, List.getElem?_map, e]
        rfl
      rw [f1 i hi, f1 j hj]
      rfl
    rw [hb2] at hp
    generalize hB : argBest (fun i j => ltF (rhoN (wd r) i r) (rhoN (wd r) j r)) (n - 1) = b at hp
    have hbn : b ≤ n - 1 := by rw [← hB]; exact argBest_le _ _
    obtain ⟨s, es⟩ := kat b (by omega)
    rw [List.getElem?_map, es] at hp
    have ep := Option.some.inj hp
    have bs : BdM 4000 s := hb _ (List.mem_of_getElem? es)
    subst ep
    refine ⟨fmD (rhoN (wd r) b r), mxD s, rfl, ?_⟩
    refine ds_ret' (dv_t2 (dv_var rfl) (dv_callA (m, s) rfl ⟨bm.mono (by decide), bs.mono (by decide)⟩ (das2 (dv_var rfl) (dv_var rfl)) fun z h => h)) ?_
    refine ⟨rhoN (wd r) b r, mul m s, rfl, ⟨r, hr', ⟨m, dm, em⟩, ⟨b, rfl⟩, fun g o => ?_⟩, ?_⟩
    · obtain ⟨i, hi, rfl⟩ := nall g o
      have := best_ok (fun i => rhoN (wd r) i r) (n - 1) i (by omega)
      rw [← hB]
      exact this
    · obtain ⟨b1, b2, b3, b4⟩ := bm
      obtain ⟨c1, c2, c3, c4⟩ := bs
      exact ⟨(Bd.add (Bd.mul b1 c1) (Bd.mul b2 c3)).mono (by decide), (Bd.add (Bd.mul b1 c2) (Bd.mul b2 c4)).mono (by decide), (Bd.add (Bd.mul b3 c1) (Bd.mul b4 c3)).mono (by decide), (Bd.add (Bd.mul b3 c2) (Bd.mul b4 c4)).mono (by decide)⟩
/-- forms that are reckoned with -/
def Fine (f : Fm) : Prop := (0 < f.a ∧ disc f < 0 ∧ -400 < disc f) ∨ (NSq (disc f) ∧ 4 < disc f ∧ disc f < 300)
def Can (f R : Fm) : Prop := (disc f < 0 ∧ Red R ∧ Eqv f R) ∨ (4 < disc f ∧ CanI f R)
abbrev spCanonicalForm (K : PySem.W.Frag) : Sp := spA K 1 (fun f : Fm => [fmD f]) (fun f => BdF 250 f ∧ Fine f) fun f z => ∃ R m, z = .tuple [fmD R, mxD m] ∧ Can f R ∧ BdM 70000 m
theorem sqB_no {n : Int} (h : NSq n) : sqB n = false := by
  unfold sqB
  rw [decide_eq_false (fun e : rt n * rt n = n => h (rt n) e.symm), Bool.and_false]
theorem okCanonicalForm (T : Tx K mg) : FnOk P w K mg base CX0 5 T.xCanonicalForm.f T.xCanonicalForm.fd ["form"] (spCanonicalForm K) := by
  have GCanonical : FnOk P w K mg base CX0 4 T.xCanonical.f T.xCanonical.fd ["form"] (spCanonical K) := okCanonical T
  have GReduceDefinite : FnOk P w K mg base CX0 4 T.xReduceDefinite.f T.xReduceDefinite.fd ["form"] (spReduceDefinite K) := okReduceDefinite T
  have GKind : FnOk P w K mg base CX0 2 T.xKind.f T.xKind.fd ["form"] (spKind K) := okKind T
  refine fn_dataA T.xCanonicalForm.F scCanonicalForm rfl fun cdv A outer s H E hr => ⟨_, (pss_cons (ps_match (pe_call GKind (hr.mono (by decide)) (by rfl) T.xKind.g T.xKind.F.kp T.xKind.b .nil pass0 (pa_cons (pv 0) pa_nil)) (pm_cons (pss_one (ps_ret (pe_call GReduceDefinite (hr.mono (by decide)) (by rfl) T.xReduceDefinite.g T.xReduceDefinite.F.kp T.xReduceDefinite.b .nil pass0 (pa_cons (pv 0) pa_nil)))) (pm_cons (pss_one (ps_ret (pe_call GCanonical (hr.mono (by decide)) (by rfl) T.xCanonical.g T.xCanonical.F.kp T.xCanonical.b .nil pass0 (pa_cons (pv 0) pa_nil)))) (pm_cons (pss_one ps_never) pm_nil)))) (pss_one ps_never)), fun f hp => ?_⟩
  obtain ⟨bf, hf⟩ := hp
  have bf' : BdF 600 f := bf.mono (by decide)
  rcases hf with ⟨ha, h1, h2⟩ | ⟨h1, h2, h3⟩
  · have e0 : sqB (disc f) = false := by
      unfold sqB
      rw [decide_eq_false (by omega), Bool.false_and]
    refine ds_seq (ds_match (y := "definite") (dv_callA f rfl ⟨bf', by omega, by omega, e0⟩ (das1 (dv_var rfl)) fun z h => by rw [h, if_pos h1]) (dm_hit ?_))
    refine ds_ret (de_callA f rfl ⟨ha, h1, h2, bf⟩ (das1 (dv_var rfl)) fun z hz => ?_)
    obtain ⟨R, m, e, r1, r2, r3, r4⟩ := hz
    exact ⟨R, m, e, .inl ⟨h1, r1, ⟨m, r2, r3⟩⟩, r4.mono (by decide)⟩
  · refine ds_seq (ds_match (y := "indefinite") (dv_callA f rfl ⟨bf', by omega, by omega, sqB_no h1⟩ (das1 (dv_var rfl)) fun z h => by rw [h, if_neg (by omega)]) (dm_miss (by decide) (dm_hit ?_)))
    refine ds_ret (de_callA f rfl ⟨⟨bf, h1, h2, by omega⟩, h3⟩ (das1 (dv_var rfl)) fun z hz => ?_)
    obtain ⟨R, m, e, r1, r2⟩ := hz
    exact ⟨R, m, e, .inr ⟨h2, r1⟩, r2⟩
end
end K19
/-! K19Menu -/
set_option Elab.async false
set_option maxRecDepth 100000
set_option linter.all false
set_option maxHeartbeats 4000000
namespace K19
/-! ### the list of classes, definite -/
def gc (f : Fm) : Bool := decide (gcdL [f.a, f.b, f.c] 0 = 1)
def cellP (d a b : Int) : List Fm := if (b * b - d).fmod (4 * a) = 0 then (if redB ⟨a, b, (b * b - d).fdiv (4 * a)⟩ && gc ⟨a, b, (b * b - d).fdiv (4 * a)⟩ then [⟨a, b, (b * b - d).fdiv (4 * a)⟩] else []) else []
def rowP (d : Int) (a k : Nat) : List Fm := (List.range k).flatMap fun (i : Nat) => cellP d (a : Int) (-(a : Int) + 1 + (i : Int))
def posL (d : Int) (n : Nat) : List Fm := (List.range n).flatMap fun (i : Nat) => rowP d (i + 1) (2 * (i + 1))
def fmNd : List Fm → Bool
  | [] => true
  | f :: l => (l.all fun g => !decide (f = g)) && fmNd l
theorem fmNd_ok : ∀ {l : List Fm}, fmNd l = true → l.Nodup
  | [], _ => List.nodup_nil
  | f :: l, h => by
    unfold fmNd at h
    rw [Bool.and_eq_true] at h
    refine List.nodup_cons.mpr ⟨fun hm => ?_, fmNd_ok h.2⟩
    have := List.all_eq_true.mp h.1 f hm
    simp at this
def posB (n : Nat) : Bool := let l := posL (-(n : Int)) 10; fmNd l && decide (l.length ≤ 40)
def posT (k : Nat) : Bool := (List.range 15).all fun i => posB (15 * k + i)
theorem pos_0 : posT 0 = true := by decide +kernel
theorem pos_1 : posT 1 = true := by decide +kernel
theorem pos_2 : posT 2 = true := by decide +kernel
theorem pos_3 : posT 3 = true := by decide +kernel
theorem pos_4 : posT 4 = true := by decide +kernel
theorem pos_5 : posT 5 = true := by decide +kernel
theorem pos_6 : posT 6 = true := by decide +kernel
theorem pos_7 : posT 7 = true := by decide +kernel
theorem pos_8 : posT 8 = true := by decide +kernel
theorem pos_9 : posT 9 = true := by decide +kernel
theorem pos_10 : posT 10 = true := by decide +kernel
theorem pos_11 : posT 11 = true := by decide +kernel
theorem pos_12 : posT 12 = true := by decide +kernel
theorem pos_13 : posT 13 = true := by decide +kernel
theorem pos_14 : posT 14 = true := by decide +kernel
theorem pos_15 : posT 15 = true := by decide +kernel
theorem pos_16 : posT 16 = true := by decide +kernel
theorem pos_17 : posT 17 = true := by decide +kernel
theorem pos_18 : posT 18 = true := by decide +kernel
theorem pos_19 : posT 19 = true := by decide +kernel
theorem pos_k : ∀ k, k < 20 → posT k = true
  | 0, _ => pos_0
  | 1, _ => pos_1
  | 2, _ => pos_2
  | 3, _ => pos_3
  | 4, _ => pos_4
  | 5, _ => pos_5
  | 6, _ => pos_6
  | 7, _ => pos_7
  | 8, _ => pos_8
  | 9, _ => pos_9
  | 10, _ => pos_10
  | 11, _ => pos_11
  | 12, _ => pos_12
  | 13, _ => pos_13
  | 14, _ => pos_14
  | 15, _ => pos_15
  | 16, _ => pos_16
  | 17, _ => pos_17
  | 18, _ => pos_18
  | 19, _ => pos_19
  | k + 20, h => absurd h (by omega)
theorem pos_n {n : Nat} (h : n < 300) : posB n = true := by
  have z := List.all_eq_true.mp (pos_k (n / 15) (by omega)) (n % 15) (List.mem_range.mpr (by omega))
  rw [show 15 * (n / 15) + n % 15 = n by omega] at z
  exact z
theorem flat_range_sub {α : Type} (f : Nat → List α) {m n : Nat} (h : m ≤ n) : ((List.range m).flatMap f).Sublist ((List.range n).flatMap f) := by
  obtain ⟨k, rfl⟩ := Nat.le.dest h
  rw [List.range_add, List.flatMap_append]
  exact List.sublist_append_left _ _
theorem posL_ok {d : Int} (h1 : d < 0) (h2 : -300 < d) {n : Nat} (hn : n ≤ 10) : (posL d n).Nodup ∧ (posL d n).length ≤ 40 := by
  have z := pos_n (n := (-d).toNat) (by omega)
  unfold posB at z
  dsimp only at z
  rw [show -(((-d).toNat : Nat) : Int) = d by omega, Bool.and_eq_true] at z
  have s : (posL d n).Sublist (posL d 10) := flat_range_sub _ hn
  exact ⟨(fmNd_ok z.1).sublist s, Nat.le_trans s.length_le (of_decide_eq_true z.2)⟩
theorem gc_iff (f : Fm) : gc f = true ↔ Prim f := by
  unfold gc
  rw [decide_eq_true_iff, prim_iff]
theorem red_pos {f : Fm} (h : Red f) : 0 < f.a := by
  obtain ⟨a, b, _⟩ := h
  omega
theorem cellP_mem {d a b : Int} {f : Fm} (ha : 0 < a) (h : f ∈ cellP d a b) : Red f ∧ Prim f ∧ disc f = d ∧ f.a = a := by
  unfold cellP at h
  split at h
  · rename_i e
    split at h
    · rename_i e2
      rw [Bool.and_eq_true] at e2
      have := List.mem_singleton.mp h
      subst this
      refine ⟨(redB_iff _).mp e2.1, (gc_iff _).mp e2.2, ?_, rfl⟩
      unfold disc
      have k := fdm (b * b - d) (4 * a)
      rw [e] at k
      simp only
      have k2 : 4 * a * (b * b - d).fdiv (4 * a) = (b * b - d).fdiv (4 * a) * (4 * a) := by grind
      omega
    · cases h
  · cases h
theorem posL_mem {d : Int} {n : Nat} {f : Fm} (h : f ∈ posL d n) : Red f ∧ Prim f ∧ disc f = d := by
  obtain ⟨i, hi, h⟩ := List.mem_flatMap.mp h
  obtain ⟨k, hk, h⟩ := List.mem_flatMap.mp h
  obtain ⟨a, b, c, _⟩ := cellP_mem (by omega) h
  exact ⟨a, b, c⟩
theorem red_3 {f : Fm} (h : Red f) : 3 * f.a * f.a ≤ -disc f := by
  obtain ⟨h1, h2, h3, _⟩ := h
  have k1 := sq_le (x := f.b) (y := f.a) (by omega) (by omega) h2
  have k2 := Int.mul_le_mul_of_nonneg_left h3 (show 0 ≤ f.a by omega)
  have e : disc f = f.b * f.b - 4 * (f.a * f.c) := by unfold disc; grind
  have e2 : 3 * f.a * f.a = 3 * (f.a * f.a) := by grind
  omega
theorem posL_all {d : Int} {n : Nat} {f : Fm} (hr : Red f) (hp : Prim f) (hd : disc f = d) (hn : -d < 3 * ((n : Int) + 1) * ((n : Int) + 1)) : f ∈ posL d n := by
  have h3 := red_3 hr
  have ha := red_pos hr
  obtain ⟨r1, r2, _, _⟩ := id hr
  have hle : f.a ≤ n := by
    apply Int.not_lt.mp; intro lt
    have k := sq_le (x := (n : Int) + 1) (y := f.a) (by omega) (by omega) (by omega)
    have e2 : 3 * f.a * f.a = 3 * (f.a * f.a) := by grind
    have e3 : 3 * ((n : Int) + 1) * ((n : Int) + 1) = 3 * (((n : Int) + 1) * ((n : Int) + 1)) := by grind
    omega
  refine List.mem_flatMap.mpr ⟨(f.a - 1).toNat, List.mem_range.mpr (by omega), List.mem_flatMap.mpr ⟨(f.b + f.a - 1).toNat, List.mem_range.mpr (by omega), ?_⟩⟩
  have ea : ((((f.a - 1).toNat + 1 : Nat)) : Int) = f.a := by omega
  rw [ea, show -f.a + 1 + (((f.b + f.a - 1).toNat : Nat) : Int) = f.b by omega]
  have e : f.b * f.b - d = f.c * (4 * f.a) := by rw [← hd]; unfold disc; grind
  have ec : (f.b * f.b - d).fdiv (4 * f.a) = f.c := by rw [e, Int.mul_fdiv_cancel _ (by omega)]
  unfold cellP
  rw [ec, if_pos (by rw [e]; exact Int.mul_fmod_left _ _), show (⟨f.a, f.b, f.c⟩ : Fm) = f from rfl, (redB_iff f).mpr hr, (gc_iff f).mpr hp]
  exact List.mem_singleton.mpr rfl
/-- what a list of classes is to be -/
structure Menu (d : Int) (L : List Fm) : Prop where
  each : ∀ f ∈ L, Prim f ∧ disc f = d ∧ Fine f ∧ Can f f ∧ BdF 10 f
  nd : L.Nodup
  few : L.length ≤ 63
  all : ∀ f R, Prim f → disc f = d → Fine f → Can f R → R ∈ L
theorem red_small {f : Fm} (h : Red f) (hd : -400 < disc f) : BdF 10 f := by
  have h3 := red_3 h
  have ha := red_pos h
  obtain ⟨r1, r2, r3, _⟩ := id h
  have hle : f.a ≤ 20 := by
    apply Int.not_lt.mp; intro lt
    have k := sq_le (x := 20) (y := f.a) (by omega) (by omega) (by omega)
    have e2 : 3 * f.a * f.a = 3 * (f.a * f.a) := by grind
    omega
  have hc : f.c ≤ 400 := by
    have e : disc f = f.b * f.b - 4 * (f.a * f.c) := by unfold disc; grind
    have k1 := sq_le (x := f.b) (y := 20) (by omega) (by omega) (by omega)
    have k2 := Int.mul_le_mul_of_nonneg_right (show 1 ≤ f.a by omega) (show 0 ≤ f.c by omega)
    omega
  unfold BdF Bd
  omega
theorem pos_menu {d : Int} (h1 : d < 0) (h2 : -300 < d) {n : Nat} {L : List Fm} (hn : n ≤ 10) (hd : -d < 3 * ((n : Int) + 1) * ((n : Int) + 1)) (hp : L.Perm (posL d n)) : Menu d L := by
  obtain ⟨a, b⟩ := posL_ok h1 h2 hn
  refine ⟨fun f hf => ?_, hp.nodup_iff.mpr a, by rw [hp.length_eq]; omega, fun f R p1 p2 p3 p4 => ?_⟩
  · obtain ⟨r, p, e⟩ := posL_mem (hp.mem_iff.mp hf)
    exact ⟨p, e, .inl ⟨red_pos r, by omega, by omega⟩, .inl ⟨by omega, r, Eqv.refl f⟩, red_small r (by omega)⟩
  · rcases p4 with ⟨q1, q2, q3⟩ | ⟨q1, _⟩
    · exact hp.mem_iff.mpr (posL_all q2 (Prim.eqv q3 p1) (by rw [← q3.disc, p2]) hd)
    · omega
end K19
/-! K19W6 -/
set_option Elab.async false
set_option linter.all false
set_option maxRecDepth 100000
set_option maxHeartbeats 4000000
namespace K19
open PySem PySem.Spec PyProof.Rows L2
open Evl (Ex)
local macro_rules | `(tactic| walk_at "bd") => `(tactic| first | assumption | exact Bd.lit (n := 4) rfl | exact Bd.lit (n := 32) rfl | (apply Bd.mul <;> walk_at "bd") | (apply Bd.add <;> walk_at "bd") | (apply Bd.sub <;> walk_at "bd") | (apply Bd.neg; walk_at "bd") | (apply Bd.fdiv; walk_at "bd"))
local macro_rules | `(tactic| walk_at "cm") => `(tactic| (apply cm_of; walk_at "bd"; walk_at "bd"; first | decide | omega))
local macro_rules | `(tactic| walk_at "dv") => `(tactic| first | exact dv_var rfl | exact dv_int | exact dv_str | exact dv_bl | assumption | (apply dv_ix0; walk_at "dv") | (apply dv_ix1; walk_at "dv") | (apply dv_ix2; walk_at "dv") | (apply dv_ix3; walk_at "dv") | (apply dv_add <;> walk_at "dv") | (apply dv_sub <;> walk_at "dv") | (apply dv_mul; walk_at "dv"; walk_at "dv"; walk_at "cm") | (apply dv_neg; walk_at "dv") | (apply dv_lt <;> walk_at "dv") | (apply dv_le <;> walk_at "dv") | (apply dv_gt <;> walk_at "dv") | (apply dv_ge <;> walk_at "dv") | (apply dv_eqI <;> walk_at "dv") | (apply dv_neI <;> walk_at "dv") | (apply dv_t2 <;> walk_at "dv") | (apply dv_t3 <;> walk_at "dv") | (apply dv_t4 <;> walk_at "dv") | (apply dv_abs; walk_at "dv") | (apply dv_intI; walk_at "dv"))
local macro_rules | `(tactic| walk_at "p2") => `(tactic| (apply ds_p2; walk_at "dv"; walk_at "dv"))
local macro_rules | `(tactic| walk_at "p2e") => `(tactic| (apply ds_p2e; walk_at "dv"; walk_at "dv"))
local macro_rules | `(tactic| walk_at "p3") => `(tactic| (apply ds_p3; walk_at "dv"; walk_at "dv"; walk_at "dv"))
local macro_rules | `(tactic| walk_at "set") => `(tactic| (apply ds_set'; walk_at "dv"))
local macro_rules | `(tactic| walk_at "sete") => `(tactic| (apply ds_sete; walk_at "dv"))
local macro_rules | `(tactic| walk_at "ret") => `(tactic| (apply ds_ret'; walk_at "dv"))
section
variable {P : Program} {w : World} {K : PySem.W.Frag} {mg : Str → Option Value} {base : Heap}

section
variable {B : Hp} {p : Addr} {j : Nat} {e : Env'}
theorem dps_perm {H : Hp} : ∀ {ys xs : List V}, ys.Perm xs → ∀ {L : List Fm}, DpAll K H xs (L.map fmD) → ∃ L' : List Fm, L'.Perm L ∧ DpAll K H ys (L'.map fmD) := by
  intro ys xs h
  induction h with
  | nil => intro L d; exact ⟨L, List.Perm.refl _, d⟩
  | cons x _ ih =>
    intro L d
    cases L with
    | nil => cases d
    | cons f L =>
      cases d with
      | cons d1 d2 =>
        obtain ⟨L', p1, d3⟩ := ih d2
        exact ⟨f :: L', p1.cons f, .cons d1 d3⟩
  | swap x y l =>
    intro L d
    cases L with
    | nil => cases d
    | cons f L =>
      cases d with
      | cons d1 d2 =>
        cases L with
        | nil => cases d2
        | cons g L =>
          cases d2 with
          | cons d2 d3 => exact ⟨g :: f :: L, List.Perm.swap f g L, .cons d2 (.cons d1 d3)⟩
  | trans _ _ ih1 ih2 =>
    intro L d
    obtain ⟨L1, p1, d1⟩ := ih2 d
    obtain ⟨L2, p2, d2⟩ := ih1 d1
    exact ⟨L2, p2.trans p1, d2⟩
theorem dps_mem {H : Hp} : ∀ {xs : List V} {L : List Fm}, DpAll K H xs (L.map fmD) → ∀ x ∈ xs, ∃ f ∈ L, Dp K H x (fmD f)
  | _, [], .nil, x, hx => by cases hx
  | _, f :: L, .cons d1 d2, x, hx => by
    rcases List.mem_cons.mp hx with rfl | hx
    · exact ⟨f, List.mem_cons_self .., d1⟩
    · obtain ⟨g, hg, d⟩ := dps_mem d2 x hx
      exact ⟨g, List.mem_cons_of_mem _ hg, d⟩
theorem dp_tupI {H : Hp} {x : V} {f : Fm} (d : Dp K H x (fmD f)) : TupI K H x [f.a, f.b, f.c] := by
  cases d with
  | tup hs hA =>
    have e := dps_ints (ns := [f.a, f.b, f.c]) hA
    subst e
    exact ⟨_, rfl, hs⟩
theorem wide_fm {f : Fm} (h : BdF 10 f) : wide 1024 [f.a, f.b, f.c] := fun m hm => by
  obtain ⟨a, b, c⟩ := h
  unfold Bd at a b c
  have e : (2 : Nat) ^ 10 = 1024 := by decide
  simp only [List.mem_cons, List.not_mem_nil, or_false] at hm
  rcases hm with rfl | rfl | rfl <;> omega
theorem srt_forms {L : List Fm} {P : GOut (List PyData) → Prop} (hl : L.length < 64) (hb : ∀ f ∈ L, BdF 10 f) (k : ∀ L' : List Fm, L'.Perm L → P (.rt (.list (L'.map fmD)) (L.map fmD))) :
    GS (OL K B p j) (tRet (tCB (rSortW K) (tCons (tVar j) tNil))) e (L.map fmD) P := gs_retX fun σ H g Q q => by
  obtain ⟨vs, h0, d0⟩ := g.ob
  have h0 : H p = some (.lst vs) := h0
  have d0 : DpAll K (rm p H) vs (L.map fmD) := d0
  refine ⟨.ref p, g.jj, p, vs, 3, 1024, rfl, SqL.of h0, by rw [DpAll.length d0, List.length_map]; exact hl, by decide, fun x hx => ?_, fun ys q1 hp hq => ?_⟩
  · obtain ⟨f, hf, d⟩ := dps_mem d0 x hx
    obtain ⟨t, e, ht⟩ := dp_tupI d
    exact ⟨_, ⟨t, e, Evl.ex_t rm_le ht⟩, rfl, wide_fm (hb f hf)⟩
  · obtain ⟨L', p1, d1⟩ := dps_perm hp d0
    exact q _ _ _ (k L' p1) (ex_new hq) (.lst (SqL.of upd_same) (dps_ex (rm_le.trans (ex_new hq)) _ _ d1))
end
section
variable {o : Ow K} {e : Env'} {s : o.S} {P : GOut o.S → Prop} {ta tb : TE}
theorem gs_rng2 {lo hi : Int} {i : Nat} {t : TS} (ne : i ≠ o.j) (W : Nat → Env' → o.S → Prop) (ha : Dv K ta e (.int lo)) (hb : Dv K tb e (.int hi)) (b1 : -1000000 ≤ lo ∧ lo ≤ 1000000) (b2 : -1000000 ≤ hi ∧ hi ≤ 1000000) (h0 : W 0 e s)
    (hs : ∀ k e s, k < (hi - lo).toNat → W k e s → GS o t (e.set i (some (.int (lo + (k : Int))))) s fun r => match r with | .nx e' s' => W (k + 1) e' s' | .rt d s' => P (.rt d s')) (hd : ∀ e s, W (hi - lo).toNat e s → P (.nx e s)) : GS o (tFor (iRng2 (tCons ta (tCons tb tNil))) (gName i) t) e s P :=
  gs_range ne W (fun σ H g R q => ha σ H g.rs _ fun _ v H1 e1 x1 D1 => hb σ H1 (g.rs.ex x1) _ fun _ w H2 e2 x2 D2 => by
    subst e1 e2
    cases D1
    cases D2
    exact ⟨lo, hi, rfl, ⟨by omega, by omega, by omega, by omega⟩, q s H2 h0 (g.ex (x1.trans x2)) (rm_ex (x1.trans x2))⟩) hs hd
theorem gs_rng1 {hi : Int} {i : Nat} {t : TS} (ne : i ≠ o.j) (W : Nat → Env' → o.S → Prop) (hb : Dv K tb e (.int hi)) (b2 : -1000000 ≤ hi ∧ hi ≤ 1000000) (h0 : W 0 e s)
    (hs : ∀ k e s, k < hi.toNat → W k e s → GS o t (e.set i (some (.int (0 + (k : Int))))) s fun r => match r with | .nx e' s' => W (k + 1) e' s' | .rt d s' => P (.rt d s')) (hd : ∀ e s, W hi.toNat e s → P (.nx e s)) : GS o (tFor (iRng1 (tCons tb tNil)) (gName i) t) e s P :=
  gs_range ne W (fun σ H g R q => hb σ H g.rs _ fun _ v H1 e1 x1 D1 => by
    subst e1
    cases D1
    exact ⟨hi, rfl, by omega, by omega, q s H1 h0 (g.ex x1) (rm_ex x1)⟩) hs hd
end
abbrev spPositiveClasses (K : PySem.W.Frag) : Sp := spA K 1 (fun d : Int => [.int d]) (fun d => d < 0 ∧ -300 < d) fun d z => ∃ L : List Fm, z = .list (L.map fmD) ∧ Menu d L
theorem flat_succ {α : Type} (f : Nat → List α) (k : Nat) : (List.range (k + 1)).flatMap f = (List.range k).flatMap f ++ f k := by
  rw [List.range_succ, List.flatMap_append]
  simp
theorem snoc_map (L : List Fm) (f : Fm) : snoc (L.map fmD) (fmD f) = (L ++ [f]).map fmD := by
  rw [List.map_append]
  rfl
theorem gc_cast (f : Fm) : gc f = decide (((gcdL [f.a, f.b, f.c] 0 : Nat) : Int) = 1) := decide_eq_decide.mpr (by omega)
theorem okPositiveClasses (T : Tx K mg) : FnOk P w K mg base CX0 4 T.xPositiveClasses.f T.xPositiveClasses.fd ["d"] (spPositiveClasses K) := by
  have GContent : FnOk P w K mg base CX0 3 T.xContent.f T.xContent.fd ["form"] (spContent K) := okContent T
  have GIsReducedDefinite : FnOk P w K mg base CX0 1 T.xIsReducedDefinite.f T.xIsReducedDefinite.fd ["form"] (spIsReducedDefinite K) := okIsReducedDefinite T
  refine fn_dataA T.xPositiveClasses.F scPositiveClasses rfl fun cdv A outer s H E hr => ⟨_, (pss_cons (ps_set (i := 1) scPositiveClasses.nd rfl (Or.inl rfl) (pe_lst pa_nil)) (pss_cons (ps_set (i := 2) scPositiveClasses.nd rfl (Or.inl rfl) pe_int) (pss_cons (ps_while PassesOwn.never (pt_cmpR op_le (pe_op op_mulW (pe_op op_mulW pe_int (pv 2)) (pv 2)) (pe_un un_neg (pv 0)) (nomark _)) (pss_cons (ps_for PassesOwn.never rfl (pi_range2 (by rfl) T.range (pa_cons (pe_op op_add (pe_un un_neg (pv 2)) pe_int) (pa_cons (pe_op op_add (pv 2) pe_int) pa_nil))) (pg_name (i := 3) scPositiveClasses.nd rfl (Or.inl rfl)) (pss_one (ps_if (pt_cmpR op_eq (pe_op op_modN (pe_op op_sub (pe_op op_mulW (pv 3) (pv 3)) (pv 0)) (pe_op op_mulW pe_int (pv 2))) pe_int (nomark _)) (pss_cons (ps_set (i := 4) scPositiveClasses.nd rfl (Or.inl rfl) (pe_tup (pa_cons (pv 2) (pa_cons (pv 3) (pa_cons (pe_op op_fdivZ (pe_op op_sub (pe_op op_mulW (pv 3) (pv 3)) (pv 0)) (pe_op op_mulW pe_int (pv 2))) pa_nil))))) (pss_one (ps_if (PW.pt (pw_and (pt_val (pe_call GIsReducedDefinite (hr.mono (by decide)) (by rfl) T.xIsReducedDefinite.g T.xIsReducedDefinite.F.kp T.xIsReducedDefinite.b .nil pass0 (pa_cons (pv 4) pa_nil))) (pw_and1 (pt_cmpR op_eq (pe_call GContent (hr.mono (by decide)) (by rfl) T.xContent.g T.xContent.F.kp T.xContent.b .nil pass0 (pa_cons (pv 4) pa_nil)) pe_int (nomark _))))) (pss_one (ps_expr (pe_bm PySem.F.plainAttrs_list PySem.F.slot_list_append PySem.F.type_list_append mt_append (pv 1) (pa_cons (pv 4) pa_nil)))) pss_nil))) pss_nil))) (pss_one (ps_set (i := 2) scPositiveClasses.nd rfl (Or.inl rfl) (pe_op op_add (pv 2) pe_int))))) (pss_one (ps_ret (pe_callB cr_sortW (by rfl) T.sorted (by decide +kernel) (pa_cons (pv 1) pa_nil))))))), fun d hp => ?_⟩
  obtain ⟨h1, h2⟩ := id hp
  refine ds_own (by show 1 < 5; decide) (da_nil ⟨by show 0 ≤ 1000; decide, fun B p => ?_⟩)
  refine gs_set' (show (2 : Nat) ≠ 1 by decide) dv_int rfl ?_
  refine gs_seq (gs_while (fun e s => ∃ (n : Nat) (x3 x4 : Option PyData), e = [some (.int d), none, some (.int ((n : Int) + 1)), x3, x4] ∧ s = (posL d n).map fmD ∧ n ≤ 10) (fun e s => (11 - slotI 2 e).toNat) ⟨0, none, none, rfl, rfl, by decide⟩ ?_)
  rintro e s ⟨n, x3, x4, rfl, rfl, hn⟩
  have ba : Bd 8 ((n : Int) + 1) := by unfold Bd; omega
  have b4 : Bd 16 (4 * ((n : Int) + 1)) := by unfold Bd; omega
  have bd : Bd 16 d := by unfold Bd; omega
  refine ⟨_, dt_test (dv_le (dv_mul (dv_mul dv_int (dv_var rfl) (by walk_at "cm")) (dv_var rfl) (by walk_at "cm")) (dv_neg (dv_var rfl))), fun h => ?_, fun h => ?_⟩
  · have h : 3 * ((n : Int) + 1) * ((n : Int) + 1) ≤ -d := of_decide_eq_true h
    have hn9 : n ≤ 9 := by
      apply Nat.not_lt.mp; intro lt
      have k := sq_le (x := 11) (y := (n : Int) + 1) (by omega) (by omega) (by omega)
      have e3 : 3 * ((n : Int) + 1) * ((n : Int) + 1) = 3 * (((n : Int) + 1) * ((n : Int) + 1)) := by grind
      omega
    refine gs_seq (gs_rng2 (show (3 : Nat) ≠ 1 by decide) (fun k e s => ∃ (x3 x4 : Option PyData), e = [some (.int d), none, some (.int ((n : Int) + 1)), x3, x4] ∧
      s = (posL d n ++ (List.range k).flatMap fun (i : Nat) => cellP d ((n : Int) + 1) (-((n : Int) + 1) + 1 + (i : Int))).map fmD) (dv_add (dv_neg (dv_var rfl)) dv_int) (dv_add (dv_var rfl) dv_int) (by omega) (by omega) ⟨x3, x4, rfl, by rw [List.range_zero, List.flatMap_nil, List.append_nil]⟩ ?_ ?_)
    · rintro k e s hk ⟨x3, x4, rfl, rfl⟩
      have cell := flat_succ (fun (i : Nat) => cellP d ((n : Int) + 1) (-((n : Int) + 1) + 1 + (i : Int))) k
      generalize hb : -((n : Int) + 1) + 1 + (k : Int) = b at *
      have bb : Bd 8 b := by unfold Bd; omega
      have bsq : Bd 20 (b * b - d) := (Bd.sub (Bd.mul bb bb) bd).mono (by decide)
      have cb : cellP d ((n : Int) + 1) b = if (b * b - d).fmod (4 * ((n : Int) + 1)) = 0 then (if redB ⟨(n : Int) + 1, b, (b * b - d).fdiv (4 * ((n : Int) + 1))⟩ && gc ⟨(n : Int) + 1, b, (b * b - d).fdiv (4 * ((n : Int) + 1))⟩ then [⟨(n : Int) + 1, b, (b * b - d).fdiv (4 * ((n : Int) + 1))⟩] else []) else [] := rfl
      refine gs_if (dt_test (dv_eqI (dv_mod (dv_sub (dv_mul (dv_var rfl) (dv_var rfl) (by walk_at "cm")) (dv_var rfl)) (dv_mul dv_int (dv_var rfl) (by walk_at "cm")) (by omega)) dv_int)) (fun h => ?_) fun h => ?_
      · have h := of_decide_eq_true h
        rw [if_pos h] at cb
        refine gs_set' (d := fmD ⟨(n : Int) + 1, b, (b * b - d).fdiv (4 * ((n : Int) + 1))⟩) (show (4 : Nat) ≠ 1 by decide) (dv_t3 (dv_var rfl) (dv_var rfl) (dv_div (dv_sub (dv_mul (dv_var rfl) (dv_var rfl) (by walk_at "cm")) (dv_var rfl)) (dv_mul dv_int (dv_var rfl) (by walk_at "cm")) (cd_of (by omega) b4 (by decide)))) rfl ?_
        have bf : BdF 600 ⟨(n : Int) + 1, b, (b * b - d).fdiv (4 * ((n : Int) + 1))⟩ := ⟨ba.mono (by decide), bb.mono (by decide), (Bd.fdiv bsq).mono (by decide)⟩
        refine gs_if (dt_and (dt_B (dv_callA (⟨(n : Int) + 1, b, (b * b - d).fdiv (4 * ((n : Int) + 1))⟩ : Fm) rfl trivial (das1 (dv_var rfl)) fun z h => h)) fun _ => dt_test (dv_eqI (dv_callA (⟨(n : Int) + 1, b, (b * b - d).fdiv (4 * ((n : Int) + 1))⟩ : Fm) rfl bf (das1 (dv_var rfl)) fun z h => h) dv_int)) (fun h2 => ?_) fun h2 => ?_
        · rw [gc_cast, if_pos h2] at cb
          refine gs_app (ge_v (dv_var rfl) rfl ⟨?_, _, _, rfl, ?_⟩)
          · rw [List.length_map]
            have l1 := (posL_ok h1 hp.2 hn).2
            have l2 := (posL_ok h1 hp.2 (n := n + 1) (by omega)).2
            have l3 : (posL d (n + 1)).length = (posL d n ++ rowP d (n + 1) (2 * (n + 1))).length := congrArg List.length (flat_succ _ n)
            have l4 := (flat_range_sub (fun (i : Nat) => cellP d ((n : Int) + 1) (-((n : Int) + 1) + 1 + (i : Int))) (show k ≤ 2 * (n + 1) by omega)).length_le
            have l5 : ((List.range (2 * (n + 1))).flatMap fun (i : Nat) => cellP d ((n : Int) + 1) (-((n : Int) + 1) + 1 + (i : Int))).length = (rowP d (n + 1) (2 * (n + 1))).length := rfl
            rw [List.length_append] at l3 ⊢
            omega
          · rw [cell, cb, ← List.append_assoc]
            exact snoc_map _ _
        · rw [gc_cast, if_neg (by rw [h2]; decide)] at cb
          refine gs_nil ⟨_, _, rfl, ?_⟩
          rw [cell, cb, List.append_nil]
      · have h := of_decide_eq_false h
        rw [if_neg h] at cb
        refine gs_nil ⟨_, _, rfl, ?_⟩
        rw [cell, cb, List.append_nil]
    · rintro e s ⟨x3, x4, rfl, rfl⟩
      refine gs_then (gs_sete (show (2 : Nat) ≠ 1 by decide) (dv_add (dv_var rfl) dv_int) rfl ?_)
      refine ⟨⟨n + 1, x3, x4, rfl, ?_, by omega⟩, ?_⟩
      · have e : posL d (n + 1) = posL d n ++ rowP d (n + 1) (2 * (n + 1)) := flat_succ _ n
        rw [e, show ((n : Int) + 1 + 1 - (-((n : Int) + 1) + 1)).toNat = 2 * (n + 1) by omega]
        rfl
      · show (11 - ((n : Int) + 1 + 1)).toNat < (11 - ((n : Int) + 1)).toNat
        omega
  · have h : ¬ (3 * ((n : Int) + 1) * ((n : Int) + 1) ≤ -d) := of_decide_eq_false h
    refine gs_then (srt_forms ?_ ?_ fun L' hp => ⟨L', rfl, pos_menu h1 h2 hn (by omega) hp⟩)
    · have := (posL_ok h1 h2 hn).2; omega
    · intro f hf
      obtain ⟨r, _, e⟩ := posL_mem hf
      exact red_small r (by omega)
end
end K19
/-! K19MenuI -/
set_option Elab.async false
set_option maxRecDepth 100000
set_option linter.all false
set_option maxHeartbeats 4000000
namespace K19
/-! ### the list of classes, indefinite -/
def cellI (d w b a : Int) : List Fm := if (((d - b * b).fdiv 4).fmod a = 0) ∧ w - b < 2 * a then [⟨a, b, (-((d - b * b).fdiv 4)).fdiv a⟩, ⟨-a, b, ((d - b * b).fdiv 4).fdiv a⟩].filter gc else []
def rowI (d w b : Int) : List Fm := if (d - b * b).fmod 4 = 0 then (List.range ((w + b).fdiv 2 + 1 - 1).toNat).flatMap fun (i : Nat) => cellI d w b (1 + (i : Int)) else []
def indL (d w : Int) : List Fm := (List.range (w + 1 - 1).toNat).flatMap fun (i : Nat) => rowI d w (1 + (i : Int))
def indB (n : Nat) : Bool := (rootN n * rootN n == n) || decide ((indL (n : Int) (rootN n : Int)).length ≤ 60)
def indT (k : Nat) : Bool := (List.range 15).all fun i => indB (15 * k + i)
theorem ind_0 : indT 0 = true := by decide +kernel
theorem ind_1 : indT 1 = true := by decide +kernel
theorem ind_2 : indT 2 = true := by decide +kernel
theorem ind_3 : indT 3 = true := by decide +kernel
theorem ind_4 : indT 4 = true := by decide +kernel
theorem ind_5 : indT 5 = true := by decide +kernel
theorem ind_6 : indT 6 = true := by decide +kernel
theorem ind_7 : indT 7 = true := by decide +kernel
theorem ind_8 : indT 8 = true := by decide +kernel
theorem ind_9 : indT 9 = true := by decide +kernel
theorem ind_10 : indT 10 = true := by decide +kernel
theorem ind_11 : indT 11 = true := by decide +kernel
theorem ind_12 : indT 12 = true := by decide +kernel
theorem ind_13 : indT 13 = true := by decide +kernel
theorem ind_14 : indT 14 = true := by decide +kernel
theorem ind_15 : indT 15 = true := by decide +kernel
theorem ind_16 : indT 16 = true := by decide +kernel
theorem ind_17 : indT 17 = true := by decide +kernel
theorem ind_18 : indT 18 = true := by decide +kernel
theorem ind_19 : indT 19 = true := by decide +kernel
theorem ind_k : ∀ k, k < 20 → indT k = true
  | 0, _ => ind_0
  | 1, _ => ind_1
  | 2, _ => ind_2
  | 3, _ => ind_3
  | 4, _ => ind_4
  | 5, _ => ind_5
  | 6, _ => ind_6
  | 7, _ => ind_7
  | 8, _ => ind_8
  | 9, _ => ind_9
  | 10, _ => ind_10
  | 11, _ => ind_11
  | 12, _ => ind_12
  | 13, _ => ind_13
  | 14, _ => ind_14
  | 15, _ => ind_15
  | 16, _ => ind_16
  | 17, _ => ind_17
  | 18, _ => ind_18
  | 19, _ => ind_19
  | k + 20, h => absurd h (by omega)
theorem ind_n {n : Nat} (h : n < 300) : indB n = true := by
  have z := List.all_eq_true.mp (ind_k (n / 15) (by omega)) (n % 15) (List.mem_range.mpr (by omega))
  rw [show 15 * (n / 15) + n % 15 = n by omega] at z
  exact z
theorem indL_few {d : Int} (h1 : 4 < d) (h2 : d < 300) (ns : NSq d) : (indL d (rt d)).length ≤ 60 := by
  have z := ind_n (n := d.toNat) (by omega)
  unfold indB at z
  have e : ((d.toNat : Nat) : Int) = d := by omega
  rw [e, Bool.or_eq_true] at z
  rcases z with z | z
  · exfalso
    refine ns (rootN d.toNat : Int) ?_
    have e3 := of_decide_eq_true z
    have e2 : (rootN d.toNat : Int) * (rootN d.toNat : Int) = (d.toNat : Int) := by exact_mod_cast e3
    omega
  · exact of_decide_eq_true z
theorem cellI_mem {d w b a : Int} {f : Fm} (ha : 0 < a) (h4 : (d - b * b).fmod 4 = 0) (h : f ∈ cellI d w b a) : Prim f ∧ disc f = d ∧ f.b = b ∧ f.a.natAbs = a.natAbs ∧ w - b < 2 * a := by
  unfold cellI at h
  split at h
  · rename_i e
    obtain ⟨e1, e2⟩ := e
    obtain ⟨hm, hg⟩ := List.mem_filter.mp h
    have k4 := fdm (d - b * b) 4
    rw [h4] at k4
    have ka := fdm ((d - b * b).fdiv 4) a
    rw [e1] at ka
    generalize hr : (d - b * b).fdiv 4 = r at *
    have kn : (-r).fdiv a = -(r.fdiv a) := by
      have e : -r = -(r.fdiv a) * a := by grind
      rw [e, Int.mul_fdiv_cancel _ (by omega)]
    generalize hq : r.fdiv a = q at *
    refine ⟨(gc_iff f).mp hg, ?_⟩
    simp only [List.mem_cons, List.not_mem_nil, or_false] at hm
    rcases hm with rfl | rfl
    · refine ⟨?_, rfl, rfl, e2⟩
      unfold disc
      simp only
      rw [kn]
      have : 4 * a * -q = -(4 * (q * a)) := by grind
      omega
    · refine ⟨?_, rfl, by simp only; omega, e2⟩
      unfold disc
      simp only
      have : 4 * -a * q = -(4 * (q * a)) := by grind
      omega
  · cases h
theorem indL_mem {d w : Int} {f : Fm} (hw : 0 ≤ w) (h : f ∈ indL d w) : Prim f ∧ disc f = d ∧ RedI w f := by
  obtain ⟨i, hi, h⟩ := List.mem_flatMap.mp h
  unfold rowI at h
  split at h
  · rename_i h4
    obtain ⟨j, hj, h⟩ := List.mem_flatMap.mp h
    have hi := List.mem_range.mp hi
    have hj := List.mem_range.mp hj
    obtain ⟨p, e1, e2, e3, e4⟩ := cellI_mem (by omega) h4 h
    have k2 := fdm (w + (1 + (i : Int))) 2
    have k3 := fmod_pos (x := w + (1 + (i : Int))) (y := 2) (by decide)
    refine ⟨p, e1, ?_, ?_, ?_, ?_⟩ <;> omega
  · cases h
theorem indL_all {d w : Int} {f : Fm} (hr : RedI w f) (hp : Prim f) (hd : disc f = d) : f ∈ indL d w := by
  obtain ⟨r1, r2, r3, r4⟩ := hr
  refine List.mem_flatMap.mpr ⟨(f.b - 1).toNat, List.mem_range.mpr (by omega), ?_⟩
  have eb : 1 + (((f.b - 1).toNat : Nat) : Int) = f.b := by omega
  rw [eb]
  have e : d - f.b * f.b = (-(f.a * f.c)) * 4 := by rw [← hd]; unfold disc; grind
  unfold rowI
  rw [if_pos (by rw [e]; exact Int.mul_fmod_left _ _)]
  refine List.mem_flatMap.mpr ⟨(f.a.natAbs - 1), List.mem_range.mpr ?_, ?_⟩
  · have k2 := fdm (w + f.b) 2
    have k3 := fmod_pos (x := w + f.b) (y := 2) (by decide)
    omega
  · have ea : 1 + ((f.a.natAbs - 1 : Nat) : Int) = (f.a.natAbs : Int) := by omega
    rw [ea]
    unfold cellI
    have er : (d - f.b * f.b).fdiv 4 = -(f.a * f.c) := by rw [e, Int.mul_fdiv_cancel _ (by decide)]
    rw [er]
    rcases Int.lt_or_le f.a 0 with hs | hs
    · have e1 : -(f.a * f.c) = f.c * (f.a.natAbs : Int) := by
        rw [show (f.a.natAbs : Int) = -f.a by omega]; grind
      rw [if_pos ⟨by rw [e1]; exact Int.mul_fmod_left _ _, by omega⟩]
      refine List.mem_filter.mpr ⟨?_, (gc_iff f).mpr hp⟩
      rw [e1, Int.mul_fdiv_cancel _ (by omega), show -(f.a.natAbs : Int) = f.a by omega]
      exact List.mem_cons_of_mem _ (List.mem_cons_self ..)
    · have e1 : -(f.a * f.c) = -f.c * (f.a.natAbs : Int) := by
        rw [show (f.a.natAbs : Int) = f.a by omega]; grind
      have e2 : -(-(f.a * f.c)) = f.c * (f.a.natAbs : Int) := by
        rw [show (f.a.natAbs : Int) = f.a by omega]; grind
      rw [if_pos ⟨by rw [e1]; exact Int.mul_fmod_left _ _, by omega⟩]
      refine List.mem_filter.mpr ⟨?_, (gc_iff f).mpr hp⟩
      rw [e2, Int.mul_fdiv_cancel _ (by omega), show (f.a.natAbs : Int) = f.a by omega]
      exact List.mem_cons_self ..
theorem CanI.eqv {f R : Fm} (h : CanI f R) : Eqv f R ∧ RR R := by
  obtain ⟨r, hr, e, o, _⟩ := h
  exact ⟨e.trans (o.eqv hr), o.rr hr⟩
theorem CanI.one {f g R S : Fm} (e : Eqv f g) (h1 : CanI f R) (h2 : CanI g S) : R = S := by
  obtain ⟨r, hr, e1, m1⟩ := h1
  obtain ⟨s, hs, e2, m2⟩ := h2
  exact MinOf.one hr (orb_eqv hr hs (e1.symm.trans (e.trans e2))) m1 m2
theorem ind_menu {d : Int} (h1 : 4 < d) (h2 : d < 300) (ns : NSq d) {M : List Fm} (hl : M.length < 64) (hn : M.Nodup) (m1 : ∀ R ∈ M, ∃ c ∈ indL d (rt d), CanI c R) (m2 : ∀ c ∈ indL d (rt d), ∃ R ∈ M, CanI c R) : Menu d M := by
  have w0 := (rt_ok (n := d) (by omega) (by omega)).1
  have rr : ∀ c ∈ indL d (rt d), Prim c ∧ disc c = d ∧ RR c := fun c hc => by
    obtain ⟨a, b, e⟩ := indL_mem w0 hc
    exact ⟨a, b, ⟨by unfold wd; rw [b]; exact e, by rw [b]; exact ns, by omega, by omega⟩⟩
  refine ⟨fun R hR => ?_, hn, by omega, fun f R p1 p2 p3 p4 => ?_⟩
  · obtain ⟨c, hc, k⟩ := m1 R hR
    obtain ⟨a, b, r⟩ := rr c hc
    obtain ⟨e, q⟩ := k.eqv
    have ed : disc R = d := by rw [← e.disc, b]
    refine ⟨Prim.eqv e a, ed, .inr ⟨by rw [ed]; exact ns, by omega, by omega⟩, .inr ⟨by omega, ?_⟩, q.small⟩
    obtain ⟨s, hs, e1, m⟩ := k
    exact ⟨s, hs, e.symm.trans e1, m⟩
  · rcases p4 with ⟨q1, _⟩ | ⟨_, q2⟩
    · omega
    · obtain ⟨r, hr, e, m⟩ := id q2
      have er : disc r = d := by rw [← e.disc, p2]
      have hm : r ∈ indL d (rt d) := indL_all (by have := hr.r; unfold wd at this; rw [er] at this; exact this) (Prim.eqv e p1) er
      obtain ⟨S, hS, k⟩ := m2 r hm
      rw [CanI.one e q2 k]
      exact hS
end K19
/-! K19W7 -/
set_option Elab.async false
set_option linter.all false
set_option maxRecDepth 100000
set_option maxHeartbeats 4000000
namespace K19
open PySem PySem.Spec PyProof.Rows L2
open Evl (Ex)
local macro_rules | `(tactic| walk_at "bd") => `(tactic| first | assumption | exact Bd.lit (n := 4) rfl | exact Bd.lit (n := 32) rfl | (apply Bd.mul <;> walk_at "bd") | (apply Bd.add <;> walk_at "bd") | (apply Bd.sub <;> walk_at "bd") | (apply Bd.neg; walk_at "bd") | (apply Bd.fdiv; walk_at "bd"))
local macro_rules | `(tactic| walk_at "cm") => `(tactic| (apply cm_of; walk_at "bd"; walk_at "bd"; first | decide | omega))
local macro_rules | `(tactic| walk_at "dv") => `(tactic| first | exact dv_var rfl | exact dv_int | exact dv_str | exact dv_bl | assumption | (apply dv_ix0; walk_at "dv") | (apply dv_ix1; walk_at "dv") | (apply dv_ix2; walk_at "dv") | (apply dv_ix3; walk_at "dv") | (apply dv_add <;> walk_at "dv") | (apply dv_sub <;> walk_at "dv") | (apply dv_mul; walk_at "dv"; walk_at "dv"; walk_at "cm") | (apply dv_neg; walk_at "dv") | (apply dv_lt <;> walk_at "dv") | (apply dv_le <;> walk_at "dv") | (apply dv_gt <;> walk_at "dv") | (apply dv_ge <;> walk_at "dv") | (apply dv_eqI <;> walk_at "dv") | (apply dv_neI <;> walk_at "dv") | (apply dv_t2 <;> walk_at "dv") | (apply dv_t3 <;> walk_at "dv") | (apply dv_t4 <;> walk_at "dv") | (apply dv_abs; walk_at "dv") | (apply dv_intI; walk_at "dv"))
local macro_rules | `(tactic| walk_at "p2") => `(tactic| (apply ds_p2; walk_at "dv"; walk_at "dv"))
local macro_rules | `(tactic| walk_at "p2e") => `(tactic| (apply ds_p2e; walk_at "dv"; walk_at "dv"))
local macro_rules | `(tactic| walk_at "p3") => `(tactic| (apply ds_p3; walk_at "dv"; walk_at "dv"; walk_at "dv"))
local macro_rules | `(tactic| walk_at "set") => `(tactic| (apply ds_set'; walk_at "dv"))
local macro_rules | `(tactic| walk_at "sete") => `(tactic| (apply ds_sete; walk_at "dv"))
local macro_rules | `(tactic| walk_at "ret") => `(tactic| (apply ds_ret'; walk_at "dv"))
section
variable {P : Program} {w : World} {K : PySem.W.Frag} {mg : Str → Option Value} {base : Heap}

/-- the canonical forms of these candidates, in turn -/
def GoodL (n : Nat) (cs : List Fm) (s : List PyData) : Prop := ∃ L : List Fm, s = L.map fmD ∧ (∀ R ∈ L, ∃ c ∈ cs, CanI c R) ∧ (∀ c ∈ cs, ∃ R ∈ L, CanI c R) ∧ L.length ≤ n ∧ L.length = cs.length
theorem GoodL.nil : GoodL 0 [] [] := ⟨[], rfl, (fun R h => by cases h), (fun R h => by cases h), Nat.le_refl _, rfl⟩
theorem GoodL.mono {m n : Nat} {cs : List Fm} {s : List PyData} (h : GoodL m cs s) (e : m ≤ n) : GoodL n cs s := by
  obtain ⟨L, a, b, c, d, f⟩ := h
  exact ⟨L, a, b, c, by omega, f⟩
theorem GoodL.snoc {n : Nat} {cs : List Fm} {s : List PyData} {c R : Fm} (h : GoodL n cs s) (k : CanI c R) : GoodL (n + 1) (cs ++ [c]) (K19.snoc s (fmD R)) := by
  obtain ⟨L, rfl, b, b', d, f⟩ := h
  refine ⟨L ++ [R], snoc_map L R, fun S hS => ?_, fun c' hc => ?_, by rw [List.length_append]; simp only [List.length_singleton]; omega, by rw [List.length_append, List.length_append, f]; rfl⟩
  · rcases List.mem_append.mp hS with hS | hS
    · obtain ⟨c', hc, q⟩ := b S hS
      exact ⟨c', List.mem_append_left _ hc, q⟩
    · rw [List.mem_singleton.mp hS]
      exact ⟨c, List.mem_append_right _ (List.mem_singleton.mpr rfl), k⟩
  · rcases List.mem_append.mp hc with hc | hc
    · obtain ⟨S, hS, q⟩ := b' c' hc
      exact ⟨S, List.mem_append_left _ hS, q⟩
    · rw [List.mem_singleton.mp hc]
      exact ⟨R, List.mem_append_right _ (List.mem_singleton.mpr rfl), k⟩
def fmL (f : Fm) : List Int := [f.a, f.b, f.c]
def toF (l : List Int) : Fm := ⟨l.getD 0 0, l.getD 1 0, l.getD 2 0⟩
theorem keys_of {H : Hp} : ∀ {L : List Fm} {vs : List V}, DpAll K H vs (L.map fmD) → ∃ ks : List (Addr × List Int), vs = ks.map (fun p => V.ref p.1) ∧ ks.map (·.2) = L.map fmL ∧ ∀ p ∈ ks, SqT K H p.1 (p.2.map V.int)
  | [], _, .nil => ⟨[], rfl, rfl, fun p h => by cases h⟩
  | f :: L, _, .cons d1 d2 => by
    obtain ⟨ks, e1, e2, e3⟩ := keys_of d2
    obtain ⟨t, e, ht⟩ := dp_tupI d1
    subst e
    refine ⟨(t, fmL f) :: ks, by rw [e1]; rfl, by rw [List.map_cons, e2]; rfl, fun p hp => ?_⟩
    rcases List.mem_cons.mp hp with rfl | hp
    · exact ht
    · exact e3 p hp
theorem dp_of_key {H : Hp} {t : Addr} {f : Fm} (h : SqT K H t ((fmL f).map V.int)) : Dp K H (.ref t) (fmD f) := .tup h (dps_of_ints (fmL f))
theorem dps_of_keys {H : Hp} : ∀ (ks : List (Addr × List Int)), (∀ p ∈ ks, SqT K H p.1 (p.2.map V.int) ∧ p.2 = fmL (toF p.2)) → DpAll K H (ks.map fun p => V.ref p.1) ((ks.map fun p => toF p.2).map fmD)
  | [], _ => .nil
  | p :: ks, h => .cons (dp_of_key (by rw [← (h p (List.mem_cons_self ..)).2]; exact (h p (List.mem_cons_self ..)).1)) (dps_of_keys ks fun q hq => h q (List.mem_cons_of_mem _ hq))
theorem srt_set {P0 : Program} {B : Hp} {p : Addr} {j : Nat} {e : Env'} {L : List Fm} {P : GOut (List PyData) → Prop} (hl : L.length < 64) (hb : ∀ f ∈ L, BdF 10 f) (k : ∀ M : List Fm, M.Nodup → M.length < 64 → (∀ f, f ∈ M ↔ f ∈ L) → P (.rt (.list (M.map fmD)) (L.map fmD))) :
    GS (OL K B p j) (tRet (tCB (rSortedW K P0 w) (tCons (tCB (rSetOfT K P0 w) (tCons (tVar j) tNil)) tNil))) e (L.map fmD) P := gs_retX fun σ H g Q q => by
  obtain ⟨vs, h0, d0⟩ := g.ob
  have h0 : H p = some (.lst vs) := h0
  have d0 : DpAll K (rm p H) vs (L.map fmD) := d0
  obtain ⟨ks, e1, e2, e3⟩ := keys_of d0
  have key : ∀ p ∈ ks, ∃ f ∈ L, p.2 = fmL f := fun q hq => by
    have : q.2 ∈ L.map fmL := by rw [← e2]; exact List.mem_map.mpr ⟨q, hq, rfl⟩
    obtain ⟨f, hf, e⟩ := List.mem_map.mp this
    exact ⟨f, hf, e.symm⟩
  have klen : ks.length = L.length := by
    have := congrArg List.length e2
    simpa using this
  refine ⟨.ref p, g.jj, p, ks, rfl, by rw [← e1]; exact SqL.of h0, fun q hq => Evl.ex_t rm_le (e3 q hq), by omega, fun a S ha s1 s2 => ?_⟩
  have x1 : Ex H (upd H a (SetTO P0 w a S)) := ex_new ha
  refine ⟨a, S, 3, 1024, rfl, upd_same, fun q hq => Evl.ex_t (rm_le.trans x1) (e3 q (s1 q hq)), by decide, fun q hq => ?_, fun S' b hp hn hs hb2 => ?_⟩
  · obtain ⟨f, hf, e⟩ := key q (s1 q hq)
    rw [e]
    exact ⟨rfl, wide_fm (hb f hf)⟩
  · have inS : ∀ q ∈ S', q ∈ ks := fun q hq => s1 q (hp.mem_iff.mp hq)
    have kf : ∀ q ∈ S', q.2 = fmL (toF q.2) := fun q hq => by
      obtain ⟨f, hf, e⟩ := key q (inS q hq)
      rw [e]
      rfl
    refine q _ _ _ (k (S'.map fun q => toF q.2) ?_ (by rw [List.length_map]; exact hs) fun f => ⟨fun hf => ?_, fun hf => ?_⟩) (x1.trans (ex_new hb2)) (.lst (SqL.of upd_same) (dps_of_keys S' fun q hq => ⟨Evl.ex_t ((rm_le.trans x1).trans (ex_new hb2)) (e3 q (inS q hq)), kf q hq⟩))
    · refine List.pairwise_map.mpr (List.Pairwise.imp_of_mem (fun {x y} hx hy ne e => ?_) (List.pairwise_map.mp hn))
      exact ne (by rw [kf x hx, kf y hy, e])
    · obtain ⟨q, hq, e⟩ := List.mem_map.mp hf
      obtain ⟨f', hf', e'⟩ := key q (inS q hq)
      have : f = f' := by rw [← e, e']; rfl
      rw [this]
      exact hf'
    · have : fmL f ∈ ks.map (·.2) := by rw [e2]; exact List.mem_map.mpr ⟨f, hf, rfl⟩
      obtain ⟨q, hq, e⟩ := List.mem_map.mp this
      have h2 := s2 q hq
      obtain ⟨r, hr, e'⟩ := List.mem_map.mp h2
      refine List.mem_map.mpr ⟨r, hp.mem_iff.mpr hr, ?_⟩
      have e' : r.2 = q.2 := e'
      have e : q.2 = fmL f := e
      rw [e', e]
      rfl
abbrev spIndefiniteClasses (K : PySem.W.Frag) : Sp := spA K 1 (fun d : Int => [.int d]) (fun d => 4 < d ∧ d < 300 ∧ NSq d) fun d z => ∃ L : List Fm, z = .list (L.map fmD) ∧ Menu d L
theorem okIndefiniteClasses (T : Tx K mg) : FnOk P w K mg base CX0 5 T.xIndefiniteClasses.f T.xIndefiniteClasses.fd ["d"] (spIndefiniteClasses K) := by
  have GContent : FnOk P w K mg base CX0 3 T.xContent.f T.xContent.fd ["form"] (spContent K) := okContent T
  have GCanonical : FnOk P w K mg base CX0 4 T.xCanonical.f T.xCanonical.fd ["form"] (spCanonical K) := okCanonical T
  have GFloorRoot : FnOk P w K mg base CX0 1 T.xFloorRoot.f T.xFloorRoot.fd ["n"] (spFloorRoot K) := okFloorRoot T
  refine fn_dataA T.xIndefiniteClasses.F scIndefiniteClasses rfl fun cdv A outer s H E hr => ⟨_, (pss_cons (ps_set (i := 1) scIndefiniteClasses.nd rfl (Or.inl rfl) (pe_lst pa_nil)) (pss_cons (ps_set (i := 2) scIndefiniteClasses.nd rfl (Or.inl rfl) (pe_call GFloorRoot (hr.mono (by decide)) (by rfl) T.xFloorRoot.g T.xFloorRoot.F.kp T.xFloorRoot.b .nil pass0 (pa_cons (pv 0) pa_nil))) (pss_cons (ps_for PassesOwn.never rfl (pi_range2 (by rfl) T.range (pa_cons pe_int (pa_cons (pe_op op_add (pv 2) pe_int) pa_nil))) (pg_name (i := 3) scIndefiniteClasses.nd rfl (Or.inl rfl)) (pss_one (ps_if (pt_cmpR op_eq (pe_op op_modN (pe_op op_sub (pv 0) (pe_op op_mulW (pv 3) (pv 3))) pe_int) pe_int (nomark _)) (pss_cons (ps_set (i := 4) scIndefiniteClasses.nd rfl (Or.inl rfl) (pe_op op_fdivZ (pe_op op_sub (pv 0) (pe_op op_mulW (pv 3) (pv 3))) pe_int)) (pss_one (ps_for PassesOwn.never rfl (pi_range2 (by rfl) T.range (pa_cons pe_int (pa_cons (pe_op op_add (pe_op op_fdivZ (pe_op op_add (pv 2) (pv 3)) pe_int) pe_int) pa_nil))) (pg_name (i := 5) scIndefiniteClasses.nd rfl (Or.inl rfl)) (pss_one (ps_if (PW.pt (pw_and (pt_cmpR op_eq (pe_op op_modN (pv 4) (pv 5)) pe_int (nomark _)) (pw_and1 (pt_cmpR op_lt (pe_op op_sub (pv 2) (pv 3)) (pe_op op_mulW pe_int (pv 5)) (nomark _))))) (pss_one (ps_for PassesOwn.never rfl (pi_list (pe_lst (pa_cons (pe_tup (pa_cons (pv 5) (pa_cons (pv 3) (pa_cons (pe_op op_fdivZ (pe_un un_neg (pv 4)) (pv 5)) pa_nil)))) (pa_cons (pe_tup (pa_cons (pe_un un_neg (pv 5)) (pa_cons (pv 3) (pa_cons (pe_op op_fdivZ (pv 4) (pv 5)) pa_nil)))) pa_nil)))) (pg_name (i := 6) scIndefiniteClasses.nd rfl (Or.inl rfl)) (pss_one (ps_if (pt_cmpR op_eq (pe_call GContent (hr.mono (by decide)) (by rfl) T.xContent.g T.xContent.F.kp T.xContent.b .nil pass0 (pa_cons (pv 6) pa_nil)) pe_int (nomark _)) (pss_one (ps_expr (pe_bm PySem.F.plainAttrs_list PySem.F.slot_list_append PySem.F.type_list_append mt_append (pv 1) (pa_cons (pe_ix ix_tup (pe_call GCanonical (hr.mono (by decide)) (by rfl) T.xCanonical.g T.xCanonical.F.kp T.xCanonical.b .nil pass0 (pa_cons (pv 6) pa_nil)) pe_int (fun _ _ => rfl)) pa_nil)))) pss_nil)))) pss_nil))))) pss_nil))) (pss_one (ps_ret (pe_callB (cr_sortedW rfl) (by rfl) T.sorted (by decide +kernel) (pa_cons (pe_callTy (cr_setOfT rfl hr.units) (by rfl) T.set (by decide +kernel) (pa_cons (pv 1) pa_nil)) pa_nil))))))), fun d hp => ?_⟩
  obtain ⟨h1, h2, ns⟩ := id hp
  obtain ⟨w0, w20, wlo, whi⟩ := rt_ok (n := d) (by omega) (by omega)
  have few := indL_few h1 h2 ns
  generalize hw : rt d = v at *
  refine ds_own (by show 1 < 7; decide) (da_nil ⟨by show 0 ≤ 1000; decide, fun B p => ?_⟩)
  refine gs_set' (d := .int v) (show (2 : Nat) ≠ 1 by decide) (dv_callA d rfl ⟨by omega, by omega⟩ (das1 (dv_var rfl)) fun z h => by rw [h, hw]) rfl ?_
  have bd : Bd 16 d := by unfold Bd; omega
  refine gs_seq (gs_rng2 (show (3 : Nat) ≠ 1 by decide) (fun k e s => ∃ (x3 x4 x5 x6 : Option PyData), e = [some (.int d), none, some (.int v), x3, x4, x5, x6] ∧ GoodL (100 * k) ((List.range k).flatMap fun (i : Nat) => rowI d v (1 + (i : Int))) s)
    dv_int (dv_add (dv_var rfl) dv_int) (by omega) (by omega) ⟨_, _, _, _, rfl, GoodL.nil⟩ ?_ ?_)
  · rintro k e s hk ⟨x3, x4, x5, x6, rfl, gl⟩
    have cell := flat_succ (fun (i : Nat) => rowI d v (1 + (i : Int))) k
    generalize hb : 1 + (k : Int) = b at *
    have bb : Bd 8 b := by unfold Bd; omega
    have bsq : Bd 20 (d - b * b) := (Bd.sub bd (Bd.mul bb bb)).mono (by decide)
    have cb : rowI d v b = if (d - b * b).fmod 4 = 0 then (List.range ((v + b).fdiv 2 + 1 - 1).toNat).flatMap fun (i : Nat) => cellI d v b (1 + (i : Int)) else [] := rfl
    refine gs_if (dt_test (dv_eqI (dv_mod (dv_sub (dv_var rfl) (dv_mul (dv_var rfl) (dv_var rfl) (by walk_at "cm"))) dv_int (by decide)) dv_int)) (fun h0 => ?_) fun h => ?_
    · rw [if_pos (of_decide_eq_true h0)] at cb
      rw [cell, cb]
      refine gs_set' (show (4 : Nat) ≠ 1 by decide) (dv_div (dv_sub (dv_var rfl) (dv_mul (dv_var rfl) (dv_var rfl) (by walk_at "cm"))) dv_int ⟨by decide, by decide⟩) rfl ?_
      have hh : 0 ≤ (v + b).fdiv 2 ∧ (v + b).fdiv 2 ≤ 40 := by
        have k2 := fdm (v + b) 2
        have k3 := fmod_pos (x := v + b) (y := 2) (by decide)
        omega
      refine gs_rng2 (show (5 : Nat) ≠ 1 by decide) (fun i e s => ∃ (x5 x6 : Option PyData), e = [some (.int d), none, some (.int v), some (.int b), some (.int ((d - b * b).fdiv 4)), x5, x6] ∧
        GoodL (100 * k + 2 * i) (((List.range k).flatMap fun (i : Nat) => rowI d v (1 + (i : Int))) ++ (List.range i).flatMap fun (i : Nat) => cellI d v b (1 + (i : Int))) s)
        dv_int (dv_add (dv_div (dv_add (dv_var rfl) (dv_var rfl)) dv_int ⟨by decide, by decide⟩) dv_int) (by omega) (by omega) ⟨_, _, rfl, by rw [List.range_zero, List.flatMap_nil, List.append_nil]; exact gl⟩ ?_ ?_
      · rintro i e s hi ⟨x5, x6, rfl, gl⟩
        have cell2 := flat_succ (fun (i : Nat) => cellI d v b (1 + (i : Int))) i
        generalize ha : 1 + (i : Int) = a at *
        generalize hr : (d - b * b).fdiv 4 = r at *
        have ba : Bd 8 a := by unfold Bd; omega
        have br : Bd 20 r := by rw [← hr]; exact Bd.fdiv bsq
        have cb2 : cellI d v b a = if (r.fmod a = 0) ∧ v - b < 2 * a then [⟨a, b, (-r).fdiv a⟩, ⟨-a, b, r.fdiv a⟩].filter gc else [] := by rw [← hr]; rfl
        refine gs_if (dt_and (dt_test (dv_eqI (dv_mod (dv_var rfl) (dv_var rfl) (by omega)) dv_int)) fun _ => dt_test (dv_lt (dv_sub (dv_var rfl) (dv_var rfl)) (dv_mul dv_int (dv_var rfl) (by walk_at "cm")))) (fun h => ?_) fun h => ?_
        · have h := (Bool.and_eq_true ..).mp h
          rw [if_pos ⟨of_decide_eq_true h.1, of_decide_eq_true h.2⟩] at cb2
          rw [cell2, ← List.append_assoc]
          generalize hc : (((List.range k).flatMap fun (i : Nat) => rowI d v (1 + (i : Int))) ++ (List.range i).flatMap fun (i : Nat) => cellI d v b (1 + (i : Int))) = base at *
          refine gs_forL (show (6 : Nat) ≠ 1 by decide) (([⟨a, b, (-r).fdiv a⟩, ⟨-a, b, r.fdiv a⟩] : List Fm).map fmD) (fun j e s => ∃ (x6 : Option PyData), e = [some (.int d), none, some (.int v), some (.int b), some (.int r), some (.int a), x6] ∧
            GoodL (100 * k + 2 * i + j) (base ++ (([⟨a, b, (-r).fdiv a⟩, ⟨-a, b, r.fdiv a⟩] : List Fm).take j).filter gc) s)
            (ge_lst (ga_cons (ge_v (dv_t3 (dv_var rfl) (dv_var rfl) (dv_div (dv_neg (dv_var rfl)) (dv_var rfl) (cd_of (by omega) ba (by decide)))) rfl (ga_cons (ge_v (dv_t3 (dv_neg (dv_var rfl)) (dv_var rfl) (dv_div (dv_var rfl) (dv_var rfl) (cd_of (by omega) ba (by decide)))) rfl (ga_nil ⟨by show 2 ≤ 1000; decide, rfl, _, rfl, by
              rw [List.take_zero, List.filter_nil, List.append_nil]; exact gl⟩)))))) ?_ ?_
          · rintro j dd e s hj ⟨x6, rfl, gl⟩
            rw [List.getElem?_map] at hj
            obtain ⟨f, hf, rfl⟩ := Option.map_eq_some_iff.mp hj
            have tk : ([⟨a, b, (-r).fdiv a⟩, ⟨-a, b, r.fdiv a⟩] : List Fm).take (j + 1) = ([⟨a, b, (-r).fdiv a⟩, ⟨-a, b, r.fdiv a⟩] : List Fm).take j ++ [f] := by rw [List.take_succ, hf]; rfl
            have fm : f ∈ ([⟨a, b, (-r).fdiv a⟩, ⟨-a, b, r.fdiv a⟩] : List Fm) := List.mem_of_getElem? hf
            have bf : BdF 250 f := by
              simp only [List.mem_cons, List.not_mem_nil, or_false] at fm
              rcases fm with rfl | rfl
              · exact ⟨ba.mono (by decide), bb.mono (by decide), (Bd.fdiv br.neg).mono (by decide)⟩
              · exact ⟨ba.neg.mono (by decide), bb.mono (by decide), (Bd.fdiv br).mono (by decide)⟩
            have jl : j < 2 := (List.getElem?_eq_some_iff.mp hf).1
            rw [tk, List.filter_append]
            refine gs_if (dt_test (dv_eqI (dv_callA f rfl (bf.mono (by decide)) (das1 (dv_var rfl)) fun z h => h) dv_int)) (fun h3 => ?_) fun h3 => ?_
            · rw [← gc_cast] at h3
              have mem : f ∈ cellI d v b a := by rw [cb2]; exact List.mem_filter.mpr ⟨fm, h3⟩
              obtain ⟨_, m2, _⟩ := cellI_mem (by omega) (of_decide_eq_true h0) mem
              have fo : IndF f := ⟨⟨bf, by rw [m2]; exact ns, by omega, by omega⟩, by omega⟩
              refine gs_app (ge_ixT (n := 0) (ge_call (ga_cons (ge_var (i := 6) rfl (ga_nil ⟨f, rfl, rfl, fo, fun z hz => ?_⟩)))))
              obtain ⟨R, m, rfl, cn, _⟩ := hz
              refine ⟨rfl, _, _, rfl, rfl, ?_, _, rfl, ?_⟩
              · obtain ⟨L, rfl, _, _, l1, _⟩ := gl
                rw [List.length_map]
                omega
              · rw [List.filter_cons_of_pos h3, List.filter_nil, ← List.append_assoc]
                exact gl.snoc cn
            · rw [← gc_cast] at h3
              refine gs_nil ⟨_, rfl, ?_⟩
              rw [List.filter_cons_of_neg (by rw [h3]; decide), List.filter_nil, List.append_nil]
              exact gl.mono (by omega)
          · rintro e s ⟨x6, rfl, gl⟩
            refine ⟨_, _, rfl, ?_⟩
            rw [cb2]
            exact gl.mono (by show 100 * k + 2 * i + 2 ≤ _; omega)
        · rw [if_neg (fun z => by
            rw [decide_eq_true z.1, decide_eq_true z.2] at h
            cases h)] at cb2
          rw [cell2, cb2]
          exact gs_nil ⟨_, _, rfl, by rw [List.append_nil]; exact gl.mono (by omega)⟩
      · rintro e s ⟨x5, x6, rfl, gl⟩
        exact ⟨_, _, _, _, rfl, gl.mono (by omega)⟩
    · rw [if_neg (of_decide_eq_false h)] at cb
      rw [cell, cb]
      exact gs_nil ⟨_, _, _, _, rfl, by rw [List.append_nil]; exact gl.mono (by omega)⟩
  · rintro e s ⟨x3, x4, x5, x6, rfl, gl⟩
    obtain ⟨L, rfl, g1, g2, _, g4⟩ := gl
    have fw : L.length ≤ 60 := by rw [g4]; exact few
    refine gs_then (srt_set (by omega) (fun f hf => ?_) fun M hn hl hm => ⟨M, rfl, ?_⟩)
    · obtain ⟨c, _, k⟩ := g1 f hf
      exact k.eqv.2.small
    · refine ind_menu h1 h2 ns hl hn (fun R hR => ?_) fun c hc => ?_
      · rw [hw]; exact g1 R ((hm R).mp hR)
      · rw [hw] at hc
        obtain ⟨R, hR, k⟩ := g2 c hc
        exact ⟨R, (hm R).mpr hR, k⟩
end
end K19
/-! K19Cop -/
set_option maxRecDepth 10000
set_option linter.all false
namespace K19
/-! ### primes, a value without a part in common with n -/
def Pr (p : Nat) : Prop := 2 ≤ p ∧ ∀ d, d ∣ p → d = 1 ∨ d = p
theorem pr_ex : ∀ n : Nat, n ≠ 1 → ∃ p, Pr p ∧ p ∣ n := by
  intro n
  induction n using Nat.strongRecOn with
  | ind n ih =>
    intro h
    by_cases h0 : n = 0
    · subst h0
      refine ⟨2, ⟨Nat.le_refl _, fun d hd => ?_⟩, Nat.dvd_zero 2⟩
      have := Nat.le_of_dvd (by decide) hd
      have : d ≠ 0 := by rintro rfl; simp at hd
      omega
    · by_cases q : ∀ d, d ∣ n → d = 1 ∨ d = n
      · exact ⟨n, ⟨by omega, q⟩, Nat.dvd_refl n⟩
      · have ⟨d, hd⟩ := Classical.not_forall.mp q
        have ⟨hd1, hd2⟩ := Classical.not_imp.mp hd
        have le := Nat.le_of_dvd (by omega) hd1
        obtain ⟨p, hp, hpd⟩ := ih d (by omega) (by omega)
        exact ⟨p, hp, Nat.dvd_trans hpd hd1⟩
theorem Pr.mul {p : Nat} (h : Pr p) {x y : Int} (e : (p : Int) ∣ x * y) : (p : Int) ∣ x ∨ (p : Int) ∣ y := by
  have e : p ∣ x.natAbs * y.natAbs := by
    have := Int.natAbs_dvd_natAbs.mpr e
    rwa [Int.natAbs_mul, Int.natAbs_natCast] at this
  rcases h.2 _ (Nat.gcd_dvd_left p x.natAbs) with g | g
  · right
    have := Nat.Coprime.dvd_of_dvd_mul_left (show Nat.Coprime p x.natAbs from g) e
    exact Int.natAbs_dvd_natAbs.mp (by rw [Int.natAbs_natCast]; exact this)
  · left
    have : p ∣ x.natAbs := by
      have := Nat.gcd_dvd_right p x.natAbs
      rwa [g] at this
    exact Int.natAbs_dvd_natAbs.mp (by rw [Int.natAbs_natCast]; exact this)
theorem cop_pr {a b : Int} (h : ∀ p : Nat, Pr p → (p : Int) ∣ a → (p : Int) ∣ b → False) : Cop a b := by
  rw [cop_iff]
  apply Classical.byContradiction
  intro g
  obtain ⟨p, hp, e⟩ := pr_ex _ g
  have e' : (p : Int) ∣ ((Int.gcd a b : Nat) : Int) := Int.natCast_dvd_natCast.mpr e
  exact h p hp (Int.dvd_trans e' (Int.gcd_dvd_left ..)) (Int.dvd_trans e' (Int.gcd_dvd_right ..))
theorem Cop.pr {a b : Int} (h : Cop a b) {p : Nat} (hp : Pr p) (h1 : (p : Int) ∣ a) (h2 : (p : Int) ∣ b) : False := by
  obtain ⟨u, v, e⟩ := h
  have k : (p : Int) ∣ 1 := by
    rw [← e]
    exact Int.dvd_add (Int.dvd_trans h1 (Int.dvd_mul_left ..)) (Int.dvd_trans h2 (Int.dvd_mul_left ..))
  have k2 := Int.natAbs_dvd_natAbs.mpr k
  simp only [Int.natAbs_natCast, Int.natAbs_one] at k2
  have := Nat.dvd_one.mp k2
  have := hp.1
  omega
/-- n split by a -/
theorem split_by (a : Int) : ∀ n : Nat, 0 < n → ∃ y z : Nat, n = y * z ∧ Cop (y : Int) a ∧ ∀ p, Pr p → p ∣ z → (p : Int) ∣ a := by
  intro n
  induction n using Nat.strongRecOn with
  | ind n ih =>
    intro h0
    by_cases g : Nat.gcd n a.natAbs = 1
    · refine ⟨n, 1, (Nat.mul_one n).symm, cop_iff.mpr g, fun p hp e => ?_⟩
      have := Nat.dvd_one.mp e
      have := hp.1
      omega
    · have g0 : 0 < Nat.gcd n a.natAbs := Nat.gcd_pos_of_pos_left _ h0
      obtain ⟨m, hm⟩ := Nat.gcd_dvd_left n a.natAbs
      have m0 : 0 < m := by
        apply Nat.pos_of_ne_zero; rintro rfl
        omega
      have lt : m < n := by
        have : 2 * m ≤ Nat.gcd n a.natAbs * m := Nat.mul_le_mul_right m (by omega)
        omega
      obtain ⟨y, z, e, c, q⟩ := ih m lt m0
      refine ⟨y, z * Nat.gcd n a.natAbs, ?_, c, fun p hp e2 => ?_⟩
      · rw [← Nat.mul_assoc, ← e, Nat.mul_comm]
        exact hm
      · have e3 : (p : Int) ∣ (z : Int) * ((Nat.gcd n a.natAbs : Nat) : Int) := by
          have := Int.natCast_dvd_natCast.mpr e2
          rwa [Int.natCast_mul] at this
        rcases hp.mul e3 with k | k
        · exact q p hp (Int.natCast_dvd_natCast.mp k)
        · refine Int.dvd_trans k ?_
          exact Int.natAbs_dvd_natAbs.mp (by rw [Int.natAbs_natCast]; exact Nat.gcd_dvd_right ..)
theorem col_ex {f : Fm} (hp : Prim f) {n : Int} (hn : n ≠ 0) : ∃ x y : Int, 1 ≤ x ∧ 1 ≤ y ∧ x + y ≤ (n.natAbs : Int) + 1 ∧ Cop x y ∧ Cop (val f x y) n := by
  obtain ⟨y, z, e1, c1, q1⟩ := split_by f.a n.natAbs (by omega)
  have z0 : 0 < z := by
    apply Nat.pos_of_ne_zero; rintro rfl
    omega
  have y0 : 0 < y := by
    apply Nat.pos_of_ne_zero; rintro rfl
    omega
  obtain ⟨x, t, e2, c2, q2⟩ := split_by f.c z z0
  have x0 : 0 < x := by
    apply Nat.pos_of_ne_zero; rintro rfl
    omega
  have t0 : 0 < t := by
    apply Nat.pos_of_ne_zero; rintro rfl
    omega
  have xy : ∀ p, Pr p → p ∣ x → (p : Int) ∣ (y : Int) → False := fun p h a b => c1.pr h b (q1 p h (e2 ▸ Nat.dvd_trans a (Nat.dvd_mul_right ..)))
  refine ⟨x, y, by omega, by omega, ?_, cop_pr fun p h a b => xy p h (Int.natCast_dvd_natCast.mp a) b, cop_pr fun p h a b => ?_⟩
  · have l1 : x * y ≤ n.natAbs := by
      rw [e1, e2]
      have : y * x * 1 ≤ y * x * t := Nat.mul_le_mul_left _ t0
      rw [Nat.mul_one, Nat.mul_assoc y x t, Nat.mul_comm y x] at this
      exact this
    have l2 : x + y ≤ x * y + 1 := by
      obtain ⟨i, rfl⟩ : ∃ i, x = i + 1 := ⟨x - 1, by omega⟩
      obtain ⟨j, rfl⟩ : ∃ j, y = j + 1 := ⟨y - 1, by omega⟩
      have : (i + 1) * (j + 1) = i * j + i + j + 1 := by grind
      omega
    omega
  · have ev : val f x y = f.a * ((x : Int) * x) + (y : Int) * (f.b * x + f.c * y) := by unfold val; grind
    have ev2 : val f x y = f.c * ((y : Int) * y) + (x : Int) * (f.a * x + f.b * y) := by unfold val; grind
    have ev3 : val f x y = f.b * ((x : Int) * y) + (f.a * ((x : Int) * x) + f.c * ((y : Int) * y)) := by unfold val; grind
    have part : ∀ {u v : Int}, (p : Int) ∣ u + v → (p : Int) ∣ v → (p : Int) ∣ u := fun {u v} h1 h2 => by
      have := Int.dvd_sub h1 h2
      rwa [show u + v - v = u by omega] at this
    have b' : (p : Int) ∣ (y : Int) * ((x : Int) * (t : Int)) := by
      have b2 : p ∣ n.natAbs := by
        have := Int.natAbs_dvd_natAbs.mpr b
        rwa [Int.natAbs_natCast] at this
      rw [e1, e2] at b2
      have := Int.natCast_dvd_natCast.mpr b2
      rwa [Int.natCast_mul, Int.natCast_mul] at this
    rcases h.mul b' with k | k
    · rw [ev] at a
      rcases h.mul (part a (Int.dvd_trans k (Int.dvd_mul_right ..))) with l | l
      · exact c1.pr h k l
      · rcases h.mul l with l | l <;> exact xy p h (Int.natCast_dvd_natCast.mp l) k
    · rcases h.mul k with k | k
      · rw [ev2] at a
        rcases h.mul (part a (Int.dvd_trans k (Int.dvd_mul_right ..))) with l | l
        · exact c2.pr h k l
        · rcases h.mul l with l | l <;> exact xy p h (Int.natCast_dvd_natCast.mp k) l
      · have ka : (p : Int) ∣ f.a := q1 p h (e2 ▸ Nat.dvd_trans (Int.natCast_dvd_natCast.mp k) (Nat.dvd_mul_left ..))
        have kc : (p : Int) ∣ f.c := q2 p h (Int.natCast_dvd_natCast.mp k)
        rw [ev3] at a
        rcases h.mul (part a (Int.dvd_add (Int.dvd_trans ka (Int.dvd_mul_right ..)) (Int.dvd_trans kc (Int.dvd_mul_right ..)))) with l | l
        · obtain ⟨u, v, w, e⟩ := hp
          have one : (p : Int) ∣ 1 := by
            rw [← e]
            exact Int.dvd_add (Int.dvd_add (Int.dvd_trans ka (Int.dvd_mul_left ..)) (Int.dvd_trans l (Int.dvd_mul_left ..))) (Int.dvd_trans kc (Int.dvd_mul_left ..))
          have k2 := Int.natAbs_dvd_natAbs.mpr one
          simp only [Int.natAbs_natCast, Int.natAbs_one] at k2
          have := Nat.dvd_one.mp k2
          have := h.1
          omega
        · rcases h.mul l with l | l
          · exact c2.pr h l kc
          · exact c1.pr h l ka
end K19
/-! K19Uni -/
set_option maxRecDepth 10000
set_option linter.all false
namespace K19
/-! ### composing, by cubes -/
def Comp (F G H : Fm) : Prop := ∃ m : Cb, cF m = F ∧ cG m = G ∧ cH m = H
theorem comp_unique {F G H F' G' H' : Fm} (h : Comp F G H) (h' : Comp F' G' H') (e1 : Eqv F F') (e2 : Eqv G G') (p : Prim F) : Eqv H H' := by
  obtain ⟨m, rfl, rfl, rfl⟩ := h
  obtain ⟨n, rfl, rfl, rfl⟩ := h'
  obtain ⟨s, ds, es⟩ := id e1
  obtain ⟨t, dt, et⟩ := id e2
  have f1 : cF (cB (cA m s) t) = cF n := by rw [cB_F _ dt, cA_F, es]
  have f2 : cG (cB (cA m s) t) = cG n := by rw [cB_G, cA_G _ ds, et]
  obtain ⟨u, du, eu⟩ := cube_one f1 f2 (by rw [f1]; exact Prim.eqv e1 p)
  refine ⟨⟨u.s, -u.q, -u.r, u.p⟩, ?_, ?_⟩
  · simp only [det] at du ⊢
    grind
  · rw [eu, cU_H, cB_H _ dt, cA_H _ ds]
theorem comp_united (a1 a2 B C : Int) : Comp ⟨a1, B, a2 * C⟩ ⟨a2, B, a1 * C⟩ ⟨a1 * a2, B, C⟩ := by
  refine ⟨⟨1, 0, 0, -C, 0, a1, a2, B⟩, ?_, ?_, ?_⟩ <;> apply Fm.ext' <;> simp only [cF, cG, cH] <;> grind
theorem comp_comm {F G H : Fm} (h : Comp F G H) : Comp G F H := by
  obtain ⟨m, rfl, rfl, rfl⟩ := h
  refine ⟨⟨m.x0, m.x2, m.x1, m.x3, m.y0, m.y2, m.y1, m.y3⟩, ?_, ?_, ?_⟩ <;> apply Fm.ext' <;> simp only [cF, cG, cH] <;> grind
def oppF (f : Fm) : Fm := ⟨f.a, -f.b, f.c⟩
theorem oppF_disc (f : Fm) : disc (oppF f) = disc f := by
  unfold disc oppF
  simp only
  grind
theorem comp_opp {F G H : Fm} (h : Comp F G H) : Comp (oppF F) (oppF G) (oppF H) := by
  obtain ⟨m, rfl, rfl, rfl⟩ := h
  refine ⟨⟨m.x0, -m.x1, -m.x2, m.x3, -m.y0, m.y1, m.y2, -m.y3⟩, ?_, ?_, ?_⟩ <;> apply Fm.ext' <;> simp only [cF, cG, cH, oppF] <;> grind
theorem opp_eqv {f g : Fm} (h : Eqv f g) : Eqv (oppF f) (oppF g) := by
  obtain ⟨m, d, rfl⟩ := h
  refine ⟨⟨m.p, -m.q, -m.r, m.s⟩, ?_, ?_⟩
  · simp only [det] at d ⊢; grind
  · apply Fm.ext' <;> simp only [act, val, oppF] <;> grind
theorem opp_opp (f : Fm) : oppF (oppF f) = f := by
  apply Fm.ext' <;> simp only [oppF] <;> omega
theorem opp_prim {f : Fm} (h : Prim f) : Prim (oppF f) := by
  obtain ⟨u, v, w, e⟩ := h
  exact ⟨u, -v, w, by simp only [oppF]; grind⟩
theorem united_prim {a1 a2 B C : Int} (h1 : Prim ⟨a1, B, a2 * C⟩) (h2 : Prim ⟨a2, B, a1 * C⟩) : Prim ⟨a1 * a2, B, C⟩ := by
  obtain ⟨u, v, w, e⟩ := h1
  obtain ⟨u', v', w', e'⟩ := h2
  simp only at e e'
  have k : (u * a1 + v * B + w * (a2 * C)) * (u' * a2 + v' * B + w' * (a1 * C)) = 1 := by rw [e, e']; rfl
  exact ⟨u * u', v * (u' * a2 + v' * B + w' * (a1 * C)) + (u * a1 + w * (a2 * C)) * v', u * a1 * (w' * a1) + w * a2 * (u' * a2) + w * a2 * (w' * (a1 * C)), by simp only; grind⟩
/-- values that are never 0 -/
def NZ (f : Fm) : Prop := ∀ x y, Cop x y → val f x y ≠ 0
theorem col_mx {x y : Int} (h : Cop x y) : ∃ m : Mx, det m = 1 ∧ m.p = x ∧ m.r = y := by
  obtain ⟨u, v, e⟩ := h
  exact ⟨⟨x, -v, y, u⟩, by simp only [det]; grind, rfl, rfl⟩
theorem nz_ns {f : Fm} (h : NSq (disc f)) : NZ f := fun x y c e => by
  obtain ⟨m, d, rfl, rfl⟩ := col_mx c
  have e2 : (act f m).a = 0 := e
  have e3 : disc (act f m) = disc f := by rw [disc_act, d]; omega
  refine h (act f m).b ?_
  rw [← e3]
  unfold disc
  rw [e2]
  omega
theorem nz_def {f : Fm} (ha : 0 < f.a) (hd : disc f < 0) : ∀ x y, Cop x y → 0 < val f x y := fun x y c => by
  apply Int.not_le.mp; intro e
  have k : 4 * f.a * val f x y = (2 * f.a * x + f.b * y) * (2 * f.a * x + f.b * y) - disc f * (y * y) := by unfold val disc; grind
  have s1 := sq_nonneg (2 * f.a * x + f.b * y)
  have s2 := sq_nonneg y
  have k2 : 0 ≤ f.a * -val f x y := Int.mul_nonneg (Int.le_of_lt ha) (by omega)
  have k3 : f.a * -val f x y = -(f.a * val f x y) := by grind
  have k4 : 4 * f.a * val f x y = 4 * (f.a * val f x y) := by grind
  have y0 : y = 0 := by
    apply Classical.byContradiction
    intro hy
    have y1 : 1 ≤ y * y := by
      have : y * y ≠ 0 := by
        intro z
        rcases Int.mul_eq_zero.mp z with z | z <;> exact hy z
      omega
    have := Int.mul_le_mul_of_nonneg_left y1 (show 0 ≤ -disc f by omega)
    have e5 : -disc f * (y * y) = -(disc f * (y * y)) := by grind
    omega
  subst y0
  obtain ⟨u, v, c⟩ := c
  have ev : val f x 0 = f.a * (x * x) := by unfold val; grind
  have x1 : 1 ≤ x * x := by
    have s3 := sq_nonneg x
    have : x * x ≠ 0 := by
      intro z
      rcases Int.mul_eq_zero.mp z with z | z <;> (subst z; omega)
    omega
  have := Int.mul_le_mul_of_nonneg_left x1 (Int.le_of_lt ha)
  omega
theorem nz_a {f : Fm} (h : NZ f) : f.a ≠ 0 := by
  have := h 1 0 ⟨1, 0, by omega⟩
  intro e
  apply this
  unfold val
  rw [e]
  omega
theorem NZ.eqv {f g : Fm} (h : NZ f) (e : Eqv f g) : NZ g := fun x y c k => by
  obtain ⟨m, d, rfl⟩ := e
  have e2 : val (act f m) x y = val f (m.p * x + m.q * y) (m.r * x + m.s * y) := by unfold act val; grind
  rw [e2] at k
  refine h _ _ ?_ k
  obtain ⟨u, v, e⟩ := c
  simp only [det] at d
  refine ⟨u * m.s - v * m.r, v * m.p - u * m.q, ?_⟩
  have : (u * m.s - v * m.r) * (m.p * x + m.q * y) + (v * m.p - u * m.q) * (m.r * x + m.s * y) = (u * x + v * y) * (m.p * m.s - m.q * m.r) := by grind
  rw [this, e, d]
  omega
theorem shift_eqv (f : Fm) (k : Int) : Eqv f ⟨f.a, f.b + 2 * f.a * k, f.a * k * k + f.b * k + f.c⟩ := ⟨mSh k, det_Sh k, act_Sh f k⟩
/-- the middle changed to B -/
theorem shift_to {f : Fm} {B k D : Int} (e : B = f.b + 2 * f.a * k) (hd : disc f = D) : ∃ c, Eqv f ⟨f.a, B, c⟩ ∧ B * B - 4 * f.a * c = D := by
  refine ⟨f.a * k * k + f.b * k + f.c, by rw [e]; exact shift_eqv f k, ?_⟩
  rw [← hd, e]
  unfold disc
  grind
theorem parity {f g : Fm} (h : disc f = disc g) : ∃ e, g.b = f.b + 2 * e := by
  have k : ∃ e, g.b - f.b = 2 * e := by
    unfold disc at h
    have h2 : (g.b - f.b) * (g.b + f.b) = 4 * (g.a * g.c - f.a * f.c) := by grind
    rcases Int.emod_two_eq (g.b - f.b) with e | e
    · exact ⟨(g.b - f.b) / 2, by omega⟩
    · exfalso
      obtain ⟨q, hq⟩ : ∃ q, g.b - f.b = 2 * q + 1 := ⟨(g.b - f.b) / 2, by omega⟩
      have e2 : g.b + f.b = 2 * (q + f.b) + 1 := by omega
      rw [hq, e2] at h2
      have : (2 * q + 1) * (2 * (q + f.b) + 1) = 2 * (2 * q * (q + f.b) + q + (q + f.b)) + 1 := by grind
      omega
  obtain ⟨e, he⟩ := k
  exact ⟨e, by omega⟩
theorem crt {a a' : Int} (c : Cop a a') (e : Int) : ∃ k k', a * k = e + a' * k' := by
  obtain ⟨u, v, q⟩ := c
  refine ⟨u * e, -(v * e), ?_⟩
  have : e = (u * a + v * a') * e := by rw [q]; omega
  grind
/-- forms turned so that they compose at sight -/
theorem concord {F G H : Fm} {D : Int} (pF : Prim F) (pG : Prim G) (pH : Prim H) (dF : disc F = D) (dG : disc G = D) (dH : disc H = D) (zF : NZ F) (zG : NZ G) (zH : NZ H) :
    ∃ a1 a2 a3 B C, Eqv F ⟨a1, B, a2 * (a3 * C)⟩ ∧ Eqv G ⟨a2, B, a1 * (a3 * C)⟩ ∧ Eqv H ⟨a3, B, (a1 * a2) * C⟩ := by
  obtain ⟨x, y, _, _, _, cxy, cG⟩ := col_ex pG (nz_a zF)
  obtain ⟨m, dm, mp, mr⟩ := col_mx cxy
  have eG : Eqv G (act G m) := ⟨m, dm, rfl⟩
  have aG : (act G m).a = val G x y := by rw [← mp, ← mr]; rfl
  have zG' := zG.eqv eG
  have aG0 := nz_a zG'
  have n2 : F.a * (act G m).a ≠ 0 := by
    intro z
    rcases Int.mul_eq_zero.mp z with z | z
    · exact nz_a zF z
    · exact aG0 z
  obtain ⟨x', y', _, _, _, cxy', cH⟩ := col_ex pH n2
  obtain ⟨n, dn, np, nr⟩ := col_mx cxy'
  have eH : Eqv H (act H n) := ⟨n, dn, rfl⟩
  have aH : (act H n).a = val H x' y' := by rw [← np, ← nr]; rfl
  rw [← aG] at cG
  rw [← aH] at cH
  have zH' := zH.eqv eH
  have dG' : disc (act G m) = D := by rw [← eG.disc, dG]
  have dH' : disc (act H n) = D := by rw [← eH.disc, dH]
  generalize act G m = G' at *
  generalize act H n = H' at *
  obtain ⟨e1, he1⟩ := parity (f := F) (g := G') (by rw [dF, dG'])
  obtain ⟨k1, k2, hk⟩ := crt cG.symm e1
  -- B12 = F.b + 2 F.a k1 = G'.b + 2 G'.a k2
  obtain ⟨e2, he2⟩ := parity (f := F) (g := H') (by rw [dF, dH'])
  obtain ⟨j, k3, hj⟩ := crt (cH.symm) (e2 - F.a * k1)
  obtain ⟨B, hB⟩ : ∃ B, B = F.b + 2 * F.a * (k1 + G'.a * j) := ⟨_, rfl⟩
  have hB2 : B = G'.b + 2 * G'.a * (k2 + F.a * j) := by rw [hB, he1]; grind
  have hB3 : B = H'.b + 2 * H'.a * k3 := by rw [hB, he2]; grind
  obtain ⟨c1, q1, r1⟩ := shift_to hB dF
  obtain ⟨c2, q2, r2⟩ := shift_to hB2 dG'
  obtain ⟨c3, q3, r3⟩ := shift_to hB3 dH'
  have t12 : F.a * c1 = G'.a * c2 := by
    have : 4 * F.a * c1 = 4 * (F.a * c1) := by grind
    have : 4 * G'.a * c2 = 4 * (G'.a * c2) := by grind
    omega
  have t13 : F.a * c1 = H'.a * c3 := by
    have : 4 * F.a * c1 = 4 * (F.a * c1) := by grind
    have : 4 * H'.a * c3 = 4 * (H'.a * c3) := by grind
    omega
  obtain ⟨l, hl⟩ := Cop.dvd cG t12
  have cH2 : Cop H'.a (F.a * G'.a) := cH
  obtain ⟨C, hC⟩ := Cop.dvd cH2 (c := l) (k := c3) (by rw [← t13, hl]; grind)
  refine ⟨F.a, G'.a, H'.a, B, C, by rw [← hC, ← hl]; exact q1, eG.trans ?_, eH.trans ?_⟩
  · have : c2 = F.a * (H'.a * C) := by
      rw [← hC]
      apply Int.eq_of_mul_eq_mul_left aG0
      rw [← t12, hl]
      grind
    rw [← this]
    exact q2
  · have : c3 = (F.a * G'.a) * C := by
      apply Int.eq_of_mul_eq_mul_left (nz_a zH')
      rw [← t13, hl, hC]
      grind
    rw [← this]
    exact q3
end K19
/-! K19W8 -/
set_option Elab.async false
set_option linter.all false
set_option maxRecDepth 100000
set_option maxHeartbeats 4000000
namespace K19
open PySem PySem.Spec PyProof.Rows L2
open Evl (Ex)
local macro_rules | `(tactic| walk_at "bd") => `(tactic| first | assumption | exact Bd.lit (n := 4) rfl | exact Bd.lit (n := 32) rfl | (apply Bd.mul <;> walk_at "bd") | (apply Bd.add <;> walk_at "bd") | (apply Bd.sub <;> walk_at "bd") | (apply Bd.neg; walk_at "bd") | (apply Bd.fdiv; walk_at "bd"))
local macro_rules | `(tactic| walk_at "cm") => `(tactic| (apply cm_of; walk_at "bd"; walk_at "bd"; first | decide | omega))
local macro_rules | `(tactic| walk_at "dv") => `(tactic| first | exact dv_var rfl | exact dv_int | exact dv_str | exact dv_bl | assumption | (apply dv_ix0; walk_at "dv") | (apply dv_ix1; walk_at "dv") | (apply dv_ix2; walk_at "dv") | (apply dv_ix3; walk_at "dv") | (apply dv_add <;> walk_at "dv") | (apply dv_sub <;> walk_at "dv") | (apply dv_mul; walk_at "dv"; walk_at "dv"; walk_at "cm") | (apply dv_neg; walk_at "dv") | (apply dv_lt <;> walk_at "dv") | (apply dv_le <;> walk_at "dv") | (apply dv_gt <;> walk_at "dv") | (apply dv_ge <;> walk_at "dv") | (apply dv_eqI <;> walk_at "dv") | (apply dv_neI <;> walk_at "dv") | (apply dv_t2 <;> walk_at "dv") | (apply dv_t3 <;> walk_at "dv") | (apply dv_t4 <;> walk_at "dv") | (apply dv_abs; walk_at "dv") | (apply dv_intI; walk_at "dv"))
local macro_rules | `(tactic| walk_at "p2") => `(tactic| (apply ds_p2; walk_at "dv"; walk_at "dv"))
local macro_rules | `(tactic| walk_at "p2e") => `(tactic| (apply ds_p2e; walk_at "dv"; walk_at "dv"))
local macro_rules | `(tactic| walk_at "p3") => `(tactic| (apply ds_p3; walk_at "dv"; walk_at "dv"; walk_at "dv"))
local macro_rules | `(tactic| walk_at "set") => `(tactic| (apply ds_set'; walk_at "dv"))
local macro_rules | `(tactic| walk_at "sete") => `(tactic| (apply ds_sete; walk_at "dv"))
local macro_rules | `(tactic| walk_at "ret") => `(tactic| (apply ds_ret'; walk_at "dv"))
section
variable {P : Program} {w : World} {K : PySem.W.Frag} {mg : Str → Option Value} {base : Heap}

def DOk (d : Int) : Prop := ((d < 0 ∧ -300 < d) ∨ (4 < d ∧ d < 300 ∧ NSq d)) ∧ (d.fmod 4 = 0 ∨ d.fmod 4 = 1)
abbrev spClasses (K : PySem.W.Frag) : Sp := spA K 1 (fun d : Int => [.int d]) DOk fun d z => ∃ L : List Fm, z = .list (L.map fmD) ∧ Menu d L
theorem okClasses (T : Tx K mg) : FnOk P w K mg base CX0 6 T.xClasses.f T.xClasses.fd ["d"] (spClasses K) := by
  have GIndefiniteClasses : FnOk P w K mg base CX0 5 T.xIndefiniteClasses.f T.xIndefiniteClasses.fd ["d"] (spIndefiniteClasses K) := okIndefiniteClasses T
  have GPositiveClasses : FnOk P w K mg base CX0 4 T.xPositiveClasses.f T.xPositiveClasses.fd ["d"] (spPositiveClasses K) := okPositiveClasses T
  refine fn_dataA T.xClasses.F scClasses rfl fun cdv A outer s H E hr => ⟨_, (pss_cons (ps_if (pt_cmpR op_lt (pv 0) pe_int (nomark _)) (pss_one (ps_ret (pe_call GPositiveClasses (hr.mono (by decide)) (by rfl) T.xPositiveClasses.g T.xPositiveClasses.F.kp T.xPositiveClasses.b .nil pass0 (pa_cons (pv 0) pa_nil)))) pss_nil) (pss_one (ps_ret (pe_call GIndefiniteClasses (hr.mono (by decide)) (by rfl) T.xIndefiniteClasses.g T.xIndefiniteClasses.F.kp T.xIndefiniteClasses.b .nil pass0 (pa_cons (pv 0) pa_nil))))), fun d hp => ?_⟩
  refine ds_if1 (dt_test (dv_lt (dv_var rfl) dv_int)) (fun h => ?_) fun h => ?_
  · have h := of_decide_eq_true h
    exact ds_ret (de_callA d rfl (by rcases hp.1 with a | a; exact a; omega) (das1 (dv_var rfl)) fun z hz => hz)
  · have h := of_decide_eq_false h
    exact ds_ret (de_callA d rfl (by rcases hp.1 with a | a; omega; exact a) (das1 (dv_var rfl)) fun z hz => hz)
def pF (d : Int) : Fm := ⟨1, d.fmod 2, (d.fmod 2 - d).fdiv 4⟩
theorem pF_disc {d : Int} (h : d.fmod 4 = 0 ∨ d.fmod 4 = 1) : disc (pF d) = d ∧ (d.fmod 2 = 0 ∨ d.fmod 2 = 1) ∧ d.fmod 2 - d = 4 * (d.fmod 2 - d).fdiv 4 := by
  have k4 := fdm d 4
  have k2 := fdm d 2
  have m2 := fmod_pos (x := d) (y := 2) (by decide)
  have e2 : d.fmod 2 = 0 ∨ d.fmod 2 = 1 := by omega
  have k := fdm (d.fmod 2 - d) 4
  have m := fmod_pos (x := d.fmod 2 - d) (y := 4) (by decide)
  have e : d.fmod 2 - d = 4 * (d.fmod 2 - d).fdiv 4 := by omega
  refine ⟨?_, e2, e⟩
  unfold disc pF
  simp only
  generalize d.fmod 2 = t at *
  have : t * t = t := by rcases e2 with rfl | rfl <;> rfl
  omega
theorem pF_fine {d : Int} (h : DOk d) : Fine (pF d) ∧ BdF 20 (pF d) := by
  obtain ⟨e1, e2, e3⟩ := pF_disc h.2
  refine ⟨?_, ?_⟩
  · rcases h.1 with ⟨a, b⟩ | ⟨a, b, c⟩
    · exact .inl ⟨by show (0 : Int) < 1; decide, by omega, by omega⟩
    · exact .inr ⟨by rw [e1]; exact c, by omega, by omega⟩
  · unfold BdF Bd pF
    simp only
    rcases h.1 with ⟨a, b⟩ | ⟨a, b, c⟩ <;> omega
abbrev spPrincipal (K : PySem.W.Frag) : Sp := spA K 1 (fun d : Int => [.int d]) DOk fun d z => ∃ R, z = fmD R ∧ Can (pF d) R
theorem okPrincipal (T : Tx K mg) : FnOk P w K mg base CX0 6 T.xPrincipal.f T.xPrincipal.fd ["d"] (spPrincipal K) := by
  have GCanonicalForm : FnOk P w K mg base CX0 5 T.xCanonicalForm.f T.xCanonicalForm.fd ["form"] (spCanonicalForm K) := okCanonicalForm T
  refine fn_dataA T.xPrincipal.F scPrincipal rfl fun cdv A outer s H E hr => ⟨_, (pss_one (ps_ret (pe_ix ix_tup (pe_call GCanonicalForm (hr.mono (by decide)) (by rfl) T.xCanonicalForm.g T.xCanonicalForm.F.kp T.xCanonicalForm.b .nil pass0 (pa_cons (pe_tup (pa_cons pe_int (pa_cons (pe_op op_modN (pv 0) pe_int) (pa_cons (pe_op op_fdivZ (pe_op op_sub (pe_op op_modN (pv 0) pe_int) (pv 0)) pe_int) pa_nil)))) pa_nil)) pe_int (fun _ _ => rfl)))), fun d hp => ?_⟩
  obtain ⟨hf, bf⟩ := pF_fine hp
  have k2 : (2 : Int) ≠ 0 := by decide
  refine ds_ret (de_ix0 (de_callA (pF d) rfl ⟨bf.mono (by decide), hf⟩ (das1 (dv_t3 dv_int (dv_mod (dv_var rfl) dv_int k2) (dv_div (dv_sub (dv_mod (dv_var rfl) dv_int k2) (dv_var rfl)) dv_int ⟨by decide, by decide⟩))) fun z hz => ?_))
  obtain ⟨R, m, rfl, c, _⟩ := hz
  exact ⟨_, _, rfl, R, rfl, c⟩
abbrev spOpposite (K : PySem.W.Frag) : Sp := spA K 1 (fun f : Fm => [fmD f]) (fun f => BdF 250 f ∧ Fine f) fun f z => ∃ R, z = fmD R ∧ Can (oppF f) R
theorem okOpposite (T : Tx K mg) : FnOk P w K mg base CX0 6 T.xOpposite.f T.xOpposite.fd ["form"] (spOpposite K) := by
  have GCanonicalForm : FnOk P w K mg base CX0 5 T.xCanonicalForm.f T.xCanonicalForm.fd ["form"] (spCanonicalForm K) := okCanonicalForm T
  refine fn_dataA T.xOpposite.F scOpposite rfl fun cdv A outer s H E hr => ⟨_, (pss_one (ps_ret (pe_ix ix_tup (pe_call GCanonicalForm (hr.mono (by decide)) (by rfl) T.xCanonicalForm.g T.xCanonicalForm.F.kp T.xCanonicalForm.b .nil pass0 (pa_cons (pe_tup (pa_cons (pe_ix ix_tup (pv 0) pe_int (fun _ _ => rfl)) (pa_cons (pe_un un_neg (pe_ix ix_tup (pv 0) pe_int (fun _ _ => rfl))) (pa_cons (pe_ix ix_tup (pv 0) pe_int (fun _ _ => rfl)) pa_nil)))) pa_nil)) pe_int (fun _ _ => rfl)))), fun f hp => ?_⟩
  obtain ⟨⟨b1, b2, b3⟩, hf⟩ := hp
  have hf' : Fine (oppF f) := by
    unfold Fine
    rw [oppF_disc]
    exact hf
  refine ds_ret (de_ix0 (de_callA (oppF f) rfl ⟨⟨b1, b2.neg, b3⟩, hf'⟩ (das1 (dv_t3 (dv_ix0 (dv_var rfl)) (dv_neg (dv_ix1 (dv_var rfl))) (dv_ix2 (dv_var rfl)))) fun z hz => ?_))
  obtain ⟨R, m, rfl, c, _⟩ := hz
  exact ⟨_, _, rfl, R, rfl, c⟩
end
end K19
/-! K19Grp -/
set_option maxRecDepth 10000
set_option linter.all false
namespace K19
/-! ### the laws of composing -/
theorem comp_move {F G H F' G' : Fm} (h : Comp F G H) (e1 : Eqv F F') (e2 : Eqv G G') : Comp F' G' H := by
  obtain ⟨m, rfl, rfl, rfl⟩ := h
  obtain ⟨s, ds, es⟩ := e1
  obtain ⟨t, dt, et⟩ := e2
  exact ⟨cB (cA m s) t, by rw [cB_F _ dt, cA_F, es], by rw [cB_G, cA_G _ ds, et], by rw [cB_H _ dt, cA_H _ ds]⟩
theorem comp_assoc {F G H X Y Z W : Fm} {D : Int} (pF : Prim F) (pG : Prim G) (pH : Prim H) (dF : disc F = D) (dG : disc G = D) (dH : disc H = D) (zF : NZ F) (zG : NZ G) (zH : NZ H)
    (h1 : Comp F G X) (h2 : Comp X H Y) (h3 : Comp G H Z) (h4 : Comp F Z W) : Eqv Y W := by
  obtain ⟨a1, a2, a3, B, C, e1, e2, e3⟩ := concord pF pG pH dF dG dH zF zG zH
  have u1 := comp_united a1 a2 B (a3 * C)
  have x := comp_unique h1 u1 e1 e2 pF
  have px : Prim X := Prim.eqv x.symm (united_prim (Prim.eqv e1 pF) (Prim.eqv e2 pG))
  have u2 := comp_united (a1 * a2) a3 B C
  have y := comp_unique h2 u2 x e3 px
  have e2' : Eqv G ⟨a2, B, a3 * (a1 * C)⟩ := by rw [show a3 * (a1 * C) = a1 * (a3 * C) by grind]; exact e2
  have e3' : Eqv H ⟨a3, B, a2 * (a1 * C)⟩ := by rw [show a2 * (a1 * C) = (a1 * a2) * C by grind]; exact e3
  have z := comp_unique h3 (comp_united a2 a3 B (a1 * C)) e2' e3' pG
  have e1' : Eqv F ⟨a1, B, (a2 * a3) * C⟩ := by rw [show (a2 * a3) * C = a2 * (a3 * C) by grind]; exact e1
  have w := comp_unique h4 (comp_united a1 (a2 * a3) B C) e1' z pF
  rw [show a1 * (a2 * a3) = a1 * a2 * a3 by grind] at w
  exact y.trans w.symm
structure Good (D : Int) (f : Fm) : Prop where
  p : Prim f
  d : disc f = D
  f : Fine f
theorem Good.nz {D : Int} {f : Fm} (h : Good D f) : NZ f := by
  rcases h.f with ⟨a, b, _⟩ | ⟨a, _, _⟩
  · intro x y c e
    have := nz_def a b x y c
    omega
  · exact nz_ns a
theorem cop_col {m : Mx} (d : det m = 1) : Cop m.p m.r := ⟨m.s, -m.q, by simp only [det] at d; grind⟩
theorem Good.eqv {D : Int} {f g : Fm} (h : Good D f) (e : Eqv f g) : Good D g := by
  refine ⟨Prim.eqv e h.p, by rw [← e.disc, h.d], ?_⟩
  have ed := e.disc
  rcases h.f with ⟨a, b, c⟩ | ⟨a, b, c⟩
  · obtain ⟨m, d, rfl⟩ := e
    exact .inl ⟨nz_def a b _ _ (cop_col d), by omega, by omega⟩
  · exact .inr ⟨by rw [← ed]; exact a, by omega, by omega⟩
theorem can_eqv {f R : Fm} (h : Can f R) : Eqv f R := by
  rcases h with ⟨_, _, e⟩ | ⟨_, c⟩
  · exact e
  · exact c.eqv.1
theorem can_one {f g R S : Fm} (e : Eqv f g) (h1 : Can f R) (h2 : Can g S) : R = S := by
  have ed := e.disc
  rcases h1 with ⟨a, b, c⟩ | ⟨a, b⟩ <;> rcases h2 with ⟨a', b', c'⟩ | ⟨a', b'⟩
  · exact red_unique b b' (c.symm.trans (e.trans c'))
  · omega
  · omega
  · exact CanI.one e b b'
theorem can_move {f g R : Fm} (e : Eqv f g) (h : Can f R) : Can g R := by
  have ed := e.disc
  rcases h with ⟨a, b, c⟩ | ⟨a, r, hr, c, m⟩
  · exact .inl ⟨by omega, b, e.symm.trans c⟩
  · exact .inr ⟨by omega, r, hr, e.symm.trans c, m⟩
theorem can_self {f R : Fm} (h : Can f R) : Can R R := can_move (can_eqv h) h
theorem comp_good {D : Int} {f g X : Fm} (hf : Good D f) (hg : Good D g) (h : Comp f g X) : Good D X := by
  obtain ⟨a1, a2, a3, B, C, e1, e2, _⟩ := concord hf.p hg.p hf.p hf.d hg.d hf.d hf.nz hg.nz hf.nz
  have x := comp_unique h (comp_united a1 a2 B (a3 * C)) e1 e2 hf.p
  have g1 := hf.eqv e1
  have g2 := hg.eqv e2
  refine Good.eqv ⟨united_prim g1.p g2.p, ?_, ?_⟩ x.symm
  · rw [← g1.d]; unfold disc; simp only; grind
  · have ed : disc (⟨a1 * a2, B, a3 * C⟩ : Fm) = disc (⟨a1, B, a2 * (a3 * C)⟩ : Fm) := by unfold disc; simp only; grind
    rcases g1.f with ⟨p1, q1, r1⟩ | ⟨p1, q1, r1⟩
    · rcases g2.f with ⟨p2, _, _⟩ | ⟨p2, q2, _⟩
      · exact .inl ⟨Int.mul_pos p1 p2, by omega, by omega⟩
      · have := g1.d; have := g2.d; omega
    · exact .inr ⟨by rw [ed]; exact p1, by omega, by omega⟩
theorem comp_ex {D : Int} {f g : Fm} (hf : Good D f) (hg : Good D g) : ∃ X, Comp f g X := by
  obtain ⟨a1, a2, a3, B, C, e1, e2, _⟩ := concord hf.p hg.p hf.p hf.d hg.d hf.d hf.nz hg.nz hf.nz
  exact ⟨_, comp_move (comp_united a1 a2 B (a3 * C)) e1.symm e2.symm⟩
theorem pF_good {D : Int} (h : DOk D) : Good D (pF D) := ⟨⟨1, 0, 0, by simp [pF]⟩, (pF_disc h.2).1, (pF_fine h).1⟩
/-- the principal form, any middle -/
theorem pF_mid {D B c : Int} (h : DOk D) (e : disc (⟨1, B, c⟩ : Fm) = D) : Eqv (pF D) ⟨1, B, c⟩ := by
  have d := (pF_disc h.2).1
  obtain ⟨k, hk⟩ := parity (f := pF D) (g := ⟨1, B, c⟩) (by rw [d, e])
  obtain ⟨c', q, r⟩ := shift_to (f := pF D) (B := B) (k := k) (by
    have : (pF D).a = 1 := rfl
    rw [this]
    have hk : B = (pF D).b + 2 * k := hk
    omega) d
  have q : Eqv (pF D) ⟨1, B, c'⟩ := q
  have r : B * B - 4 * 1 * c' = D := r
  have e : B * B - 4 * 1 * c = D := e
  rw [show c = c' by omega]
  exact q
theorem comp_id {D : Int} {f X : Fm} (h : DOk D) (hf : Good D f) (c : Comp f (pF D) X) : Eqv X f := by
  have k := comp_united f.a 1 f.b f.c
  rw [show 1 * f.c = f.c by omega, show f.a * 1 = f.a by omega] at k
  have e : Eqv (pF D) ⟨1, f.b, f.a * f.c⟩ := pF_mid h (by rw [← hf.d]; unfold disc; simp only; grind)
  exact comp_unique c k (Eqv.refl f) e hf.p
theorem comp_inv {D : Int} {f X : Fm} (h : DOk D) (hf : Good D f) (c : Comp f (oppF f) X) : Eqv X (pF D) := by
  have k := comp_united f.a f.c f.b 1
  rw [show f.c * 1 = f.c by omega, show f.a * 1 = f.a by omega] at k
  have e : Eqv (oppF f) ⟨f.c, f.b, f.a⟩ := ⟨mS, by decide, by rw [act_S]; apply Fm.ext' <;> simp only [oppF] <;> omega⟩
  have x := comp_unique c k (Eqv.refl f) e hf.p
  have e2 : Eqv (⟨f.a * f.c, f.b, 1⟩ : Fm) ⟨1, -f.b, f.a * f.c⟩ := ⟨mS, by decide, act_S _⟩
  have e3 : Eqv (pF D) ⟨1, -f.b, f.a * f.c⟩ := pF_mid h (by rw [← hf.d]; unfold disc; simp only; grind)
  exact x.trans (e2.trans e3.symm)
theorem opp_good {D : Int} {f : Fm} (h : Good D f) : Good D (oppF f) := by
  refine ⟨opp_prim h.p, by rw [oppF_disc, h.d], ?_⟩
  have := h.f
  unfold Fine at *
  rw [oppF_disc]
  exact this
theorem pF_opp {D : Int} (h : DOk D) : Eqv (oppF (pF D)) (pF D) := by
  have e : disc (oppF (pF D)) = D := by rw [oppF_disc, (pF_disc h.2).1]
  exact (pF_mid h (B := (oppF (pF D)).b) (c := (oppF (pF D)).c) e).symm
theorem cancel {D : Int} {x y g U V : Fm} (h : DOk D) (hx : Good D x) (hy : Good D y) (hg : Good D g) (h1 : Comp x g U) (h2 : Comp y g V) (e : Eqv U V) : Eqv x y := by
  have ho := opp_good hg
  obtain ⟨Z, cz⟩ := comp_ex hg ho
  have ez := comp_inv h hg cz
  have gU := comp_good hx hg h1
  have gV := comp_good hy hg h2
  have one : ∀ {x U}, Good D x → Good D U → Comp x g U → ∃ T, Comp U (oppF g) T ∧ Eqv T x := fun {x U} hx gU h1 => by
    obtain ⟨T, ct⟩ := comp_ex gU ho
    have gZ := comp_good hg ho cz
    obtain ⟨W, cw⟩ := comp_ex hx gZ
    have q := comp_assoc hx.p hg.p ho.p hx.d hg.d ho.d hx.nz hg.nz ho.nz h1 ct cz cw
    exact ⟨T, ct, q.trans (comp_id h hx (comp_move cw (Eqv.refl x) ez))⟩
  obtain ⟨T, ct, et⟩ := one hx gU h1
  obtain ⟨T', ct', et'⟩ := one hy gV h2
  exact et.symm.trans ((comp_unique ct ct' e (Eqv.refl _) gU.p).trans et')
/-! ### products of canonical forms -/
def CP (f g R : Fm) : Prop := ∃ X, Comp f g X ∧ Can X R
theorem cp_one {D : Int} {f g f' g' R R' : Fm} (hf : Good D f) (e1 : Eqv f f') (e2 : Eqv g g') (h : CP f g R) (h' : CP f' g' R') : R = R' := by
  obtain ⟨X, c, k⟩ := h
  obtain ⟨X', c', k'⟩ := h'
  exact can_one (comp_unique c c' e1 e2 hf.p) k k'
theorem cp_comm {f g R : Fm} (h : CP f g R) : CP g f R := by
  obtain ⟨X, c, k⟩ := h
  exact ⟨X, comp_comm c, k⟩
theorem cp_good {D : Int} {f g R : Fm} (hf : Good D f) (hg : Good D g) (h : CP f g R) : Good D R ∧ Can R R := by
  obtain ⟨X, c, k⟩ := h
  exact ⟨(comp_good hf hg c).eqv (can_eqv k), can_self k⟩
theorem cp_assoc {D : Int} {f g h P Q R R' : Fm} (hf : Good D f) (hg : Good D g) (hh : Good D h) (h1 : CP f g P) (h2 : CP P h R) (h3 : CP g h Q) (h4 : CP f Q R') : R = R' := by
  obtain ⟨X, c1, k1⟩ := h1
  obtain ⟨Y, c2, k2⟩ := h2
  obtain ⟨Z, c3, k3⟩ := h3
  obtain ⟨W, c4, k4⟩ := h4
  exact can_one (comp_assoc hf.p hg.p hh.p hf.d hg.d hh.d hf.nz hg.nz hh.nz c1 (comp_move c2 (can_eqv k1).symm (Eqv.refl _)) c3 (comp_move c4 (Eqv.refl _) (can_eqv k3).symm)) k2 k4
theorem cp_id {D : Int} {f E R : Fm} (h : DOk D) (hf : Good D f) (hE : Can (pF D) E) (c : CP f E R) : Eqv R f := by
  obtain ⟨X, c1, k1⟩ := c
  exact (can_eqv k1).symm.trans (comp_id h hf (comp_move c1 (Eqv.refl _) (can_eqv hE).symm))
theorem cp_inv {D : Int} {f O E R : Fm} (h : DOk D) (hf : Good D f) (hO : Can (oppF f) O) (hE : Can (pF D) E) (c : CP f O R) : R = E := by
  obtain ⟨X, c1, k1⟩ := c
  exact can_one (comp_inv h hf (comp_move c1 (Eqv.refl _) (can_eqv hO).symm)) k1 hE
theorem cp_cancel {D : Int} {x y g R : Fm} (h : DOk D) (hx : Good D x) (hy : Good D y) (hg : Good D g) (cx : Can x x) (cy : Can y y) (h1 : CP x g R) (h2 : CP y g R) : x = y := by
  obtain ⟨U, c1, k1⟩ := h1
  obtain ⟨V, c2, k2⟩ := h2
  exact can_one (cancel h hx hy hg c1 c2 ((can_eqv k1).trans (can_eqv k2).symm)) cx cy
theorem opp_canon {f O S : Fm} (c : Can f f) (h1 : Can (oppF f) O) (h2 : Can (oppF O) S) : S = f := by
  have e := opp_eqv (can_eqv h1)
  rw [opp_opp] at e
  exact (can_one e c h2).symm
/-! ### powers -/
def Pw (D : Int) (g : Fm) : Nat → Fm → Prop
  | 0, R => Can (pF D) R
  | k + 1, R => ∃ S, Pw D g k S ∧ CP S g R
theorem pw_good {D : Int} (h : DOk D) {g : Fm} (hg : Good D g) : ∀ (k : Nat) {R : Fm}, Pw D g k R → Good D R ∧ Can R R
  | 0, R, p => ⟨(pF_good h).eqv (can_eqv p), can_self p⟩
  | k + 1, R, ⟨S, p, c⟩ => cp_good (pw_good h hg k p).1 hg c
theorem pw_one {D : Int} (h : DOk D) {g g' : Fm} (hg : Good D g) (e : Eqv g g') : ∀ (k : Nat) {R R' : Fm}, Pw D g k R → Pw D g' k R' → R = R'
  | 0, R, R', p, p' => can_one (Eqv.refl _) p p'
  | k + 1, R, R', ⟨S, p, c⟩, ⟨S', p', c'⟩ => by
    have es := pw_one h hg e k p p'
    subst es
    exact cp_one (pw_good h hg k p).1 (Eqv.refl _) e c c'
theorem pw_opp {D : Int} (h : DOk D) {g o : Fm} (hg : Good D g) (e : Eqv (oppF g) o) : ∀ (k : Nat) {R R' : Fm}, Pw D g k R → Pw D o k R' → Eqv (oppF R) R'
  | 0, R, R', p, p' => ((opp_eqv (can_eqv p)).symm.trans (pF_opp h)).trans (can_eqv p')
  | k + 1, R, R', ⟨S, p, X, c, q⟩, ⟨S', p', X', c', q'⟩ => by
    have es := pw_opp h hg e k p p'
    have gS := (pw_good h hg k p).1
    have x := comp_unique (comp_opp c) c' es e (opp_good gS).p
    exact ((opp_eqv (can_eqv q)).symm.trans x).trans (can_eqv q')
/-! the order -/
theorem sub_len : ∀ {l M : List Fm}, l.Nodup → (∀ x ∈ l, x ∈ M) → l.length ≤ M.length
  | [], _, _, _ => Nat.zero_le _
  | x :: l, M, hn, hs => by
    obtain ⟨h1, h2⟩ := List.nodup_cons.mp hn
    have hx := hs x (List.mem_cons_self ..)
    have k := sub_len (l := l) (M := M.erase x) h2 fun y hy => (List.mem_erase_of_ne (by rintro rfl; exact h1 hy)).mpr (hs y (List.mem_cons_of_mem _ hy))
    rw [List.length_erase_of_mem hx] at k
    have := List.length_pos_of_mem hx
    simp only [List.length_cons]
    omega
/-- q 0 = 1, q (i + 1) = q i times g, up to n -/
structure Chain (D : Int) (g E : Fm) (q : Nat → Fm) (n : Nat) : Prop where
  z : q 0 = E
  s : ∀ i, i < n → CP (q i) g (q (i + 1))
theorem Chain.good {D : Int} (h : DOk D) {g E : Fm} (hg : Good D g) (hE : Can (pF D) E) {q : Nat → Fm} {n : Nat} (c : Chain D g E q n) : ∀ i, i ≤ n → Good D (q i) ∧ Can (q i) (q i)
  | 0, _ => by rw [c.z]; exact ⟨(pF_good h).eqv (can_eqv hE), can_self hE⟩
  | i + 1, hi => cp_good (c.good h hg hE i (by omega)).1 hg (c.s i (by omega))
theorem Chain.inj {D : Int} (h : DOk D) {g E : Fm} (hg : Good D g) (hE : Can (pF D) E) {q : Nat → Fm} {n : Nat} (c : Chain D g E q n) (ne : ∀ i, 1 ≤ i → i ≤ n → q i ≠ E) : ∀ i j, i < j → j ≤ n → q i ≠ q j
  | 0, j, hij, hj => fun e => ne j hij hj (by rw [← e, c.z])
  | i + 1, 0, hij, _ => by omega
  | i + 1, j + 1, hij, hj => fun e => by
    have gi := c.good h hg hE i (by omega)
    have gj := c.good h hg hE j (by omega)
    have s2 := c.s j (by omega)
    rw [← e] at s2
    exact Chain.inj h hg hE c ne i j (by omega) (by omega) (cp_cancel h gi.1 gj.1 hg gi.2 gj.2 (c.s i (by omega)) s2)
theorem Chain.few {D : Int} (h : DOk D) {g E : Fm} (hg : Good D g) (hE : Can (pF D) E) {q : Nat → Fm} {n : Nat} (c : Chain D g E q n) (ne : ∀ i, 1 ≤ i → i ≤ n → q i ≠ E) {M : List Fm} (hM : Menu D M) : n + 1 ≤ M.length := by
  have k := sub_len (l := (List.range (n + 1)).map q) (M := M) ?_ ?_
  · simpa using k
  · refine List.pairwise_map.mpr (List.Pairwise.imp_of_mem (fun {a b} ha hb lt => ?_) List.pairwise_lt_range)
    exact c.inj h hg hE ne a b lt (by have := List.mem_range.mp hb; omega)
  · intro x hx
    obtain ⟨i, hi, rfl⟩ := List.mem_map.mp hx
    obtain ⟨a, b⟩ := c.good h hg hE i (by have := List.mem_range.mp hi; omega)
    exact hM.all _ _ a.p a.d a.f b
end K19
/-! K19W9 -/
set_option Elab.async false
set_option linter.all false
set_option maxRecDepth 100000
set_option maxHeartbeats 4000000
namespace K19
open PySem PySem.Spec PyProof.Rows L2
open Evl (Ex)
local macro_rules | `(tactic| walk_at "bd") => `(tactic| first | assumption | exact Bd.lit (n := 4) rfl | exact Bd.lit (n := 32) rfl | (apply Bd.mul <;> walk_at "bd") | (apply Bd.add <;> walk_at "bd") | (apply Bd.sub <;> walk_at "bd") | (apply Bd.neg; walk_at "bd") | (apply Bd.fdiv; walk_at "bd"))
local macro_rules | `(tactic| walk_at "cm") => `(tactic| (apply cm_of; walk_at "bd"; walk_at "bd"; first | decide | omega))
local macro_rules | `(tactic| walk_at "dv") => `(tactic| first | exact dv_var rfl | exact dv_int | exact dv_str | exact dv_bl | assumption | (apply dv_ix0; walk_at "dv") | (apply dv_ix1; walk_at "dv") | (apply dv_ix2; walk_at "dv") | (apply dv_ix3; walk_at "dv") | (apply dv_add <;> walk_at "dv") | (apply dv_sub <;> walk_at "dv") | (apply dv_mul; walk_at "dv"; walk_at "dv"; walk_at "cm") | (apply dv_neg; walk_at "dv") | (apply dv_lt <;> walk_at "dv") | (apply dv_le <;> walk_at "dv") | (apply dv_gt <;> walk_at "dv") | (apply dv_ge <;> walk_at "dv") | (apply dv_eqI <;> walk_at "dv") | (apply dv_neI <;> walk_at "dv") | (apply dv_t2 <;> walk_at "dv") | (apply dv_t3 <;> walk_at "dv") | (apply dv_t4 <;> walk_at "dv") | (apply dv_abs; walk_at "dv") | (apply dv_intI; walk_at "dv"))
local macro_rules | `(tactic| walk_at "p2") => `(tactic| (apply ds_p2; walk_at "dv"; walk_at "dv"))
local macro_rules | `(tactic| walk_at "p2e") => `(tactic| (apply ds_p2e; walk_at "dv"; walk_at "dv"))
local macro_rules | `(tactic| walk_at "p3") => `(tactic| (apply ds_p3; walk_at "dv"; walk_at "dv"; walk_at "dv"))
local macro_rules | `(tactic| walk_at "set") => `(tactic| (apply ds_set'; walk_at "dv"))
local macro_rules | `(tactic| walk_at "sete") => `(tactic| (apply ds_sete; walk_at "dv"))
local macro_rules | `(tactic| walk_at "ret") => `(tactic| (apply ds_ret'; walk_at "dv"))
section
variable {P : Program} {w : World} {K : PySem.W.Frag} {mg : Str → Option Value} {base : Heap}

section
variable {env : Env'} {ta tb : TE} {P : Out → Prop}
theorem ds_rng2 {lo hi : Int} {i : Nat} {t : TS} (W : Nat → Env' → Prop) (ha : Dv K ta env (.int lo)) (hb : Dv K tb env (.int hi)) (b1 : -1000000000 ≤ lo ∧ lo ≤ 1000000000) (b2 : -1000000000 ≤ hi ∧ hi ≤ 1000000000) (h0 : W 0 env)
    (hs : ∀ k e, k < (hi - lo).toNat → W k e → DS K t (e.set i (some (.int (lo + (k : Int))))) fun r => match r with | .nx e' => W (k + 1) e' | .rt d => P (.rt d)) (hd : ∀ e, W (hi - lo).toNat e → P (.nx e)) : DS K (tFor (iRng2 (tCons ta (tCons tb tNil))) (gName i) t) env P :=
  ds_range W (fun σ H r R q => ha σ H r _ fun _ v H1 e1 x1 D1 => hb σ H1 (r.ex x1) _ fun _ w H2 e2 x2 D2 => by
    subst e1 e2
    cases D1
    cases D2
    exact ⟨lo, hi, rfl, ⟨by omega, by omega, by omega, by omega⟩, q H2 (x1.trans x2)⟩) h0 hs hd
theorem ds_rng1 {hi : Int} {i : Nat} {t : TS} (W : Nat → Env' → Prop) (hb : Dv K tb env (.int hi)) (b2 : -1000000000 ≤ hi ∧ hi ≤ 1000000000) (h0 : W 0 env)
    (hs : ∀ k e, k < hi.toNat → W k e → DS K t (e.set i (some (.int (0 + (k : Int))))) fun r => match r with | .nx e' => W (k + 1) e' | .rt d => P (.rt d)) (hd : ∀ e, W hi.toNat e → P (.nx e)) : DS K (tFor (iRng1 (tCons tb tNil)) (gName i) t) env P :=
  ds_range W (fun σ H r R q => hb σ H r _ fun _ v H1 e1 x1 D1 => by
    subst e1
    cases D1
    exact ⟨hi, rfl, by omega, by omega, q H1 x1⟩) h0 hs hd
end
theorem gcdL2 (x y : Int) : gcdL [x, y] 0 = Int.gcd x y := by
  unfold gcdL gcdL gcdL
  have : ((Int.gcd ((0 : Nat) : Int) x : Nat) : Int) = (x.natAbs : Int) := by
    show ((Int.gcd 0 x : Nat) : Int) = _
    rw [Int.gcd_zero_left]
  rw [this]
  show Nat.gcd (Int.natAbs (x.natAbs : Int)) y.natAbs = Nat.gcd x.natAbs y.natAbs
  rw [Int.natAbs_natCast]
theorem gcd_cop {x y : Int} : ((gcdL [x, y] 0 : Nat) : Int) = 1 ↔ Cop x y := by
  rw [gcdL2, cop_iff]
  omega
abbrev spCoprimeColumn (K : PySem.W.Frag) : Sp := spA K 2 (fun p : Fm × Int => [fmD p.1, .int p.2]) (fun p => BdF 20 p.1 ∧ Bd 20 p.2 ∧ Prim p.1 ∧ p.2 ≠ 0) fun p z => ∃ x y, z = ptD x y ∧ Bd 22 x ∧ Bd 22 y ∧ Cop x y ∧ Cop (val p.1 x y) p.2
theorem okCoprimeColumn (T : Tx K mg) : FnOk P w K mg base CX0 3 T.xCoprimeColumn.f T.xCoprimeColumn.fd ["form", "number"] (spCoprimeColumn K) := by
  have GMeasure : FnOk P w K mg base CX0 2 T.xMeasure.f T.xMeasure.fd ["numbers"] (spMeasure K) := okMeasure T
  have GWorth : FnOk P w K mg base CX0 1 T.xWorth.f T.xWorth.fd ["form", "point"] (spWorth K) := okWorth T
  refine fn_dataA T.xCoprimeColumn.F scCoprimeColumn rfl fun cdv A outer s H E hr => ⟨_, (pss_cons (ps_for PassesOwn.never rfl (pi_range2 (by rfl) T.range (pa_cons pe_int (pa_cons (pe_op op_add (pe_op op_mulW pe_int (pe_callB call_abs (by rfl) T.abs (by decide +kernel) (pa_cons (pv 1) pa_nil))) pe_int) pa_nil))) (pg_name (i := 2) scCoprimeColumn.nd rfl (Or.inl rfl)) (pss_one (ps_for PassesOwn.never rfl (pi_range1 (by rfl) T.range (pa_cons (pe_op op_add (pv 2) pe_int) pa_nil)) (pg_name (i := 3) scCoprimeColumn.nd rfl (Or.inl rfl)) (pss_cons (ps_set (i := 4) scCoprimeColumn.nd rfl (Or.inl rfl) (pe_op op_sub (pv 2) (pv 3))) (pss_one (ps_if (PW.pt (pw_and (pt_cmpR op_eq (pe_call GMeasure (hr.mono (by decide)) (by rfl) T.xMeasure.g T.xMeasure.F.kp T.xMeasure.b .nil pass0 (pa_cons (pe_tup (pa_cons (pv 3) (pa_cons (pv 4) pa_nil))) pa_nil)) pe_int (nomark _)) (pw_and1 (pt_cmpR op_eq (pe_call GMeasure (hr.mono (by decide)) (by rfl) T.xMeasure.g T.xMeasure.F.kp T.xMeasure.b .nil pass0 (pa_cons (pe_tup (pa_cons (pe_call GWorth (hr.mono (by decide)) (by rfl) T.xWorth.g T.xWorth.F.kp T.xWorth.b .nil pass0 (pa_cons (pv 0) (pa_cons (pe_tup (pa_cons (pv 3) (pa_cons (pv 4) pa_nil))) pa_nil))) (pa_cons (pv 1) pa_nil))) pa_nil)) pe_int (nomark _))))) (pss_one (ps_ret (pe_tup (pa_cons (pv 3) (pa_cons (pv 4) pa_nil))))) pss_nil)))))) (pss_one (ps_ret (pe_tup (pa_cons pe_int (pa_cons pe_int pa_nil)))))), fun p hp => ?_⟩
  obtain ⟨f, n⟩ := p
  obtain ⟨bf, bn, pr, hn⟩ := hp
  simp only at bf bn pr hn
  have bn' : n.natAbs < 1048576 := by unfold Bd at bn; exact bn
  have ba : Bd 21 (n.natAbs : Int) := by unfold Bd; omega
  obtain ⟨x0, y0, p1, p2, p3, p4, p5⟩ := col_ex pr hn
  refine ds_seq (ds_rng2 (fun k e => (∃ (x2 x3 x4 : Option PyData), e = [some (fmD f), some (.int n), x2, x3, x4]) ∧ x0 + y0 > (k : Int)) dv_int (dv_add (dv_mul dv_int (dv_abs (dv_var rfl)) (by walk_at "cm")) dv_int) (by omega) (by omega) ⟨⟨_, _, _, rfl⟩, by omega⟩ ?_ fun e h => ?_)
  · rintro k e hk ⟨⟨x2, x3, x4, rfl⟩, hx⟩
    generalize ht : 1 + (k : Int) = t at *
    refine ds_rng1 (fun j e => (∃ (x3 x4 : Option PyData), e = [some (fmD f), some (.int n), some (.int t), x3, x4]) ∧ (x0 + y0 = t → x0 ≥ (j : Int))) (dv_add (dv_var rfl) dv_int) (by omega) ⟨⟨_, _, rfl⟩, by omega⟩ ?_ fun e h => ?_
    · rintro j e hj ⟨⟨x3, x4, rfl⟩, hy⟩
      rw [Int.zero_add]
      refine ds_set' (dv_sub (dv_var rfl) (dv_var rfl)) ?_
      have bx : Bd 22 (j : Int) := by unfold Bd; omega
      have by' : Bd 22 (t - (j : Int)) := by unfold Bd; omega
      have bv : Bd 100 (val f j (t - j)) := by
        obtain ⟨b1, b2, b3⟩ := bf
        unfold val
        exact (Bd.add (Bd.add (Bd.mul (Bd.mul b1 bx) bx) (Bd.mul (Bd.mul b2 bx) by')) (Bd.mul (Bd.mul b3 by') by')).mono (by decide)
      refine ds_if (dt_and (dt_test (dv_eqI (dv_callA ([(j : Int), t - (j : Int)] : List Int) rfl ⟨by show 2 ≤ 10; decide, fun m hm => ?_⟩ (das1 (dv_t2 (dv_var rfl) (dv_var rfl))) fun z h => h) dv_int)) fun _ =>
        dt_test (dv_eqI (dv_callA ([val f j (t - j), n] : List Int) rfl ⟨by show 2 ≤ 10; decide, fun m hm => ?_⟩ (das1 (dv_t2 (dv_callA (f, (j : Int), t - (j : Int)) rfl ⟨bf.mono (by decide), bx.mono (by decide), by'.mono (by decide)⟩ (das2 (dv_var rfl) (dv_t2 (dv_var rfl) (dv_var rfl))) fun z h => h) (dv_var rfl))) fun z h => h) dv_int)) (fun h => ?_) fun h => ?_
      · simp only [List.mem_cons, List.not_mem_nil, or_false] at hm
        rcases hm with rfl | rfl
        · exact bx.mono (by decide)
        · exact by'.mono (by decide)
      · simp only [List.mem_cons, List.not_mem_nil, or_false] at hm
        rcases hm with rfl | rfl
        · exact bv.mono (by decide)
        · exact bn.mono (by decide)
      · have h := (Bool.and_eq_true ..).mp h
        exact ds_ret' (dv_t2 (dv_var rfl) (dv_var rfl)) ⟨_, _, rfl, bx, by', gcd_cop.mp (of_decide_eq_true h.1), gcd_cop.mp (of_decide_eq_true h.2)⟩
      · refine ds_nil ⟨⟨_, _, rfl⟩, fun e => ?_⟩
        have hy := hy e
        apply Int.not_lt.mp; intro lt
        have ej : x0 = (j : Int) := by omega
        have ey : y0 = t - (j : Int) := by omega
        subst ey
        rw [ej] at p4 p5
        rw [decide_eq_true (gcd_cop.mpr p4), decide_eq_true (gcd_cop.mpr p5)] at h
        cases h
    · obtain ⟨⟨x3, x4, rfl⟩, hy⟩ := h
      refine ⟨⟨_, _, _, rfl⟩, ?_⟩
      have : x0 + y0 ≠ t := fun e => by
        have := hy e
        omega
      omega
  · obtain ⟨_, hx⟩ := h
    omega
abbrev spLeadingChange (K : PySem.W.Frag) : Sp := spA K 2 (fun p : Fm × Int × Int => [fmD p.1, ptD p.2.1 p.2.2]) (fun p => BdF 20 p.1 ∧ Bd 22 p.2.1 ∧ Bd 22 p.2.2 ∧ Cop p.2.1 p.2.2)
  fun p z => ∃ m, z = .tuple [fmD (act p.1 m), mxD m] ∧ det m = 1 ∧ m.p = p.2.1 ∧ m.r = p.2.2 ∧ BdM 26 m
theorem okLeadingChange (T : Tx K mg) : FnOk P w K mg base CX0 3 T.xLeadingChange.f T.xLeadingChange.fd ["form", "point"] (spLeadingChange K) := by
  have GAct : FnOk P w K mg base CX0 2 T.xAct.f T.xAct.fd ["form", "m"] (spAct K) := okAct T
  have GBezout : FnOk P w K mg base CX0 1 T.xBezout.f T.xBezout.fd ["a", "b"] (spBezout K) := okBezout T
  refine fn_dataA T.xLeadingChange.F scLeadingChange rfl fun cdv A outer s H E hr => ⟨_, (pss_cons (ps_asg (pe_call GBezout (hr.mono (by decide)) (by rfl) T.xBezout.g T.xBezout.F.kp T.xBezout.b .nil pass0 (pa_cons (pe_ix ix_tup (pv 1) pe_int (fun _ _ => rfl)) (pa_cons (pe_ix ix_tup (pv 1) pe_int (fun _ _ => rfl)) pa_nil))) (pg_tup rfl (pgs_cons (pg_name (i := 2) scLeadingChange.nd rfl (Or.inl rfl)) (pgs_cons (pg_name (i := 3) scLeadingChange.nd rfl (Or.inl rfl)) (pgs_cons (pg_name (i := 4) scLeadingChange.nd rfl (Or.inl rfl)) pgs_nil))))) (pss_cons (ps_set (i := 5) scLeadingChange.nd rfl (Or.inl rfl) (pe_tup (pa_cons (pe_ix ix_tup (pv 1) pe_int (fun _ _ => rfl)) (pa_cons (pe_un un_neg (pv 4)) (pa_cons (pe_ix ix_tup (pv 1) pe_int (fun _ _ => rfl)) (pa_cons (pv 3) pa_nil)))))) (pss_one (ps_ret (pe_tup (pa_cons (pe_call GAct (hr.mono (by decide)) (by rfl) T.xAct.g T.xAct.F.kp T.xAct.b .nil pass0 (pa_cons (pv 0) (pa_cons (pv 5) pa_nil))) (pa_cons (pv 5) pa_nil))))))), fun p hp => ?_⟩
  obtain ⟨f, x, y⟩ := p
  obtain ⟨bf, bx, by', c⟩ := hp
  simp only at bf bx by' c
  refine ds_u3 (de_callA (x, y) rfl ⟨bx.mono (by decide), by'.mono (by decide)⟩ (das2 (dv_ix0 (dv_var rfl)) (dv_ix1 (dv_var rfl))) fun z hz => ?_)
  obtain ⟨g, u, v, rfl, hg, e, k1, k2⟩ := hz
  have g1 : g = 1 := by rw [hg, cop_iff.mp c]; rfl
  subst g1
  simp only at e k1 k2
  have bm : BdM 26 ⟨x, -v, y, u⟩ := by
    unfold BdM Bd at *
    simp only
    omega
  refine ⟨_, _, _, rfl, ?_⟩
  refine ds_set' (d := mxD ⟨x, -v, y, u⟩) (dv_t4 (dv_ix0 (dv_var rfl)) (dv_neg (dv_var rfl)) (dv_ix1 (dv_var rfl)) (dv_var rfl)) ?_
  refine ds_ret' (dv_t2 (dv_callA (f, (⟨x, -v, y, u⟩ : Mx)) rfl ⟨bf.mono (by decide), bm.mono (by decide)⟩ (das2 (dv_var rfl) (dv_var rfl)) fun z h => h) (dv_var rfl)) ?_
  exact ⟨_, rfl, by simp only [det]; grind, rfl, rfl, bm⟩
abbrev spMiddleOf (K : PySem.W.Frag) : Sp := spA K 2 (fun p : Fm × Fm => [fmD p.1, fmD p.2]) (fun p => BdF 20 p.1 ∧ BdF 80 p.2 ∧ Cop p.1.a p.2.a ∧ p.2.a ≠ 0 ∧ disc p.1 = disc p.2)
  fun p z => ∃ B k k', z = .int B ∧ B = p.1.b + 2 * p.1.a * k ∧ B = p.2.b + 2 * p.2.a * k' ∧ Bd 110 B
theorem okMiddleOf (T : Tx K mg) : FnOk P w K mg base CX0 2 T.xMiddleOf.f T.xMiddleOf.fd ["first", "second"] (spMiddleOf K) := by
  have GBezout : FnOk P w K mg base CX0 1 T.xBezout.f T.xBezout.fd ["a", "b"] (spBezout K) := okBezout T
  refine fn_dataA T.xMiddleOf.F scMiddleOf rfl fun cdv A outer s H E hr => ⟨_, (pss_cons (ps_asg (pv 0) (pg_tup rfl (pgs_cons (pg_name (i := 2) scMiddleOf.nd rfl (Or.inl rfl)) (pgs_cons (pg_name (i := 3) scMiddleOf.nd rfl (Or.inl rfl)) (pgs_cons (pg_name (i := 4) scMiddleOf.nd rfl (Or.inl rfl)) pgs_nil))))) (pss_cons (ps_asg (pv 1) (pg_tup rfl (pgs_cons (pg_name (i := 5) scMiddleOf.nd rfl (Or.inl rfl)) (pgs_cons (pg_name (i := 6) scMiddleOf.nd rfl (Or.inl rfl)) (pgs_cons (pg_name (i := 4) scMiddleOf.nd rfl (Or.inl rfl)) pgs_nil))))) (pss_cons (ps_asg (pe_call GBezout (hr.mono (by decide)) (by rfl) T.xBezout.g T.xBezout.F.kp T.xBezout.b .nil pass0 (pa_cons (pv 2) (pa_cons (pv 5) pa_nil))) (pg_tup rfl (pgs_cons (pg_name (i := 4) scMiddleOf.nd rfl (Or.inl rfl)) (pgs_cons (pg_name (i := 7) scMiddleOf.nd rfl (Or.inl rfl)) (pgs_cons (pg_name (i := 4) scMiddleOf.nd rfl (Or.inl rfl)) pgs_nil))))) (pss_one (ps_ret (pe_op op_add (pv 3) (pe_op op_mulW (pe_op op_mulW pe_int (pv 2)) (pe_op op_modN (pe_op op_mulW (pv 7) (pe_op op_fdivZ (pe_op op_sub (pv 6) (pv 3)) pe_int)) (pe_callB call_abs (by rfl) T.abs (by decide +kernel) (pa_cons (pv 5) pa_nil)))))))))), fun p hp => ?_⟩
  obtain ⟨f, g⟩ := p
  obtain ⟨⟨b1, b2, b3⟩, ⟨c1, c2, c3⟩, c, ga, hd⟩ := hp
  simp only at b1 b2 b3 c1 c2 c3 c ga hd
  refine ds_u3 (Dv.to (dv_var rfl) ⟨_, _, _, rfl, ?_⟩)
  refine ds_u3 (Dv.to (dv_var rfl) ⟨_, _, _, rfl, ?_⟩)
  refine ds_u3 (de_callA (f.a, g.a) rfl ⟨b1.mono (by decide), c1.mono (by decide)⟩ (das2 (dv_var rfl) (dv_var rfl)) fun z hz => ?_)
  obtain ⟨g1, u, v, rfl, hg, e, k1, k2⟩ := hz
  have hg1 : g1 = 1 := by rw [hg, cop_iff.mp c]; rfl
  subst hg1
  simp only at e k1 k2
  refine ⟨_, _, _, rfl, ?_⟩
  obtain ⟨h, hh⟩ := parity hd
  have eh : (g.b - f.b).fdiv 2 = h := by
    rw [show g.b - f.b = h * 2 by omega, Int.mul_fdiv_cancel _ (by decide)]
  have ga' : (g.a.natAbs : Int) ≠ 0 := by omega
  have bu : Bd 82 u := by unfold Bd at *; omega
  have bga : Bd 80 (g.a.natAbs : Int) := by unfold Bd at *; omega
  have bh : Bd 82 ((g.b - f.b).fdiv 2) := (Bd.fdiv (Bd.sub c2 b2)).mono (by decide)
  have bt : Bd 80 ((u * (g.b - f.b).fdiv 2).fmod (g.a.natAbs : Int)) := Bd.fmod bga (by omega)
  refine ds_ret' (dv_add (dv_var rfl) (dv_mul (dv_mul dv_int (dv_var rfl) (by walk_at "cm")) (dv_mod (dv_mul (dv_var rfl) (dv_div (dv_sub (dv_var rfl) (dv_var rfl)) dv_int ⟨by decide, by decide⟩) (by walk_at "cm")) (dv_abs (dv_var rfl)) ga') (by walk_at "cm"))) ?_
  have bB : Bd 110 (f.b + 2 * f.a * (u * (g.b - f.b).fdiv 2).fmod (g.a.natAbs : Int)) := (Bd.add b2 (Bd.mul (Bd.mul (Bd.lit (n := 2) (i := 2) rfl) b1) bt)).mono (by decide)
  have q := fdm (u * h) (g.a.natAbs : Int)
  have sg : ∃ s : Int, (g.a.natAbs : Int) = s * g.a := by
    rcases Int.lt_or_le g.a 0 with z | z
    · exact ⟨-1, by omega⟩
    · exact ⟨1, by omega⟩
  obtain ⟨s, hs⟩ := sg
  refine ⟨_, (u * h).fmod (g.a.natAbs : Int), -(v * h) - f.a * (u * h).fdiv (g.a.natAbs : Int) * s, by rw [eh], rfl, ?_, by rw [← eh]; exact bB⟩
  generalize (u * h).fdiv (g.a.natAbs : Int) = d at *
  generalize (u * h).fmod (g.a.natAbs : Int) = t at *
  rw [hs] at q
  have e1 : f.a * t = f.a * (u * h) - f.a * (d * (s * g.a)) := by rw [← q]; grind
  have e2 : f.a * (u * h) = h - v * g.a * h := by
    have : (u * f.a + v * g.a) * h = h := by rw [e]; omega
    grind
  have e3 : 2 * f.a * t = 2 * (f.a * t) := by grind
  simp only
  rw [e3, e1, e2, hh]
  grind
abbrev spShifted (K : PySem.W.Frag) : Sp := spA K 2 (fun p : Fm × Int => [fmD p.1, .int p.2]) (fun p => BdF 100 p.1 ∧ Bd 120 p.2 ∧ p.1.a ≠ 0) fun p z => z = mxD (mSh ((p.2 - p.1.b).fdiv (2 * p.1.a)))
theorem okShifted (T : Tx K mg) : FnOk P w K mg base CX0 1 T.xShifted.f T.xShifted.fd ["form", "middle"] (spShifted K) := by
  refine fn_dataA T.xShifted.F scShifted rfl fun cdv A outer s H E hr => ⟨_, (pss_one (ps_ret (pe_tup (pa_cons pe_int (pa_cons (pe_op op_fdivZ (pe_op op_sub (pv 1) (pe_ix ix_tup (pv 0) pe_int (fun _ _ => rfl))) (pe_op op_mulW pe_int (pe_ix ix_tup (pv 0) pe_int (fun _ _ => rfl)))) (pa_cons pe_int (pa_cons pe_int pa_nil))))))), fun p hp => ?_⟩
  obtain ⟨f, B⟩ := p
  obtain ⟨⟨b1, b2, b3⟩, bB, ha⟩ := hp
  simp only at b1 b2 b3 bB ha
  have ha2 : 2 * f.a ≠ 0 := by omega
  refine ds_ret' (dv_t4 dv_int (dv_div (dv_sub (dv_var rfl) (dv_ix1 (dv_var rfl))) (dv_mul dv_int (dv_ix0 (dv_var rfl)) (by walk_at "cm")) (cd_of (b := 104) ha2 (Bd.mul (Bd.lit (n := 4) (i := 2) rfl) b1) (by decide))) dv_int dv_int) rfl
end
end K19
/-! K19LayG -/
set_option Elab.async false
set_option linter.all false
set_option maxRecDepth 100000
set_option maxHeartbeats 4000000
namespace K19
open PySem PySem.Spec PyProof.Rows L2
open Evl (Ex)
/-! ### values that share no list with what stood -/
def strip (H H' : Hp) : Hp := fun a => match H a with
  | some (.lst _) => none
  | _ => H' a
theorem strip_le {H H' : Hp} : Ex (strip H H') H' := fun a o e => by
  unfold strip at e
  split at e
  · cases e
  · exact e
theorem strip_of {H H' : Hp} {a : Addr} (n : ∀ xs, H a ≠ some (.lst xs)) : strip H H' a = H' a := by
  unfold strip
  split
  · rename_i xs e
    exact (n xs e).elim
  · rfl
theorem strip_some {H H' : Hp} {a : Addr} {o : HO} (e : strip H H' a = some o) : (∀ xs, H a ≠ some (.lst xs)) ∧ H' a = some o := by
  unfold strip at e
  split at e
  · cases e
  · rename_i n
    exact ⟨fun xs h => n xs h, e⟩
theorem strip_ex {H H1 H2 : Hp} (x : Ex H1 H2) : Ex (strip H H1) (strip H H2) := fun a o e => by
  obtain ⟨n, e⟩ := strip_some e
  rw [strip_of n]
  exact x a o e
theorem strip_back {H H1 H2 : Hp} (x : Ex H H1) : Ex (strip H1 H2) (strip H H2) := fun a o e => by
  obtain ⟨n, e⟩ := strip_some e
  rw [strip_of fun xs h => n xs (x a _ h)]
  exact e
theorem exT_strip {H H' : Hp} (x : Ex H H') : ExT H' (strip H H') := fun a ys r => by
  have n : ∀ xs, H a ≠ some (.lst xs) := fun xs h => by
    have := x a _ h
    rcases r with r | ⟨ob, r⟩ <;> rw [this] at r <;> cases r
  rcases r with r | ⟨ob, r⟩
  · exact .inl (by rw [strip_of n]; exact r)
  · exact .inr ⟨ob, by rw [strip_of n]; exact r⟩
def DN (K : PySem.W.Frag) (te : TE) (env : Env') (P : PyData → Prop) : Prop := ∀ σ H, RS K H σ env → ∀ Q : VK, (∀ d v H', P d → Ex H H' → Dp K (strip H H') v d → Q v H') → te σ H Q
section
variable {K : PySem.W.Frag} {env : Env'} {ta tb te : TE} {P : PyData → Prop}
theorem DN.de (h : DN K te env P) : DE K te env P := fun σ H r Q q => h σ H r Q fun d v H' p x D => q d v H' p x (dp_ex strip_le _ _ D)
theorem DE.dn (h : DE K te env P) (n : ∀ d, P d → noL d = true) : DN K te env P := fun σ H r Q q => h σ H r Q fun d v H' p x D => q d v H' p x (dp_exT (exT_strip x) _ _ (n d p) D)
/-- what is made of a list so far -/
def lcInv (K : PySem.W.Frag) (H : Hp) (D : Addr) (E : Nat → PyData → Prop) (n : Nat) (H' : Hp) : Prop := ∃ acc ds, H' D = some (.lst acc) ∧ DpAll K (strip H (rm D H')) acc ds ∧ Ex H (rm D H') ∧ ds.length = n ∧ ∀ i d, ds[i]? = some d → E i d
theorem lc_turn {H H' : Hp} {D : Addr} {E : Nat → PyData → Prop} {n : Nat} {σ : L2.St} (hn : n < 1000) (g : lcInv K H D E n H') (r : RS K (rm D H') σ env) (h : DN K te env (E n)) :
    te σ H' fun y H4 => ∃ acc, H4 D = some (.lst acc) ∧ acc.length < sizeLine ∧ lcInv K H D E (n + 1) (upd H4 D (.lst (acc ++ [y]))) := by
  obtain ⟨acc, ds, hD, hA, hx, hl, hE⟩ := g
  refine h σ H' (r.ex rm_le) _ fun d v H4 p x D4 => ?_
  have hr : rm D (upd H4 D (.lst (acc ++ [v]))) = rm D H4 := rm_upd
  refine ⟨acc, x _ _ hD, by rw [DpAll.length hA, hl]; exact Nat.lt_of_lt_of_le hn (by decide), acc ++ [v], ds ++ [d], upd_same, ?_, by rw [hr]; exact hx.trans (rm_ex x), by simp [hl], fun i e he => ?_⟩
  · rw [hr]
    refine DpAll.append (dps_ex (strip_ex (rm_ex x)) _ _ hA) (dp_ex (fun a o e => ?_) _ _ D4)
    obtain ⟨n1, e1⟩ := strip_some e
    have ne : a ≠ D := by rintro rfl; exact n1 _ hD
    rw [strip_of fun xs h => n1 xs (rm_le a _ (hx a _ h)), rm_ne ne]
    exact e1
  · by_cases hi : i < ds.length
    · rw [List.getElem?_append_left hi] at he
      exact hE i e he
    · rw [List.getElem?_append_right (by omega)] at he
      have : i - ds.length = 0 := by
        apply Classical.byContradiction
        intro z
        rw [List.getElem?_eq_none (by simp; omega)] at he
        cases he
      rw [this] at he
      have e2 : d = e := Option.some.inj he
      rw [← e2, show i = n by omega]
      exact p
theorem rs_none {H : Hp} : ∀ {σ : L2.St} {e : Env'} (j : Nat), RS K H σ e → RS K H (σ.set j none) (e.set j none)
  | _, _, _, .nil => .nil
  | _, _, 0, .no r => .no r
  | _, _, j + 1, .no r => .no (rs_none j r)
  | _, _, 0, .yes _ r => .no r
  | _, _, j + 1, .yes h r => .yes h (rs_none j r)
theorem lc_start {H : Hp} {D : Addr} {E : Nat → PyData → Prop} (h : H D = none) : lcInv K H D E 0 (upd H D (.lst [])) := ⟨[], [], upd_same, .nil, by rw [rm_upd_new h]; exact Evl.Ex.refl _, rfl, fun i d e => by simp at e⟩
theorem lc_done {H H1 H' : Hp} {D : Addr} {E : Nat → PyData → Prop} {n : Nat} {Q : VK} (x : Ex H H1) (h : H1 D = none) (g : lcInv K H1 D E n H') (hP : ∀ ds, ds.length = n → (∀ k d, ds[k]? = some d → E k d) → P (.list ds)) (q : ∀ d v H', P d → Ex H H' → Dp K (strip H H') v d → Q v H') : Q (.ref D) H' := by
  obtain ⟨acc, ds, hD, hA, hx, hl, hE⟩ := g
  refine q (.list ds) _ _ (hP ds hl hE) (x.trans (hx.trans rm_le)) (.lst (SqL.of ?_) (dps_ex ((strip_ex rm_le).trans (strip_back x)) _ _ hA))
  rw [strip_of fun xs e => by rw [x _ _ e] at h; cases h]
  exact hD
theorem dn_lc1 {n i : Nat} {E : Nat → PyData → Prop} (hb : Dv K tb env (.int (n : Int))) (hn : n ≤ 100) (he : ∀ k, k < n → DN K te ((env.set i none).set i (some (.int (0 + (k : Int))))) (E k))
    (hP : ∀ ds, ds.length = n → (∀ k d, ds[k]? = some d → E k d) → P (.list ds)) : DN K (tLc (iRng1 (tCons tb tNil)) (gName i) tYes te [i]) env P := fun σ H r Q q =>
  hb σ H r _ fun _ v H1 e1 x1 D1 => by
    subst e1
    cases D1
    refine ⟨(n : Int), rfl, by omega, by omega, fun D hD => lc_range (fun k H' => lcInv K H1 D E k H') (lc_start hD) (fun k H' hk g => ?_) fun H' g => lc_done x1 hD g hP q⟩
    refine ⟨by
      show (((σ.set i none).set i (some (.int (0 + (k : Int))))).set i none) = σ.set i none
      rw [List.set_set, List.set_set], ?_⟩
    have hx := g
    obtain ⟨_, _, _, _, x2, _⟩ := hx
    exact lc_turn (by omega) g ((rs_none i (r.ex (x1.trans x2))).set (.int _) i) (he k hk)
theorem dn_lc2 {n m i j : Nat} {tc : TE} {E : Nat → PyData → Prop} (ij : i ≠ j) (hb : Dv K tb env (.int (n : Int))) (hc : ∀ k, k < n → Dv K tc ((((env.set j none).set i none).set i (some (.int (0 + (k : Int)))))) (.int (m : Int))) (hn : n * m ≤ 100) (hm : m ≤ 100) (hn2 : n ≤ 100)
    (he : ∀ k l, k < n → l < m → DN K te (((((env.set j none).set i none).set i (some (.int (0 + (k : Int))))).set j none).set j (some (.int (0 + (l : Int))))) (E (k * m + l)))
    (hP : ∀ ds, ds.length = n * m → (∀ k d, ds[k]? = some d → E k d) → P (.list ds)) : DN K (tLc2 (iRng1 (tCons tb tNil)) (gName i) tYes (iRng1 (tCons tc tNil)) (gName j) tYes te [i, j] [j]) env P := fun σ H r Q q =>
  hb σ H r _ fun _ v H1 e1 x1 D1 => by
    subst e1
    cases D1
    refine ⟨(n : Int), rfl, by omega, by omega, fun D hD => ?_⟩
    refine ⟨fun k c H' => c = n - k ∧ k ≤ n ∧ lcInv K H1 D E (k * m) H', ⟨n, by simp, Nat.zero_le _, by rw [Nat.zero_mul]; exact lc_start hD⟩, ?_⟩
    rintro k c H' ⟨rfl, hk, g⟩
    by_cases hlt : k < n
    · refine .inr ⟨hlt, fun H' => lcInv K H1 D E ((k + 1) * m) H', fun H2 g2 => ⟨n - (k + 1), by omega, rfl, hlt, g2⟩, fun x H2 y => ?_⟩
      obtain ⟨e, y⟩ := y
      subst e y
      refine ⟨?_, ?_⟩
      · show ((((σ.set j none).set i none).set i (some (.int (0 + (k : Int))))).set j none).set i none = (σ.set j none).set i none
        rw [List.set_set, List.set_comm _ _ ij, List.set_set, List.set_set]
      · have hx := g
        obtain ⟨_, _, _, _, x2, _⟩ := hx
        have r2 := (rs_none i (rs_none j (r.ex (x1.trans x2)))).set (v := .int (0 + (k : Int))) (.int _) i
        refine hc k hlt _ _ (r2.ex rm_le) _ fun _ v3 H3 e3 x3 D3 => ?_
        subst e3
        cases D3
        have g3 : lcInv K H1 D E (k * m) H3 := by
          obtain ⟨acc, ds, hD', hA, hx', hl, hE⟩ := g
          exact ⟨acc, ds, x3 _ _ hD', dps_ex (strip_ex (rm_ex x3)) _ _ hA, hx'.trans (rm_ex x3), hl, hE⟩
        refine ⟨(m : Int), rfl, by omega, by omega, ?_⟩
        refine ⟨fun l c H' => c = m - l ∧ l ≤ m ∧ lcInv K H1 D E (k * m + l) H', ⟨m, by simp, Nat.zero_le _, g3⟩, ?_⟩
        rintro l c H4 ⟨rfl, hl, g4⟩
        by_cases hlt2 : l < m
        · refine .inr ⟨hlt2, fun H' => lcInv K H1 D E (k * m + (l + 1)) H', fun H2 g2 => ⟨m - (l + 1), by omega, rfl, hlt2, g2⟩, fun x H5 y => ?_⟩
          obtain ⟨e, y⟩ := y
          subst e y
          refine ⟨?_, ?_⟩
          · show ((((((σ.set j none).set i none).set i (some (.int (0 + (k : Int))))).set j none).set j (some (.int (0 + (l : Int))))).set j none) = ((((σ.set j none).set i none).set i (some (.int (0 + (k : Int))))).set j none)
            rw [List.set_set, List.set_set]
          · have hx := g4
            obtain ⟨_, _, _, _, x4, _⟩ := hx
            have r4 := (rs_none j ((rs_none i (rs_none j (r.ex (x1.trans x4)))).set (v := .int (0 + (k : Int))) (.int _) i)).set (v := .int (0 + (l : Int))) (.int _) j
            have lt1000 : k * m + l < 1000 := by
              have : k * m + m ≤ n * m := by
                have := Nat.mul_le_mul_right m (show k + 1 ≤ n from hlt)
                rw [Nat.succ_mul] at this
                exact this
              omega
            exact lc_turn lt1000 g4 r4 (he k l hlt hlt2)
        · have e : l = m := by omega
          subst e
          exact .inl ⟨Nat.le_refl _, by rw [Nat.succ_mul]; exact g4⟩
    · have e : k = n := by omega
      subst e
      exact .inl ⟨Nat.le_refl _, lc_done x1 hD g hP q⟩
/-- tuple(xs) of a list -/
theorem de_tupleL (ha : DE K ta env fun d => ∃ ds, d = .list ds ∧ P (.tuple ds)) : DE K (tCB (fun xs H Q => ∃ p ys, xs = [V.ref p] ∧ ((SqL K H p ys ∧ ∀ l, H l = none → Q (.ref l) (upd H l (.tup ys))) ∨ (SqT K H p ys ∧ Q (.ref p) H))) (tCons ta tNil)) env P := fun σ H r Q q =>
  ha σ H r _ fun d v H1 ⟨ds, e, p⟩ x1 D1 => by
    subst e
    cases D1 with
    | lst hs hA => exact ⟨_, _, rfl, .inl ⟨hs, fun l hl => q _ _ _ p (x1.trans (ex_new hl)) (.tup (SqT.of upd_same) (dps_ex (ex_new hl) _ _ hA))⟩⟩
/-- an item of a list at a reckoned place, by what holds of it -/
theorem de_ixL (ha : DE K ta env fun t => ∃ ds, t = .list ds ∧ DE K tb env fun d' => ∃ (n : Nat) (d : PyData), d' = .int (n : Int) ∧ ds[n]? = some d ∧ P d) : DE K (tOp (rIxL K) ta tb) env P := fun σ H r Q q =>
  ha σ H r _ fun t v H1 ⟨ds, e1, p1⟩ x1 D1 => p1 σ H1 (r.ex x1) _ fun d' w H2 ⟨n, d, e2, hd, p2⟩ x2 D2 => by
    subst e1 e2
    cases D2
    cases D1 with
    | lst hs hall =>
      obtain ⟨w, hw, Dw⟩ := hall.get hd
      exact ⟨_, _, _, w, rfl, rfl, Evl.ex_l x2 hs, atI_nat hw, q d w H2 p2 (x1.trans x2) (dp_ex x2 _ _ Dw)⟩
end
end K19
/-! K19W10 -/
set_option Elab.async false
set_option linter.all false
set_option maxRecDepth 100000
set_option maxHeartbeats 4000000
namespace K19
open PySem PySem.Spec PyProof.Rows L2
open Evl (Ex)
local macro_rules | `(tactic| walk_at "bd") => `(tactic| first | assumption | exact Bd.lit (n := 4) rfl | exact Bd.lit (n := 32) rfl | (apply Bd.mul <;> walk_at "bd") | (apply Bd.add <;> walk_at "bd") | (apply Bd.sub <;> walk_at "bd") | (apply Bd.neg; walk_at "bd") | (apply Bd.fdiv; walk_at "bd"))
local macro_rules | `(tactic| walk_at "cm") => `(tactic| (apply cm_of; walk_at "bd"; walk_at "bd"; first | decide | omega))
local macro_rules | `(tactic| walk_at "dv") => `(tactic| first | exact dv_var rfl | exact dv_int | exact dv_str | exact dv_bl | assumption | (apply dv_ix0; walk_at "dv") | (apply dv_ix1; walk_at "dv") | (apply dv_ix2; walk_at "dv") | (apply dv_ix3; walk_at "dv") | (apply dv_add <;> walk_at "dv") | (apply dv_sub <;> walk_at "dv") | (apply dv_mul; walk_at "dv"; walk_at "dv"; walk_at "cm") | (apply dv_neg; walk_at "dv") | (apply dv_lt <;> walk_at "dv") | (apply dv_le <;> walk_at "dv") | (apply dv_gt <;> walk_at "dv") | (apply dv_ge <;> walk_at "dv") | (apply dv_eqI <;> walk_at "dv") | (apply dv_neI <;> walk_at "dv") | (apply dv_t2 <;> walk_at "dv") | (apply dv_t3 <;> walk_at "dv") | (apply dv_t4 <;> walk_at "dv") | (apply dv_abs; walk_at "dv") | (apply dv_intI; walk_at "dv"))
local macro_rules | `(tactic| walk_at "p2") => `(tactic| (apply ds_p2; walk_at "dv"; walk_at "dv"))
local macro_rules | `(tactic| walk_at "p2e") => `(tactic| (apply ds_p2e; walk_at "dv"; walk_at "dv"))
local macro_rules | `(tactic| walk_at "p3") => `(tactic| (apply ds_p3; walk_at "dv"; walk_at "dv"; walk_at "dv"))
local macro_rules | `(tactic| walk_at "set") => `(tactic| (apply ds_set'; walk_at "dv"))
local macro_rules | `(tactic| walk_at "sete") => `(tactic| (apply ds_sete; walk_at "dv"))
local macro_rules | `(tactic| walk_at "ret") => `(tactic| (apply ds_ret'; walk_at "dv"))
section
variable {P : Program} {w : World} {K : PySem.W.Frag} {mg : Str → Option Value} {base : Heap}

theorem de_callE {env : Env'} {α : Type} {n : Nat} {enc : α → List PyData} {pre : α → Prop} {post : α → PyData → Prop} {E : XK} {tr : TA} {P : PyData → Prop} (A : List PyData → Prop) (ha : DA K tr env A) (hx : ∀ ds, A ds → ∃ x, ds = enc x ∧ (enc x).length = n ∧ pre x) (h : ∀ ds, A ds → ∀ x z, ds = enc x → post x z → P z) : DE K (tCall (spA K n enc pre post) [] E tr) env P := fun σ H r Q q =>
  ha σ H r _ fun ds vs H1 e1 x1 D1 => by
    obtain ⟨x, e, hl, hp⟩ := hx ds e1
    exact ⟨x, hl, by rw [List.append_nil, ← e]; exact D1, hp, fun d v H' p y D => q d v H' (h ds e1 x d e p) (x1.trans y) D⟩
theorem fm_pt {f g : Fm} {x y x' y' : Int} (h : ([fmD f, ptD x y] : List PyData) = [fmD g, ptD x' y']) : f = g ∧ x = x' ∧ y = y' := by
  injection h with h1 h2
  injection h2 with h2 _
  injection h1 with h1
  injection h1 with a1 h1
  injection h1 with a2 h1
  injection h1 with a3 _
  injection a1 with a1
  injection a2 with a2
  injection a3 with a3
  injection h2 with h2
  injection h2 with b1 h2
  injection h2 with b2 _
  injection b1 with b1
  injection b2 with b2
  exact ⟨Fm.ext' a1 a2 a3, b1, b2⟩
def ResU (p : Fm × Fm) (z : PyData) : Prop := ∃ m n a2 B C, z = .tuple [fmD ⟨p.1.a, B, a2 * C⟩, mxD m, fmD ⟨a2, B, p.1.a * C⟩, mxD n] ∧ Eqv p.1 ⟨p.1.a, B, a2 * C⟩ ∧ Eqv p.2 ⟨a2, B, p.1.a * C⟩ ∧ p.1.a ≠ 0 ∧ a2 ≠ 0 ∧ Bd 20 p.1.a ∧ Bd 80 a2 ∧ Bd 110 B ∧ Bd 230 C ∧ BdM 300 m ∧ BdM 300 n
abbrev spUnited (K : PySem.W.Frag) : Sp := spA K 2 (fun p : Fm × Fm => [fmD p.1, fmD p.2]) (fun p => BdF 20 p.1 ∧ BdF 20 p.2 ∧ Prim p.1 ∧ Prim p.2 ∧ disc p.1 = disc p.2 ∧ NZ p.1 ∧ NZ p.2) ResU
theorem okUnited (T : Tx K mg) : FnOk P w K mg base CX0 4 T.xUnited.f T.xUnited.fd ["form", "other"] (spUnited K) := by
  have GAct : FnOk P w K mg base CX0 2 T.xAct.f T.xAct.fd ["form", "m"] (spAct K) := okAct T
  have GShifted : FnOk P w K mg base CX0 1 T.xShifted.f T.xShifted.fd ["form", "middle"] (spShifted K) := okShifted T
  have GMiddleOf : FnOk P w K mg base CX0 2 T.xMiddleOf.f T.xMiddleOf.fd ["first", "second"] (spMiddleOf K) := okMiddleOf T
  have GLeadingChange : FnOk P w K mg base CX0 3 T.xLeadingChange.f T.xLeadingChange.fd ["form", "point"] (spLeadingChange K) := okLeadingChange T
  have GCoprimeColumn : FnOk P w K mg base CX0 3 T.xCoprimeColumn.f T.xCoprimeColumn.fd ["form", "number"] (spCoprimeColumn K) := okCoprimeColumn T
  refine fn_dataA T.xUnited.F scUnited rfl fun cdv A outer s H E hr => ⟨_, (pss_cons (ps_asg (pe_call GLeadingChange (hr.mono (by decide)) (by rfl) T.xLeadingChange.g T.xLeadingChange.F.kp T.xLeadingChange.b .nil pass0 (pa_cons (pv 1) (pa_cons (pe_call GCoprimeColumn (hr.mono (by decide)) (by rfl) T.xCoprimeColumn.g T.xCoprimeColumn.F.kp T.xCoprimeColumn.b .nil pass0 (pa_cons (pv 1) (pa_cons (pe_ix (r := rIxT K) ix_tup (pv 0) pe_int (fun _ _ => rfl)) pa_nil))) pa_nil))) (pg_tup rfl (pgs_cons (pg_name (i := 2) scUnited.nd rfl (Or.inl rfl)) (pgs_cons (pg_name (i := 3) scUnited.nd rfl (Or.inl rfl)) pgs_nil)))) (pss_cons (ps_set (i := 4) scUnited.nd rfl (Or.inl rfl) (pe_call GMiddleOf (hr.mono (by decide)) (by rfl) T.xMiddleOf.g T.xMiddleOf.F.kp T.xMiddleOf.b .nil pass0 (pa_cons (pv 0) (pa_cons (pv 2) pa_nil)))) (pss_cons (ps_set (i := 5) scUnited.nd rfl (Or.inl rfl) (pe_call GShifted (hr.mono (by decide)) (by rfl) T.xShifted.g T.xShifted.F.kp T.xShifted.b .nil pass0 (pa_cons (pv 0) (pa_cons (pv 4) pa_nil)))) (pss_cons (ps_set (i := 6) scUnited.nd rfl (Or.inl rfl) (pe_call GShifted (hr.mono (by decide)) (by rfl) T.xShifted.g T.xShifted.F.kp T.xShifted.b .nil pass0 (pa_cons (pv 2) (pa_cons (pv 4) pa_nil)))) (pss_cons (ps_set (i := 7) scUnited.nd rfl (Or.inl rfl) (pe_call GAct (hr.mono (by decide)) (by rfl) T.xAct.g T.xAct.F.kp T.xAct.b .nil pass0 (pa_cons (pv 2) (pa_cons (pv 6) pa_nil)))) (pss_cons (ps_set (i := 3) scUnited.nd rfl (Or.inl rfl) (pe_tup (pa_cons (pe_ix (r := rIxT K) ix_tup (pv 3) pe_int (fun _ _ => rfl)) (pa_cons (pe_op op_add (pe_op op_mulW (pe_ix (r := rIxT K) ix_tup (pv 3) pe_int (fun _ _ => rfl)) (pe_ix (r := rIxT K) ix_tup (pv 6) pe_int (fun _ _ => rfl))) (pe_ix (r := rIxT K) ix_tup (pv 3) pe_int (fun _ _ => rfl))) (pa_cons (pe_ix (r := rIxT K) ix_tup (pv 3) pe_int (fun _ _ => rfl)) (pa_cons (pe_op op_add (pe_op op_mulW (pe_ix (r := rIxT K) ix_tup (pv 3) pe_int (fun _ _ => rfl)) (pe_ix (r := rIxT K) ix_tup (pv 6) pe_int (fun _ _ => rfl))) (pe_ix (r := rIxT K) ix_tup (pv 3) pe_int (fun _ _ => rfl))) pa_nil)))))) (pss_one (ps_ret (pe_tup (pa_cons (pe_call GAct (hr.mono (by decide)) (by rfl) T.xAct.g T.xAct.F.kp T.xAct.b .nil pass0 (pa_cons (pv 0) (pa_cons (pv 5) pa_nil))) (pa_cons (pv 5) (pa_cons (pv 7) (pa_cons (pv 3) pa_nil))))))))))))), fun p hp => ?_⟩
  obtain ⟨f, g⟩ := p
  obtain ⟨bf, bg, pf, pg, hd, zf, zg⟩ := hp
  simp only at bf bg pf pg hd zf zg
  have fa := nz_a zf
  refine ds_u2 (de_callE (fun z => ∃ x y, z = [fmD g, ptD x y] ∧ Bd 22 x ∧ Bd 22 y ∧ Cop x y ∧ Cop (val g x y) f.a) (da_v (dv_var rfl) (da_cons (de_callA (g, f.a) rfl ⟨bg, bf.1, pg, fa⟩ (das2 (dv_var rfl) (dv_ix0 (dv_var rfl))) fun d ⟨x, y, e, h⟩ => da_nil ⟨x, y, by rw [e], h⟩))) (fun ds ⟨x, y, e, b1, b2, c, _⟩ => ⟨(g, x, y), e, rfl, bg, b1, b2, c⟩) ?_)
  rintro ds ⟨x, y, rfl, b1, b2, cxy, cn⟩ ⟨g', x', y'⟩ z he hz
  have he' : ([fmD g, ptD x y] : List PyData) = [fmD g', ptD x' y'] := he
  obtain ⟨e1, e2, e3⟩ := fm_pt he'
  subst e1 e2 e3
  obtain ⟨n0, rfl, dn, np, nr, bn⟩ := hz
  simp only at np nr bn
  refine ⟨_, _, rfl, ?_⟩
  have es : Eqv g (act g n0) := ⟨n0, dn, rfl⟩
  have sa : (act g n0).a = val g x y := by rw [← np, ← nr]; rfl
  have sa0 := nz_a (zg.eqv es)
  have ds := es.disc
  have bs : BdF 80 (act g n0) := by
    obtain ⟨g1, g2, g3⟩ := bg
    obtain ⟨m1, m2, m3, m4⟩ := bn
    refine ⟨?_, ?_, ?_⟩
    · exact (Bd.add (Bd.add (Bd.mul (Bd.mul g1 m1) m1) (Bd.mul (Bd.mul g2 m1) m3)) (Bd.mul (Bd.mul g3 m3) m3)).mono (by decide)
    · exact (Bd.add (Bd.add (Bd.mul (Bd.mul (Bd.mul (Bd.lit (n := 2) (i := 2) rfl) g1) m1) m2) (Bd.mul g2 (Bd.add (Bd.mul m1 m4) (Bd.mul m2 m3)))) (Bd.mul (Bd.mul (Bd.mul (Bd.lit (n := 2) (i := 2) rfl) g3) m3) m4)).mono (by decide)
    · exact (Bd.add (Bd.add (Bd.mul (Bd.mul g1 m2) m2) (Bd.mul (Bd.mul g2 m2) m4)) (Bd.mul (Bd.mul g3 m4) m4)).mono (by decide)
  rw [← sa] at cn
  generalize hs : act g n0 = s at *
  refine ds_setE (de_callA (f, s) rfl ⟨bf, bs, cn.symm, sa0, by rw [hd, ds]⟩ (das2 (dv_var rfl) (dv_var rfl)) fun z hz => ?_)
  obtain ⟨B, k, k', rfl, hB, hB', bB⟩ := hz
  simp only at hB hB'
  have ek : (B - f.b).fdiv (2 * f.a) = k := by
    rw [show B - f.b = k * (2 * f.a) by rw [hB]; grind, Int.mul_fdiv_cancel _ (by omega)]
  have ek' : (B - s.b).fdiv (2 * s.a) = k' := by
    rw [show B - s.b = k' * (2 * s.a) by rw [hB']; grind, Int.mul_fdiv_cancel _ (by omega)]
  have bk : Bd 120 k := by
    rw [← ek]
    exact (Bd.fdiv (Bd.sub bB bf.2.1)).mono (by decide)
  have bk' : Bd 120 k' := by
    rw [← ek']
    exact (Bd.fdiv (Bd.sub bB bs.2.1)).mono (by decide)
  have bmS : ∀ {k}, Bd 120 k → BdM 200 (mSh k) := fun {k} h => ⟨(Bd.lit (n := 4) rfl).mono (by decide), h.mono (by decide), (Bd.lit (n := 4) rfl).mono (by decide), (Bd.lit (n := 4) rfl).mono (by decide)⟩
  refine ds_set' (d := mxD (mSh k)) (dv_callA (f, B) rfl ⟨bf.mono (by decide), bB.mono (by decide), fa⟩ (das2 (dv_var rfl) (dv_var rfl)) fun z h => by rw [h, ek]) ?_
  refine ds_set' (d := mxD (mSh k')) (dv_callA (s, B) rfl ⟨bs.mono (by decide), bB.mono (by decide), sa0⟩ (das2 (dv_var rfl) (dv_var rfl)) fun z h => by rw [h, ek']) ?_
  refine ds_set' (dv_callA (s, mSh k') rfl ⟨bs.mono (by decide), (bmS bk').mono (by decide)⟩ (das2 (dv_var rfl) (dv_var rfl)) fun z h => h) ?_
  obtain ⟨m1, m2, m3, m4⟩ := id bn
  refine ds_set' (d := mxD ⟨n0.p, n0.p * k' + n0.q, n0.r, n0.r * k' + n0.s⟩) (dv_t4 (dv_ix0 (dv_var rfl)) (dv_add (dv_mul (dv_ix0 (dv_var rfl)) (dv_ix1 (dv_var rfl)) (cm_of m1 bk' (by decide))) (dv_ix1 (dv_var rfl))) (dv_ix2 (dv_var rfl)) (dv_add (dv_mul (dv_ix2 (dv_var rfl)) (dv_ix1 (dv_var rfl)) (cm_of m3 bk' (by decide))) (dv_ix3 (dv_var rfl)))) ?_
  refine ds_ret' (dv_t4 (dv_callA (f, mSh k) rfl ⟨bf.mono (by decide), (bmS bk).mono (by decide)⟩ (das2 (dv_var rfl) (dv_var rfl)) fun z h => h) (dv_var rfl) (dv_var rfl) (dv_var rfl)) ?_
  have q1 : Eqv f (act f (mSh k)) := ⟨mSh k, det_Sh k, rfl⟩
  have q2 : Eqv g (act s (mSh k')) := es.trans ⟨mSh k', det_Sh k', rfl⟩
  have d1 := q1.disc
  have d2 := q2.disc
  rw [act_Sh, ← hB] at q1 d1
  rw [act_Sh, ← hB'] at q2 d2
  generalize hc1 : f.a * k * k + f.b * k + f.c = c1 at *
  generalize hc2 : s.a * k' * k' + s.b * k' + s.c = c2 at *
  have t : f.a * c1 = s.a * c2 := by
    have u1 : disc f = B * B - 4 * (f.a * c1) := by rw [d1]; unfold disc; simp only; grind
    have u2 : disc g = B * B - 4 * (s.a * c2) := by rw [d2]; unfold disc; simp only; grind
    omega
  obtain ⟨C, hC⟩ := Cop.dvd cn t
  have hC2 : c2 = f.a * C := by
    apply Int.eq_of_mul_eq_mul_left sa0
    rw [← t, hC]
    grind
  refine ⟨mSh k, ⟨n0.p, n0.p * k' + n0.q, n0.r, n0.r * k' + n0.s⟩, s.a, B, C, ?_, by rw [← hC]; exact q1, by rw [← hC2]; exact q2, fa, sa0, bf.1, bs.1, bB, ?_, (bmS bk).mono (by decide), m1.mono (by decide), (Bd.add (Bd.mul m1 bk') m2).mono (by decide), m3.mono (by decide), (Bd.add (Bd.mul m3 bk') m4).mono (by decide)⟩
  · rw [act_Sh, act_Sh, ← hB, ← hB', hc1, hc2, hC, hC2]
  · have bD : Bd 60 (disc f) := by
      obtain ⟨b1, b2, b3⟩ := bf
      exact (Bd.sub (Bd.mul b2 b2) (Bd.mul (Bd.mul (Bd.lit (n := 4) (i := 4) rfl) b1) b3)).mono (by decide)
    have e : (4 * f.a * s.a) * C = B * B - disc f := by
      rw [d1, hC]; unfold disc; simp only; grind
    have bE : Bd 230 (B * B - disc f) := (Bd.sub (Bd.mul bB bB) bD).mono (by decide)
    rw [← e] at bE
    unfold Bd at *
    refine Nat.lt_of_le_of_lt (nat_of_mul ?_ (Nat.le_refl _)) bE
    intro z
    rcases Int.mul_eq_zero.mp z with z | z
    · rcases Int.mul_eq_zero.mp z with z | z
      · cases z
      · exact fa z
    · exact sa0 z
abbrev IntL (n B : Nat) (d : PyData) : Prop := ∃ ns : List Int, d = .list (ns.map .int) ∧ ns.length = n ∧ ∀ t ∈ ns, Bd B t
theorem intL_of {B : Nat} : ∀ {ds : List PyData}, (∀ (k : Nat) (d : PyData), ds[k]? = some d → ∃ t, d = .int t ∧ Bd B t) → ∃ ns : List Int, ds = ns.map .int ∧ ns.length = ds.length ∧ ∀ t ∈ ns, Bd B t
  | [], _ => ⟨[], rfl, rfl, fun t h => by cases h⟩
  | d :: ds, h => by
    obtain ⟨ns, e1, e2, e3⟩ := intL_of (ds := ds) fun k d hd => h (k + 1) d hd
    obtain ⟨t, rfl, ht⟩ := h 0 d rfl
    refine ⟨t :: ns, by rw [e1]; rfl, by simp [e2], fun s hs => ?_⟩
    rcases List.mem_cons.mp hs with rfl | hs
    · exact ht
    · exact e3 s hs
abbrev spColumns (K : PySem.W.Frag) : Sp := spA K 2 (fun p : Mx × Mx => [mxD p.1, mxD p.2]) (fun p => BdM 1000 p.1 ∧ BdM 1000 p.2) fun p z => ∃ ds, z = .list ds ∧ ds.length = 4 ∧ ∀ (k : Nat) (d : PyData), ds[k]? = some d → IntL 4 2000 d
theorem mx_at {m : Mx} {b : Nat} (h : BdM b m) {i : Nat} (hi : i < 4) : ∃ t, ([.int m.p, .int m.q, .int m.r, .int m.s] : List PyData)[i]? = some (.int t) ∧ Bd b t := by
  obtain ⟨h1, h2, h3, h4⟩ := h
  match i, hi with
  | 0, _ => exact ⟨_, rfl, h1⟩
  | 1, _ => exact ⟨_, rfl, h2⟩
  | 2, _ => exact ⟨_, rfl, h3⟩
  | 3, _ => exact ⟨_, rfl, h4⟩
theorem okColumns (T : Tx K mg) : FnOk P w K mg base CX0 1 T.xColumns.f T.xColumns.fd ["m", "n"] (spColumns K) := by
  refine fn_dataA T.xColumns.F scColumns rfl fun cdv A outer s H E hr => ⟨_, (pss_one (ps_ret (pe_lc2 (own := [("i", 2), ("j", 3)]) (vs1 := [3]) (g := gName 2) (g1 := gName 3) (tt := tYes) (tt1 := tYes) (by rfl) scColumns.nd (pi_range1 (by rfl) T.range (pa_cons pe_int pa_nil)) (blkOk_by (by rfl)) (by decide) (fun _ _ _ _ _ => (pg_name (i := 2) scColumns.nd rfl (Or.inr rfl))) (fun _ _ _ _ _ => pts_nil) (fun _ _ _ _ _ => (pi_range1 (by rfl) T.range (pa_cons pe_int pa_nil))) (fun _ _ _ _ _ => (pg_name (i := 3) scColumns.nd rfl (Or.inr rfl))) (fun _ _ _ _ _ => pts_nil) (fun _ _ _ _ _ => (pe_lc2 (own := [("k", 4), ("l", 5)]) (vs1 := [5]) (g := gName 4) (g1 := gName 5) (tt := tYes) (tt1 := tYes) (by rfl) scColumns.nd (pi_range1 (by rfl) T.range (pa_cons pe_int pa_nil)) (blkOk_by (by rfl)) (by decide) (fun _ _ _ _ _ => (pg_name (i := 4) scColumns.nd rfl (Or.inl rfl))) (fun _ _ _ _ _ => pts_nil) (fun _ _ _ _ _ => (pi_range1 (by rfl) T.range (pa_cons pe_int pa_nil))) (fun _ _ _ _ _ => (pg_name (i := 5) scColumns.nd rfl (Or.inl rfl))) (fun _ _ _ _ _ => pts_nil) (fun _ _ _ _ _ => (pe_op op_mulW (pe_ix (r := rIxT K) ix_tup (pv 0) (pe_op op_add (pe_op op_mulW pe_int (pv 2)) (pv 4)) (fun _ _ => rfl)) (pe_ix (r := rIxT K) ix_tup (pv 1) (pe_op op_add (pe_op op_mulW pe_int (pv 3)) (pv 5)) (fun _ _ => rfl))))))))), fun p hp => ?_⟩
  obtain ⟨m, n⟩ := p
  obtain ⟨bm, bn⟩ := hp
  simp only at bm bn
  refine ds_ret (DN.de (dn_lc2 (n := 2) (m := 2) (E := fun _ d => IntL 4 2000 d) (by decide) dv_int (fun _ _ => dv_int) (by decide) (by decide) (by decide) (fun i j hi hj => ?_) fun ds h1 h2 => ⟨ds, rfl, h1, h2⟩))
  refine dn_lc2 (n := 2) (m := 2) (E := fun _ d => ∃ t, d = .int t ∧ Bd 2000 t) (by decide) dv_int (fun _ _ => dv_int) (by decide) (by decide) (by decide) (fun k l hk hl => ?_) fun ds h1 h2 => ?_
  · obtain ⟨t, e1, bt⟩ := mx_at bm (i := 2 * i + k) (by omega)
    obtain ⟨s, e2, bs⟩ := mx_at bn (i := 2 * j + l) (by omega)
    refine DE.dn (Dv.to (dv_mul (dv_ixTe (n := 2 * i + k) (dv_var rfl) (dv_add (dv_mul dv_int (dv_var rfl) ?_) (dv_var rfl)) (by push_cast; omega) e1) (dv_ixTe (n := 2 * j + l) (dv_var rfl) (dv_add (dv_mul dv_int (dv_var rfl) ?_) (dv_var rfl)) (by push_cast; omega) e2) (cm_of bt bs (by decide))) ⟨_, rfl, (Bd.mul bt bs).mono (by decide)⟩) ?_
    · exact cm_of (a := 4) (b := 4) (Bd.lit rfl) (by unfold Bd; omega) (by decide)
    · exact cm_of (a := 4) (b := 4) (Bd.lit rfl) (by unfold Bd; omega) (by decide)
    · rintro d ⟨t, rfl, _⟩
      rfl
  · obtain ⟨ns, rfl, e2, e3⟩ := intL_of h2
    exact ⟨ns, rfl, by rw [e2, h1], e3⟩
end
end K19
/-! K19W11 -/
set_option Elab.async false
set_option linter.all false
set_option maxRecDepth 100000
set_option maxHeartbeats 4000000
namespace K19
open PySem PySem.Spec PyProof.Rows L2
open Evl (Ex)
local macro_rules | `(tactic| walk_at "bd") => `(tactic| first | assumption | exact Bd.lit (n := 4) rfl | exact Bd.lit (n := 32) rfl | (apply Bd.mul <;> walk_at "bd") | (apply Bd.add <;> walk_at "bd") | (apply Bd.sub <;> walk_at "bd") | (apply Bd.neg; walk_at "bd") | (apply Bd.fdiv; walk_at "bd"))
local macro_rules | `(tactic| walk_at "cm") => `(tactic| (apply cm_of; walk_at "bd"; walk_at "bd"; first | decide | omega))
local macro_rules | `(tactic| walk_at "dv") => `(tactic| first | exact dv_var rfl | exact dv_int | exact dv_str | exact dv_bl | assumption | (apply dv_ix0; walk_at "dv") | (apply dv_ix1; walk_at "dv") | (apply dv_ix2; walk_at "dv") | (apply dv_ix3; walk_at "dv") | (apply dv_add <;> walk_at "dv") | (apply dv_sub <;> walk_at "dv") | (apply dv_mul; walk_at "dv"; walk_at "dv"; walk_at "cm") | (apply dv_neg; walk_at "dv") | (apply dv_lt <;> walk_at "dv") | (apply dv_le <;> walk_at "dv") | (apply dv_gt <;> walk_at "dv") | (apply dv_ge <;> walk_at "dv") | (apply dv_eqI <;> walk_at "dv") | (apply dv_neI <;> walk_at "dv") | (apply dv_t2 <;> walk_at "dv") | (apply dv_t3 <;> walk_at "dv") | (apply dv_t4 <;> walk_at "dv") | (apply dv_abs; walk_at "dv") | (apply dv_intI; walk_at "dv"))
local macro_rules | `(tactic| walk_at "p2") => `(tactic| (apply ds_p2; walk_at "dv"; walk_at "dv"))
local macro_rules | `(tactic| walk_at "p2e") => `(tactic| (apply ds_p2e; walk_at "dv"; walk_at "dv"))
local macro_rules | `(tactic| walk_at "p3") => `(tactic| (apply ds_p3; walk_at "dv"; walk_at "dv"; walk_at "dv"))
local macro_rules | `(tactic| walk_at "set") => `(tactic| (apply ds_set'; walk_at "dv"))
local macro_rules | `(tactic| walk_at "sete") => `(tactic| (apply ds_sete; walk_at "dv"))
local macro_rules | `(tactic| walk_at "ret") => `(tactic| (apply ds_ret'; walk_at "dv"))
section
variable {P : Program} {w : World} {K : PySem.W.Frag} {mg : Str → Option Value} {base : Heap}

section
variable {env : Env'} {te tb : TE}
theorem DN.imp {P P' : PyData → Prop} (h : DN K te env P) (f : ∀ d, P d → P' d) : DN K te env P' := fun σ H r Q q => h σ H r Q fun d v H' p => q d v H' (f d p)
theorem dv_cast {i j : Int} (e : i = j) (h : Dv K te env (.int i)) : Dv K te env (.int j) := e ▸ h
theorem ds_env {env env' : Env'} {t : TS} {P : Out → Prop} (e : env = env') (h : DS K t env' P) : DS K t env P := e ▸ h
theorem dn_row {i B : Nat} (hb : Dv K tb env (.int 4)) (he : ∀ k : Nat, k < 4 → ∃ t, Dv K te ((env.set i none).set i (some (.int (0 + (k : Int))))) (.int t) ∧ Bd B t) : DN K (tLc (iRng1 (tCons tb tNil)) (gName i) tYes te [i]) env (IntL 4 B) :=
  dn_lc1 (n := 4) (E := fun _ d => ∃ t, d = .int t ∧ Bd B t) hb (by decide) (fun k hk => by
    obtain ⟨t, h, b⟩ := he k hk
    exact DE.dn (Dv.to h ⟨t, rfl, b⟩) fun d ⟨t, e, _⟩ => by rw [e]; rfl) fun ds h1 h2 => by
    obtain ⟨ns, rfl, e2, e3⟩ := intL_of h2
    exact ⟨ns, rfl, by rw [e2, h1], e3⟩
theorem il_at {ns : List Int} {B : Nat} (hl : ns.length = 4) (hb : ∀ t ∈ ns, Bd B t) {k : Nat} (hk : k < 4) : ∃ t, (ns.map PyData.int)[k]? = some (.int t) ∧ Bd B t :=
  ⟨ns[k], by rw [List.getElem?_map, List.getElem?_eq_getElem (by omega)]; rfl, hb _ (List.getElem_mem _)⟩
end
theorem inv_bd {m : Mx} {n : Nat} (h : BdM n m) : BdM (3 * n + 10) (inv' m) := by
  obtain ⟨h1, h2, h3, h4⟩ := h
  have bd : Bd (2 * n + 1) (det m) := (Bd.sub (Bd.mul h1 h4) (Bd.mul h2 h3)).mono (by omega)
  exact ⟨(Bd.mul bd h4).mono (by omega), (Bd.mul bd.neg h2).mono (by omega), (Bd.mul bd.neg h3).mono (by omega), (Bd.mul bd h1).mono (by omega)⟩
theorem noLs_ints : ∀ ns : List Int, noLs (ns.map PyData.int) = true
  | [] => rfl
  | n :: ns => by simp [noLs, noL, noLs_ints ns]
abbrev spCompose (K : PySem.W.Frag) : Sp := spA K 2 (fun p : Fm × Fm => [fmD p.1, fmD p.2]) (fun p => BdF 20 p.1 ∧ BdF 20 p.2 ∧ Good (disc p.1) p.1 ∧ Good (disc p.1) p.2) fun p z => ∃ R w, z = .tuple [fmD R, w] ∧ noL w = true ∧ CP p.1 p.2 R
theorem okCompose (T : Tx K mg) : FnOk P w K mg base CX0 6 T.xCompose.f T.xCompose.fd ["form", "other"] (spCompose K) := by
  have GInverse : FnOk P w K mg base CX0 2 T.xInverse.f T.xInverse.fd ["m"] (spInverse K) := okInverse T
  have GColumns : FnOk P w K mg base CX0 1 T.xColumns.f T.xColumns.fd ["m", "n"] (spColumns K) := okColumns T
  have GCanonicalForm : FnOk P w K mg base CX0 5 T.xCanonicalForm.f T.xCanonicalForm.fd ["form"] (spCanonicalForm K) := okCanonicalForm T
  have GUnited : FnOk P w K mg base CX0 4 T.xUnited.f T.xUnited.fd ["form", "other"] (spUnited K) := okUnited T
  refine fn_dataA T.xCompose.F scCompose rfl fun cdv A outer s H E hr => ⟨_, (pss_cons (ps_asg (pe_call GUnited (hr.mono (by decide)) (by rfl) T.xUnited.g T.xUnited.F.kp T.xUnited.b .nil pass0 (pa_cons (pv 0) (pa_cons (pv 1) pa_nil))) (pg_tup rfl (pgs_cons (pg_name (i := 2) scCompose.nd rfl (Or.inl rfl)) (pgs_cons (pg_name (i := 3) scCompose.nd rfl (Or.inl rfl)) (pgs_cons (pg_name (i := 4) scCompose.nd rfl (Or.inr rfl)) (pgs_cons (pg_name (i := 5) scCompose.nd rfl (Or.inl rfl)) pgs_nil)))))) (pss_cons (ps_asg (pv 2) (pg_tup rfl (pgs_cons (pg_name (i := 6) scCompose.nd rfl (Or.inr rfl)) (pgs_cons (pg_name (i := 7) scCompose.nd rfl (Or.inr rfl)) (pgs_cons (pg_name (i := 8) scCompose.nd rfl (Or.inl rfl)) pgs_nil))))) (pss_cons (ps_set (i := 9) scCompose.nd rfl (Or.inr rfl) (pe_op op_fdivZ (pe_ix (r := rIxT K) ix_tup (pv 4) pe_int (fun _ _ => rfl)) (pv 6))) (pss_cons (ps_asg (pe_call GCanonicalForm (hr.mono (by decide)) (by rfl) T.xCanonicalForm.g T.xCanonicalForm.F.kp T.xCanonicalForm.b .nil pass0 (pa_cons (pe_tup (pa_cons (pe_op op_mulW (pv 6) (pe_ix (r := rIxT K) ix_tup (pv 4) pe_int (fun _ _ => rfl))) (pa_cons (pv 7) (pa_cons (pv 9) pa_nil)))) pa_nil)) (pg_tup rfl (pgs_cons (pg_name (i := 10) scCompose.nd rfl (Or.inl rfl)) (pgs_cons (pg_name (i := 11) scCompose.nd rfl (Or.inl rfl)) pgs_nil)))) (pss_cons (ps_set (i := 12) scCompose.nd rfl (Or.inr rfl) (pe_call GColumns (hr.mono (by decide)) (by rfl) T.xColumns.g T.xColumns.F.kp T.xColumns.b .nil pass0 (pa_cons (pe_call GInverse (hr.mono (by decide)) (by rfl) T.xInverse.g T.xInverse.F.kp T.xInverse.b .nil pass0 (pa_cons (pv 3) pa_nil)) (pa_cons (pe_call GInverse (hr.mono (by decide)) (by rfl) T.xInverse.g T.xInverse.F.kp T.xInverse.b .nil pass0 (pa_cons (pv 5) pa_nil)) pa_nil)))) (pss_cons (ps_set (i := 13) scCompose.nd rfl (Or.inr rfl) (pe_lc (own := [("j", 17)]) (g := gName 17) (tt := tYes) (by rfl) scCompose.nd (pi_range1 (by rfl) T.range (pa_cons pe_int pa_nil)) (blkOk_by (by rfl)) (fun _ _ _ _ _ => (pg_name (i := 17) scCompose.nd rfl (Or.inl rfl))) (fun _ _ _ _ _ => pts_nil) (fun _ _ _ _ _ => (pe_op op_sub (pe_ix (r := rIxL K) ix_list (pe_ix (r := rIxL K) ix_list (pv 12) pe_int (fun _ _ => rfl)) (pv 17) (fun _ _ => rfl)) (pe_op op_mulW (pv 9) (pe_ix (r := rIxL K) ix_list (pe_ix (r := rIxL K) ix_list (pv 12) pe_int (fun _ _ => rfl)) (pv 17) (fun _ _ => rfl))))))) (pss_cons (ps_set (i := 14) scCompose.nd rfl (Or.inr rfl) (pe_lc (own := [("j", 17)]) (g := gName 17) (tt := tYes) (by rfl) scCompose.nd (pi_range1 (by rfl) T.range (pa_cons pe_int pa_nil)) (blkOk_by (by rfl)) (fun _ _ _ _ _ => (pg_name (i := 17) scCompose.nd rfl (Or.inl rfl))) (fun _ _ _ _ _ => pts_nil) (fun _ _ _ _ _ => (pe_op op_add (pe_op op_add (pe_op op_mulW (pv 6) (pe_ix (r := rIxL K) ix_list (pe_ix (r := rIxL K) ix_list (pv 12) pe_int (fun _ _ => rfl)) (pv 17) (fun _ _ => rfl))) (pe_op op_mulW (pe_ix (r := rIxT K) ix_tup (pv 4) pe_int (fun _ _ => rfl)) (pe_ix (r := rIxL K) ix_list (pe_ix (r := rIxL K) ix_list (pv 12) pe_int (fun _ _ => rfl)) (pv 17) (fun _ _ => rfl)))) (pe_op op_mulW (pv 7) (pe_ix (r := rIxL K) ix_list (pe_ix (r := rIxL K) ix_list (pv 12) pe_int (fun _ _ => rfl)) (pv 17) (fun _ _ => rfl))))))) (pss_cons (ps_set (i := 15) scCompose.nd rfl (Or.inr rfl) (pe_call GInverse (hr.mono (by decide)) (by rfl) T.xInverse.g T.xInverse.F.kp T.xInverse.b .nil pass0 (pa_cons (pv 11) pa_nil))) (pss_cons (ps_set (i := 16) scCompose.nd rfl (Or.inl rfl) (pe_callTy call_tuple_of (by rfl) T.tuple (by decide +kernel) (pa_cons (pe_lc (own := [("j", 17)]) (g := gName 17) (tt := tYes) (by rfl) scCompose.nd (pi_range1 (by rfl) T.range (pa_cons pe_int pa_nil)) (blkOk_by (by rfl)) (fun _ _ _ _ _ => (pg_name (i := 17) scCompose.nd rfl (Or.inl rfl))) (fun _ _ _ _ _ => pts_nil) (fun _ _ _ _ _ => (pe_op op_add (pe_op op_mulW (pe_ix (r := rIxT K) ix_tup (pv 15) pe_int (fun _ _ => rfl)) (pe_ix (r := rIxL K) ix_list (pv 13) (pv 17) (fun _ _ => rfl))) (pe_op op_mulW (pe_ix (r := rIxT K) ix_tup (pv 15) pe_int (fun _ _ => rfl)) (pe_ix (r := rIxL K) ix_list (pv 14) (pv 17) (fun _ _ => rfl)))))) pa_nil))) (pss_one (ps_ret (pe_tup (pa_cons (pv 10) (pa_cons (pe_tup (pa_cons (pv 16) (pa_cons (pe_callTy call_tuple_of (by rfl) T.tuple (by decide +kernel) (pa_cons (pe_lc (own := [("j", 17)]) (g := gName 17) (tt := tYes) (by rfl) scCompose.nd (pi_range1 (by rfl) T.range (pa_cons pe_int pa_nil)) (blkOk_by (by rfl)) (fun _ _ _ _ _ => (pg_name (i := 17) scCompose.nd rfl (Or.inl rfl))) (fun _ _ _ _ _ => pts_nil) (fun _ _ _ _ _ => (pe_op op_add (pe_op op_mulW (pe_ix (r := rIxT K) ix_tup (pv 15) pe_int (fun _ _ => rfl)) (pe_ix (r := rIxL K) ix_list (pv 13) (pv 17) (fun _ _ => rfl))) (pe_op op_mulW (pe_ix (r := rIxT K) ix_tup (pv 15) pe_int (fun _ _ => rfl)) (pe_ix (r := rIxL K) ix_list (pv 14) (pv 17) (fun _ _ => rfl)))))) pa_nil)) pa_nil))) pa_nil)))))))))))))), fun p hp => ?_⟩
  obtain ⟨f, g⟩ := p
  obtain ⟨bf, bg, gf, gg⟩ := hp
  simp only at bf bg gf gg
  refine ds_u4 (de_callA (f, g) rfl ⟨bf, bg, gf.p, gg.p, by rw [gg.d], gf.nz, gg.nz⟩ (das2 (dv_var rfl) (dv_var rfl)) fun z hz => ?_)
  obtain ⟨m, n, a2, B, C, rfl, e1, e2, fa, a20, b1, b2, bB, bC, bm, bn⟩ := hz
  simp only at e1 e2 fa b1
  refine ⟨_, _, _, _, rfl, ?_⟩
  generalize hA : f.a = A at *
  refine ds_u3 (Dv.to (dv_var rfl) ⟨_, _, _, rfl, ?_⟩)
  have ec : (A * C).fdiv A = C := by rw [Int.mul_comm, Int.mul_fdiv_cancel _ fa]
  refine ds_env (env' := [some (fmD f), some (fmD g), some (fmD ⟨A, B, a2 * C⟩), some (mxD m), some (fmD ⟨a2, B, A * C⟩), some (mxD n), some (.int A), some (.int B), some (.int (a2 * C)), none, none, none, none, none, none, none, none, none]) rfl ?_
  refine ds_set' (d := .int C) (dv_cast ec (dv_div (dv_ix2 (dv_var rfl)) (dv_var rfl) (cd_of fa b1 (by decide)))) ?_
  have cX : Comp f g ⟨A * a2, B, C⟩ := comp_move (comp_united A a2 B C) e1.symm e2.symm
  have gX := comp_good gf gg cX
  refine ds_u2 (de_callA (⟨A * a2, B, C⟩ : Fm) rfl ⟨⟨(Bd.mul b1 b2).mono (by decide), bB.mono (by decide), bC.mono (by decide)⟩, gX.f⟩ (das1 (dv_t3 (dv_mul (dv_var rfl) (dv_ix0 (dv_var rfl)) (cm_of b1 b2 (by decide))) (dv_var rfl) (dv_var rfl))) fun z hz => ?_)
  obtain ⟨R, st, rfl, cR, bst⟩ := hz
  refine ⟨_, _, rfl, ?_⟩
  refine ds_setE (de_callA (inv' m, inv' n) rfl ⟨(inv_bd bm).mono (by decide), (inv_bd bn).mono (by decide)⟩ (das2 (dv_callA m rfl (bm.mono (by decide)) (das1 (dv_var rfl)) fun z h => h) (dv_callA n rfl (bn.mono (by decide)) (das1 (dv_var rfl)) fun z h => h)) fun z hz => ?_)
  obtain ⟨ds, rfl, dl, dk⟩ := hz
  have row : ∀ k, k < 4 → ∃ ns : List Int, ds[k]? = some (.list (ns.map .int)) ∧ ns.length = 4 ∧ ∀ t ∈ ns, Bd 2000 t := fun k hk => by
    have h := List.getElem?_eq_getElem (l := ds) (i := k) (by omega)
    obtain ⟨ns, e, l, b⟩ := dk k _ h
    exact ⟨ns, by rw [h, e], l, b⟩
  obtain ⟨n0, r0, l0, q0⟩ := row 0 (by decide)
  obtain ⟨n1, r1, l1, q1⟩ := row 1 (by decide)
  obtain ⟨n2, r2, l2, q2⟩ := row 2 (by decide)
  obtain ⟨n3, r3, l3, q3⟩ := row 3 (by decide)
  refine ds_env (env' := [some (fmD f), some (fmD g), some (fmD ⟨A, B, a2 * C⟩), some (mxD m), some (fmD ⟨a2, B, A * C⟩), some (mxD n), some (.int A), some (.int B), some (.int (a2 * C)), some (.int C), some (fmD R), some (mxD st), some (.list ds), none, none, none, none, none]) rfl ?_
  refine ds_setE (DN.de (DN.imp (dn_row (B := 2400) dv_int fun k hk => ?_) fun z hz => ?_))
  · obtain ⟨t0, s0, u0⟩ := il_at l0 q0 hk
    obtain ⟨t3, s3, u3⟩ := il_at l3 q3 hk
    exact ⟨_, dv_sub (dv_ixL (n := k) (dv_ixL (n := 0) (dv_var rfl) dv_int rfl r0) (dv_var rfl) (by omega) s0) (dv_mul (dv_var rfl) (dv_ixL (n := k) (dv_ixL (n := 3) (dv_var rfl) dv_int rfl r3) (dv_var rfl) (by omega) s3) (cm_of bC u3 (by decide))),
      (Bd.sub u0 (Bd.mul bC u3)).mono (by decide)⟩
  obtain ⟨xs, rfl, lx, qx⟩ := hz
  refine ds_setE (DN.de (DN.imp (dn_row (B := 2400) dv_int fun k hk => ?_) fun z hz => ?_))
  · obtain ⟨t1, s1, u1⟩ := il_at l1 q1 hk
    obtain ⟨t2, s2, u2⟩ := il_at l2 q2 hk
    obtain ⟨t3, s3, u3⟩ := il_at l3 q3 hk
    exact ⟨_, dv_add (dv_add (dv_mul (dv_var rfl) (dv_ixL (n := k) (dv_ixL (n := 1) (dv_var rfl) dv_int rfl r1) (dv_var rfl) (by omega) s1) (cm_of b1 u1 (by decide))) (dv_mul (dv_ix0 (dv_var rfl)) (dv_ixL (n := k) (dv_ixL (n := 2) (dv_var rfl) dv_int rfl r2) (dv_var rfl) (by omega) s2) (cm_of b2 u2 (by decide))))
      (dv_mul (dv_var rfl) (dv_ixL (n := k) (dv_ixL (n := 3) (dv_var rfl) dv_int rfl r3) (dv_var rfl) (by omega) s3) (cm_of bB u3 (by decide))), (Bd.add (Bd.add (Bd.mul b1 u1) (Bd.mul b2 u2)) (Bd.mul bB u3)).mono (by decide)⟩
  obtain ⟨ys, rfl, ly, qy⟩ := hz
  refine ds_set' (dv_callA st rfl (bst.mono (by decide)) (das1 (dv_var rfl)) fun z h => h) ?_
  have bi : BdM 220000 (inv' st) := (inv_bd bst).mono (by decide)
  generalize inv' st = iv at *
  refine ds_env (env' := [some (fmD f), some (fmD g), some (fmD ⟨A, B, a2 * C⟩), some (mxD m), some (fmD ⟨a2, B, A * C⟩), some (mxD n), some (.int A), some (.int B), some (.int (a2 * C)), some (.int C), some (fmD R), some (mxD st), some (.list ds), some (.list (xs.map .int)), some (.list (ys.map .int)), some (mxD iv), none, none]) rfl ?_
  obtain ⟨i1, i2, i3, i4⟩ := bi
  refine ds_setE (de_tupleL (DE.imp (DN.de (dn_row (B := 230000) dv_int fun k hk => ?_)) fun z hz => ?_))
  · have ek : (0 : Int) + (k : Int) = (k : Int) := Int.zero_add _
    obtain ⟨t1, s1, u1⟩ := il_at lx qx hk
    obtain ⟨t2, s2, u2⟩ := il_at ly qy hk
    exact ⟨_, dv_add (dv_mul (dv_ix0 (dv_var rfl)) (dv_ixL (n := k) (dv_var rfl) (dv_var rfl) ek s1) (cm_of i1 u1 (by decide))) (dv_mul (dv_ix1 (dv_var rfl)) (dv_ixL (n := k) (dv_var rfl) (dv_var rfl) ek s2) (cm_of i2 u2 (by decide))),
      (Bd.add (Bd.mul i1 u1) (Bd.mul i2 u2)).mono (by decide)⟩
  obtain ⟨vs, rfl, lv, qv⟩ := hz
  refine ⟨_, rfl, ?_⟩
  refine ds_ret (de_tup (da_v (dv_var rfl) (da_cons (de_tup (da_v (dv_var rfl) (da_cons (de_tupleL (DE.imp (DN.de (dn_row (B := 230000) dv_int fun k hk => ?_)) fun z hz => ?_)))))))) 
  · have ek : (0 : Int) + (k : Int) = (k : Int) := Int.zero_add _
    obtain ⟨t1, s1, u1⟩ := il_at lx qx hk
    obtain ⟨t2, s2, u2⟩ := il_at ly qy hk
    exact ⟨_, dv_add (dv_mul (dv_ix2 (dv_var rfl)) (dv_ixL (n := k) (dv_var rfl) (dv_var rfl) ek s1) (cm_of i3 u1 (by decide))) (dv_mul (dv_ix3 (dv_var rfl)) (dv_ixL (n := k) (dv_var rfl) (dv_var rfl) ek s2) (cm_of i4 u2 (by decide))),
      (Bd.add (Bd.mul i3 u1) (Bd.mul i4 u2)).mono (by decide)⟩
  obtain ⟨us, rfl, lu, qu⟩ := hz
  refine ⟨_, rfl, da_nil ⟨by show 2 ≤ 1000; decide, da_nil ⟨by show 2 ≤ 1000; decide, R, _, rfl, ?_, _, cX, cR⟩⟩⟩
  show noLs [.tuple (vs.map .int), .tuple (us.map .int)] = true
  simp [noLs, noL, noLs_ints]
end
end K19
/-! K19W12 -/
set_option Elab.async false
set_option linter.all false
set_option maxRecDepth 100000
set_option maxHeartbeats 4000000
namespace K19
open PySem PySem.Spec PyProof.Rows L2
open Evl (Ex)
local macro_rules | `(tactic| walk_at "bd") => `(tactic| first | assumption | exact Bd.lit (n := 4) rfl | exact Bd.lit (n := 32) rfl | (apply Bd.mul <;> walk_at "bd") | (apply Bd.add <;> walk_at "bd") | (apply Bd.sub <;> walk_at "bd") | (apply Bd.neg; walk_at "bd") | (apply Bd.fdiv; walk_at "bd"))
local macro_rules | `(tactic| walk_at "cm") => `(tactic| (apply cm_of; walk_at "bd"; walk_at "bd"; first | decide | omega))
local macro_rules | `(tactic| walk_at "dv") => `(tactic| first | exact dv_var rfl | exact dv_int | exact dv_str | exact dv_bl | assumption | (apply dv_ix0; walk_at "dv") | (apply dv_ix1; walk_at "dv") | (apply dv_ix2; walk_at "dv") | (apply dv_ix3; walk_at "dv") | (apply dv_add <;> walk_at "dv") | (apply dv_sub <;> walk_at "dv") | (apply dv_mul; walk_at "dv"; walk_at "dv"; walk_at "cm") | (apply dv_neg; walk_at "dv") | (apply dv_lt <;> walk_at "dv") | (apply dv_le <;> walk_at "dv") | (apply dv_gt <;> walk_at "dv") | (apply dv_ge <;> walk_at "dv") | (apply dv_eqI <;> walk_at "dv") | (apply dv_neI <;> walk_at "dv") | (apply dv_t2 <;> walk_at "dv") | (apply dv_t3 <;> walk_at "dv") | (apply dv_t4 <;> walk_at "dv") | (apply dv_abs; walk_at "dv") | (apply dv_intI; walk_at "dv"))
local macro_rules | `(tactic| walk_at "p2") => `(tactic| (apply ds_p2; walk_at "dv"; walk_at "dv"))
local macro_rules | `(tactic| walk_at "p2e") => `(tactic| (apply ds_p2e; walk_at "dv"; walk_at "dv"))
local macro_rules | `(tactic| walk_at "p3") => `(tactic| (apply ds_p3; walk_at "dv"; walk_at "dv"; walk_at "dv"))
local macro_rules | `(tactic| walk_at "set") => `(tactic| (apply ds_set'; walk_at "dv"))
local macro_rules | `(tactic| walk_at "sete") => `(tactic| (apply ds_sete; walk_at "dv"))
local macro_rules | `(tactic| walk_at "ret") => `(tactic| (apply ds_ret'; walk_at "dv"))
section
variable {P : Program} {w : World} {K : PySem.W.Frag} {mg : Str → Option Value} {base : Heap}

theorem fm_int {f g : Fm} {x y : Int} (h : ([fmD f, .int x] : List PyData) = [fmD g, .int y]) : f = g ∧ x = y := by
  injection h with h1 h2
  injection h2 with h2 _
  injection h1 with h1
  injection h1 with a1 h1
  injection h1 with a2 h1
  injection h1 with a3 _
  injection a1 with a1
  injection a2 with a2
  injection a3 with a3
  injection h2 with h2
  exact ⟨Fm.ext' a1 a2 a3, h2⟩
theorem can_small {D : Int} {f R : Fm} (h : Good D f) (c : Can f R) : BdF 10 R := by
  have e := (can_eqv c).disc
  rcases c with ⟨a, b, c⟩ | ⟨a, b⟩
  · refine red_small b ?_
    rcases h.f with ⟨_, _, k⟩ | ⟨_, k, _⟩ <;> omega
  · exact b.eqv.2.small
theorem cp_small {D : Int} {f g R : Fm} (hf : Good D f) (hg : Good D g) (c : CP f g R) : BdF 10 R := by
  obtain ⟨X, h, k⟩ := c
  exact can_small (comp_good hf hg h) k
theorem pw_small {D : Int} (h : DOk D) {g : Fm} (hg : Good D g) {k : Nat} {R : Fm} (p : Pw D g k R) : BdF 10 R := by
  obtain ⟨a, b⟩ := pw_good h hg k p
  exact can_small a b
abbrev PreP (p : Fm × Int) : Prop := BdF 20 p.1 ∧ Good (disc p.1) p.1 ∧ DOk (disc p.1) ∧ -1000 ≤ p.2 ∧ p.2 ≤ 1000
abbrev spClassPower0 (K : PySem.W.Frag) : Sp := spA K 2 (fun p : Fm × Int => [fmD p.1, .int p.2]) (fun p => PreP p ∧ 0 ≤ p.2) fun p z => ∃ R, z = fmD R ∧ Pw (disc p.1) p.1 p.2.toNat R
abbrev spClassPower (K : PySem.W.Frag) : Sp := spA K 2 (fun p : Fm × Int => [fmD p.1, .int p.2]) PreP fun p z => ∃ R, z = fmD R ∧ (0 ≤ p.2 → Pw (disc p.1) p.1 p.2.toNat R) ∧ (p.2 < 0 → ∃ O, Can (oppF p.1) O ∧ Pw (disc p.1) O (-p.2).toNat R)
theorem okClassPower0 (T : Tx K mg) : FnOk P w K mg base CX0 7 T.xClassPower.f T.xClassPower.fd ["form", "many"] (spClassPower0 K) := by
  have GCompose : FnOk P w K mg base CX0 6 T.xCompose.f T.xCompose.fd ["form", "other"] (spCompose K) := okCompose T
  have GPrincipal : FnOk P w K mg base CX0 6 T.xPrincipal.f T.xPrincipal.fd ["d"] (spPrincipal K) := okPrincipal T
  have GDiscriminant : FnOk P w K mg base CX0 1 T.xDiscriminant.f T.xDiscriminant.fd ["form"] (spDiscriminant K) := okDiscriminant T
  have GOpposite : FnOk P w K mg base CX0 6 T.xOpposite.f T.xOpposite.fd ["form"] (spOpposite K) := okOpposite T
  refine fn_dataA T.xClassPower.F scClassPower rfl fun cdv A outer s H E hr => ⟨_, (pss_cons (ps_if (pt_cmpR op_lt (pv 1) pe_int (nomark _)) (pss_one ps_never) pss_nil) (pss_cons (ps_set (i := 2) scClassPower.nd rfl (Or.inl rfl) (pe_call GPrincipal (hr.mono (by decide)) (by rfl) T.xPrincipal.g T.xPrincipal.F.kp T.xPrincipal.b .nil pass0 (pa_cons (pe_call GDiscriminant (hr.mono (by decide)) (by rfl) T.xDiscriminant.g T.xDiscriminant.F.kp T.xDiscriminant.b .nil pass0 (pa_cons (pv 0) pa_nil)) pa_nil))) (pss_cons (ps_for PassesOwn.never rfl (pi_range1 (by rfl) T.range (pa_cons (pv 1) pa_nil)) (pg_name (i := 3) scClassPower.nd rfl (Or.inl rfl)) (pss_one (ps_set (i := 2) scClassPower.nd rfl (Or.inl rfl) (pe_ix (r := rIxT K) ix_tup (pe_call GCompose (hr.mono (by decide)) (by rfl) T.xCompose.g T.xCompose.F.kp T.xCompose.b .nil pass0 (pa_cons (pv 2) (pa_cons (pv 0) pa_nil))) pe_int (fun _ _ => rfl))))) (pss_one (ps_ret (pv 2)))))), fun p hp => ?_⟩
  obtain ⟨f, n⟩ := p
  obtain ⟨⟨bf, gf, dok, n1, n2⟩, n0⟩ := hp
  simp only at bf gf dok n1 n2 n0
  refine ds_if1 (dt_test (dv_lt (dv_var rfl) dv_int)) (fun h => absurd (of_decide_eq_true h) (by omega)) fun _ => ?_
  refine ds_setE (de_callA (disc f) rfl dok (das1 (dv_callA f rfl (bf.mono (by decide)) (das1 (dv_var rfl)) fun z h => h)) fun z hz => ?_)
  obtain ⟨R, rfl, cR⟩ := hz
  refine ds_seq (ds_rng1 (hi := n) (fun k e => ∃ S x3, e = [some (fmD f), some (.int n), some (fmD S), x3] ∧ Pw (disc f) f k S) (dv_var rfl) (by omega) ⟨R, none, rfl, cR⟩ ?_ ?_)
  · rintro k e hk ⟨S, x3, rfl, pS⟩
    obtain ⟨gS, _⟩ := pw_good dok gf k pS
    have dS : disc S = disc f := gS.d
    refine ds_set (de_ix0 (de_callA (S, f) rfl ⟨(pw_small dok gf pS).mono (by decide), bf, by rw [dS]; exact gS, by rw [dS]; exact gf⟩ (das2 (dv_var rfl) (dv_var rfl)) fun z hz => ?_))
    obtain ⟨R', w', rfl, _, c⟩ := hz
    exact ⟨_, _, rfl, R', _, rfl, S, pS, c⟩
  · rintro e ⟨S, x3, rfl, pS⟩
    exact ds_then (ds_ret' (dv_var rfl) ⟨S, rfl, pS⟩)
theorem okClassPower (T : Tx K mg) : FnOk P w K mg base CX0 8 T.xClassPower.f T.xClassPower.fd ["form", "many"] (spClassPower K) := by
  have GCompose : FnOk P w K mg base CX0 6 T.xCompose.f T.xCompose.fd ["form", "other"] (spCompose K) := okCompose T
  have GPrincipal : FnOk P w K mg base CX0 6 T.xPrincipal.f T.xPrincipal.fd ["d"] (spPrincipal K) := okPrincipal T
  have GDiscriminant : FnOk P w K mg base CX0 1 T.xDiscriminant.f T.xDiscriminant.fd ["form"] (spDiscriminant K) := okDiscriminant T
  have GClassPower : FnOk P w K mg base CX0 7 T.xClassPower.f T.xClassPower.fd ["form", "many"] (spClassPower0 K) := okClassPower0 T
  have GOpposite : FnOk P w K mg base CX0 6 T.xOpposite.f T.xOpposite.fd ["form"] (spOpposite K) := okOpposite T
  refine fn_dataA T.xClassPower.F scClassPower rfl fun cdv A outer s H E hr => ⟨_, (pss_cons (ps_if (pt_cmpR op_lt (pv 1) pe_int (nomark _)) (pss_one (ps_ret (pe_call GClassPower (hr.mono (by decide)) (by rfl) T.xClassPower.g T.xClassPower.F.kp T.xClassPower.b .nil pass0 (pa_cons (pe_call GOpposite (hr.mono (by decide)) (by rfl) T.xOpposite.g T.xOpposite.F.kp T.xOpposite.b .nil pass0 (pa_cons (pv 0) pa_nil)) (pa_cons (pe_un un_neg (pv 1)) pa_nil))))) pss_nil) (pss_cons (ps_set (i := 2) scClassPower.nd rfl (Or.inl rfl) (pe_call GPrincipal (hr.mono (by decide)) (by rfl) T.xPrincipal.g T.xPrincipal.F.kp T.xPrincipal.b .nil pass0 (pa_cons (pe_call GDiscriminant (hr.mono (by decide)) (by rfl) T.xDiscriminant.g T.xDiscriminant.F.kp T.xDiscriminant.b .nil pass0 (pa_cons (pv 0) pa_nil)) pa_nil))) (pss_cons (ps_for PassesOwn.never rfl (pi_range1 (by rfl) T.range (pa_cons (pv 1) pa_nil)) (pg_name (i := 3) scClassPower.nd rfl (Or.inl rfl)) (pss_one (ps_set (i := 2) scClassPower.nd rfl (Or.inl rfl) (pe_ix (r := rIxT K) ix_tup (pe_call GCompose (hr.mono (by decide)) (by rfl) T.xCompose.g T.xCompose.F.kp T.xCompose.b .nil pass0 (pa_cons (pv 2) (pa_cons (pv 0) pa_nil))) pe_int (fun _ _ => rfl))))) (pss_one (ps_ret (pv 2)))))), fun p hp => ?_⟩
  obtain ⟨f, n⟩ := p
  obtain ⟨bf, gf, dok, n1, n2⟩ := hp
  simp only at bf gf dok n1 n2
  refine ds_if1 (dt_test (dv_lt (dv_var rfl) dv_int)) (fun h => ?_) fun h => ?_
  · have h := of_decide_eq_true h
    refine ds_ret (de_callE (α := Fm × Int) (fun ds => ∃ O, ds = [fmD O, .int (-n)] ∧ Can (oppF f) O) (da_cons (de_callA f rfl ⟨bf.mono (by decide), gf.f⟩ (das1 (dv_var rfl)) fun z ⟨O, e, c⟩ => da_v (dv_neg (dv_var rfl)) (da_nil ⟨O, by rw [e], c⟩))) (fun ds ⟨O, e, c⟩ => ?_) ?_)
    · have gO := (opp_good gf).eqv (can_eqv c)
      have dO : disc O = disc f := gO.d
      exact ⟨(O, -n), e, rfl, ⟨(can_small (opp_good gf) c).mono (by decide), by rw [dO]; exact gO, by rw [dO]; exact dok, by show -1000 ≤ -n; omega, by show -n ≤ 1000; omega⟩, by show 0 ≤ -n; omega⟩
    · rintro ds ⟨O, rfl, c⟩ ⟨O', n'⟩ z he ⟨R, rfl, pR⟩
      have gO := (opp_good gf).eqv (can_eqv c)
      have dO : disc O = disc f := gO.d
      have he : ([fmD O, .int (-n)] : List PyData) = [fmD O', .int n'] := he
      obtain ⟨e1, e2⟩ := fm_int he
      subst e1 e2
      simp only at pR
      rw [dO] at pR
      exact ⟨R, rfl, fun k => by have k : 0 ≤ n := k; omega, fun _ => ⟨O, c, pR⟩⟩
  · have h := of_decide_eq_false h
    refine ds_setE (de_callA (disc f) rfl dok (das1 (dv_callA f rfl (bf.mono (by decide)) (das1 (dv_var rfl)) fun z h => h)) fun z hz => ?_)
    obtain ⟨R, rfl, cR⟩ := hz
    refine ds_seq (ds_rng1 (hi := n) (fun k e => ∃ S x3, e = [some (fmD f), some (.int n), some (fmD S), x3] ∧ Pw (disc f) f k S) (dv_var rfl) (by omega) ⟨R, none, rfl, cR⟩ ?_ ?_)
    · rintro k e hk ⟨S, x3, rfl, pS⟩
      obtain ⟨gS, _⟩ := pw_good dok gf k pS
      have dS : disc S = disc f := gS.d
      refine ds_set (de_ix0 (de_callA (S, f) rfl ⟨(pw_small dok gf pS).mono (by decide), bf, by rw [dS]; exact gS, by rw [dS]; exact gf⟩ (das2 (dv_var rfl) (dv_var rfl)) fun z hz => ?_))
      obtain ⟨R', w', rfl, _, c⟩ := hz
      exact ⟨_, _, rfl, R', _, rfl, S, pS, c⟩
    · rintro e ⟨S, x3, rfl, pS⟩
      refine ds_then (ds_ret' (dv_var rfl) ⟨S, rfl, fun _ => pS, fun k => ?_⟩)
      have k : n < 0 := k
      omega
abbrev spClassOrder (K : PySem.W.Frag) : Sp := spA K 1 (fun p : Fm × List Fm => [fmD p.1]) (fun p => BdF 20 p.1 ∧ Good (disc p.1) p.1 ∧ DOk (disc p.1) ∧ Menu (disc p.1) p.2)
  fun p z => ∃ E q n, z = .int ((n : Nat) : Int) ∧ Can (pF (disc p.1)) E ∧ 1 ≤ n ∧ Chain (disc p.1) p.1 E q n ∧ q n = E ∧ (∀ i, 1 ≤ i → i < n → q i ≠ E) ∧ n ≤ p.2.length
theorem okClassOrder (T : Tx K mg) : FnOk P w K mg base CX0 7 T.xClassOrder.f T.xClassOrder.fd ["form"] (spClassOrder K) := by
  have GCompose : FnOk P w K mg base CX0 6 T.xCompose.f T.xCompose.fd ["form", "other"] (spCompose K) := okCompose T
  have GPrincipal : FnOk P w K mg base CX0 6 T.xPrincipal.f T.xPrincipal.fd ["d"] (spPrincipal K) := okPrincipal T
  have GDiscriminant : FnOk P w K mg base CX0 1 T.xDiscriminant.f T.xDiscriminant.fd ["form"] (spDiscriminant K) := okDiscriminant T
  refine fn_dataA T.xClassOrder.F scClassOrder rfl fun cdv A outer s H E hr => ⟨_, (pss_cons (ps_set (i := 1) scClassOrder.nd rfl (Or.inl rfl) (pe_call GPrincipal (hr.mono (by decide)) (by rfl) T.xPrincipal.g T.xPrincipal.F.kp T.xPrincipal.b .nil pass0 (pa_cons (pe_call GDiscriminant (hr.mono (by decide)) (by rfl) T.xDiscriminant.g T.xDiscriminant.F.kp T.xDiscriminant.b .nil pass0 (pa_cons (pv 0) pa_nil)) pa_nil))) (pss_cons (ps_set (i := 2) scClassOrder.nd rfl (Or.inl rfl) (pe_ix (r := rIxT K) ix_tup (pe_call GCompose (hr.mono (by decide)) (by rfl) T.xCompose.g T.xCompose.F.kp T.xCompose.b .nil pass0 (pa_cons (pv 0) (pa_cons (pv 1) pa_nil))) pe_int (fun _ _ => rfl))) (pss_cons (ps_set (i := 3) scClassOrder.nd rfl (Or.inl rfl) pe_int) (pss_cons (ps_while PassesOwn.never (pt_cmpR (op_neD hr.units) (pv 2) (pv 1) (nomark _)) (pss_cons (ps_set (i := 2) scClassOrder.nd rfl (Or.inl rfl) (pe_ix (r := rIxT K) ix_tup (pe_call GCompose (hr.mono (by decide)) (by rfl) T.xCompose.g T.xCompose.F.kp T.xCompose.b .nil pass0 (pa_cons (pv 2) (pa_cons (pv 0) pa_nil))) pe_int (fun _ _ => rfl))) (pss_one (ps_set (i := 3) scClassOrder.nd rfl (Or.inl rfl) (pe_op op_add (pv 3) pe_int))))) (pss_one (ps_ret (pv 3))))))), fun p hp => ?_⟩
  obtain ⟨f, L⟩ := p
  obtain ⟨bf, gf, dok, hM⟩ := hp
  simp only at bf gf dok hM
  refine ds_setE (de_callA (disc f) rfl dok (das1 (dv_callA f rfl (bf.mono (by decide)) (das1 (dv_var rfl)) fun z h => h)) fun z hz => ?_)
  obtain ⟨E, rfl, cE⟩ := hz
  have gE := (pF_good dok).eqv (can_eqv cE)
  have bE := can_small (pF_good dok) cE
  refine ds_setE (de_ix0 (de_callA (f, E) rfl ⟨bf, bE.mono (by decide), gf, gE⟩ (das2 (dv_var rfl) (dv_var rfl)) fun z hz => ?_))
  obtain ⟨R, w', rfl, _, c⟩ := hz
  refine ⟨_, _, rfl, ?_⟩
  refine ds_set' dv_int ?_
  refine ds_seq (ds_while (fun e => ∃ (q : Nat → Fm) (n : Nat), e = [some (fmD f), some (fmD E), some (fmD (q n)), some (.int (n : Int))] ∧ 1 ≤ n ∧ Chain (disc f) f E q n ∧ ∀ i, 1 ≤ i → i < n → q i ≠ E) (fun e => (L.length + 1 - slotI 3 e).toNat)
    ⟨fun i => if i = 0 then E else R, 1, rfl, Nat.le_refl _, ⟨rfl, fun i hi => by
      have : i = 0 := by omega
      subst this
      exact cp_comm c⟩, fun i h1 h2 => by omega⟩ ?_)
  rintro e ⟨q, n, rfl, n1, ch, ne⟩
  obtain ⟨gq, cq⟩ := ch.good dok gf cE n (Nat.le_refl _)
  refine ⟨_, dt_test (dv_neF (dv_var rfl) (dv_var rfl)), fun h => ?_, fun h => ?_⟩
  · have hne : q n ≠ E := of_decide_eq_false (not_t h)
    have few := ch.few dok gf cE (fun i h1 h2 => by
      by_cases e : i = n
      · rw [e]; exact hne
      · exact ne i h1 (by omega)) hM
    have dq : disc (q n) = disc f := gq.d
    refine ds_setE (de_ix0 (de_callA (q n, f) rfl ⟨(can_small gq cq).mono (by decide), bf, by rw [dq]; exact gq, by rw [dq]; exact gf⟩ (das2 (dv_var rfl) (dv_var rfl)) fun z hz => ?_))
    obtain ⟨R', w', rfl, _, c'⟩ := hz
    refine ⟨_, _, rfl, ?_⟩
    refine ds_sete (dv_add (dv_var rfl) dv_int) ?_
    obtain ⟨q', k1, k2⟩ : ∃ q' : Nat → Fm, q' (n + 1) = R' ∧ ∀ i, i ≤ n → q' i = q i := ⟨fun i => if i = n + 1 then R' else q i, if_pos rfl, fun i hi => if_neg (by omega)⟩
    refine ⟨⟨q', n + 1, by rw [k1]; rfl, by omega, ⟨?_, fun i hi => ?_⟩, fun i h1 h2 => ?_⟩, ?_⟩
    · rw [k2 0 (by omega)]
      exact ch.z
    · by_cases e : i = n
      · subst e
        rw [k1, k2 i (Nat.le_refl _)]
        exact c'
      · rw [k2 i (by omega), k2 (i + 1) (by omega)]
        exact ch.s i (by omega)
    · rw [k2 i (by omega)]
      by_cases e : i = n
      · rw [e]; exact hne
      · exact ne i h1 (by omega)
    · show ((L.length : Int) + 1 - ((n : Int) + 1)).toNat < ((L.length : Int) + 1 - (n : Int)).toNat
      omega
  · have he : q n = E := of_decide_eq_true (not_f h)
    refine ds_then (ds_ret' (dv_var rfl) ⟨E, q, n, rfl, cE, n1, ch, he, ne, ?_⟩)
    have k := Chain.few (n := n - 1) dok gf cE ⟨ch.z, fun i hi => ch.s i (by omega)⟩ (fun i h1 h2 => ne i h1 (by omega)) hM
    show n ≤ L.length
    omega
end
end K19
/-! K19LayH -/
set_option Elab.async false
set_option linter.all false
set_option maxRecDepth 100000
set_option maxHeartbeats 4000000
namespace K19
open PySem PySem.Spec PyProof.Rows L2
open Evl (Ex)
/-! ### list + list -/
def rCatL (K : PySem.W.Frag) : R2 := fun x y H Q => ∃ l b xs zs, x = .ref l ∧ y = .ref b ∧ SqL K H l xs ∧ SqL K H b zs ∧ xs.length + zs.length ≤ sizeLine ∧ ∀ p, H p = none → Q (.ref p) (upd H p (.lst (xs ++ zs)))
theorem op_catL {X : Cx} : OpR X (binaryOp .Add) (rCatL X.K) := by
  intro pins s σ H x y v u Q I rx ry h
  obtain ⟨l, b, xs, zs, rfl, rfl, hH, hB, hz, q⟩ := h
  cases rx
  cases ry
  obtain ⟨its, r, hl, _⟩ := I.list hH
  obtain ⟨its2, r2, hb, _⟩ := I.list hB
  obtain ⟨⟨cls, dd, data, sl⟩, ho, hc, n, hd⟩ := id hl.isList
  obtain ⟨⟨cls2, dd2, data2, sl2⟩, ho2, hc2, n2, hd2⟩ := id hb.isList
  simp only at hc hd hc2 hd2
  subst hc hd hc2 hd2
  have e : its.toArray ++ its2.toArray = (its ++ its2).toArray := by simp
  have hsz : its.length + its2.length ≤ sizeLine := by rw [← r.length, ← r2.length]; exact hz
  refine concat_meets ⟨_, ho, rfl⟩ ⟨_, ho2, rfl⟩ noFill_list_add seq_list_add PySem.F.slot_list_add PySem.F.entry_list_add (PySem.F.args_list_add_2 _ _) (list_addW l b its.toArray its2.toArray n n2 dd dd2 sl sl2 (by simpa using hsz)) ⟨ho, ho2, ?_⟩
  rw [e]
  exact ⟨.ref _, _, I.lnew (t' := s.toks) (r.append r2) (by rw [List.length_append]; omega), rfl, q _ I.fresh⟩
section
variable {K : PySem.W.Frag} {env : Env'} {ta tb te : TE} {P : PyData → Prop}
theorem dps_cat {H : Hp} : ∀ {xs ys : List V} {ds es : List PyData}, DpAll K H xs ds → DpAll K H ys es → DpAll K H (xs ++ ys) (ds ++ es)
  | _, _, _, _, .nil, h => h
  | _, _, _, _, .cons a t, h => .cons a (dps_cat t h)
theorem de_catL (ha : DE K ta env fun d => ∃ ds, d = .list ds ∧ ds.length ≤ 1000 ∧ DE K tb env fun d' => ∃ es, d' = .list es ∧ es.length ≤ 1000 ∧ P (.list (ds ++ es))) : DE K (tOp (rCatL K) ta tb) env P := fun σ H r Q q =>
  ha σ H r _ fun d v H1 ⟨ds, e1, l1, p1⟩ x1 D1 => p1 σ H1 (r.ex x1) _ fun d' w H2 ⟨es, e2, l2, p2⟩ x2 D2 => by
    subst e1 e2
    cases D1 with
    | lst hs hA =>
      cases D2 with
      | lst hs2 hB =>
        refine ⟨_, _, _, _, rfl, rfl, Evl.ex_l x2 hs, hs2, ?_, fun p hp => q _ _ _ p2 ((x1.trans x2).trans (ex_new hp)) (.lst (SqL.of upd_same) (dps_cat (dps_ex (x2.trans (ex_new hp)) _ _ hA) (dps_ex (ex_new hp) _ _ hB)))⟩
        rw [DpAll.length hA, DpAll.length hB]
        exact Nat.le_trans (show ds.length + es.length ≤ 2000 by omega) (by decide)
/-- len of a list -/
theorem de_len (ha : DE K ta env fun d => ∃ ds, d = .list ds ∧ P (.int ds.length)) : DE K (tCB (fun xs H Q => ∃ p ys, xs = [V.ref p] ∧ (SqL K H p ys ∨ SqT K H p ys) ∧ Q (.int ys.length) H) (tCons ta tNil)) env P := fun σ H r Q q =>
  ha σ H r _ fun d v H1 ⟨ds, e1, p1⟩ x1 D1 => by
    subst e1
    cases D1 with
    | lst hs hA =>
      refine ⟨_, _, rfl, .inl hs, ?_⟩
      rw [DpAll.length hA]
      exact q _ _ H1 p1 x1 (.int _)
end
end K19
/-! K19LayI -/
set_option Elab.async false
set_option linter.all false
set_option maxRecDepth 100000
set_option maxHeartbeats 4000000
namespace K19
open PySem PySem.Spec PyProof.Rows L2
open Evl (Ex)
/-! ### the law's state: a list [numbers, counter] -/
def OS (K : PySem.W.Frag) (B : Hp) (p q : Addr) (j : Nat) (nums : List Int) : Ow K where
  S := Nat
  B := B
  p := p
  j := j
  O := fun (k : Nat) vs H => vs = [V.ref q, V.int (k : Int)] ∧ Dp K H (.ref q) (.list (nums.map .int))
  hO := fun s vs H H' x ⟨e, d⟩ => ⟨e, dp_ex x _ _ d⟩
section
variable {K : PySem.W.Frag} {B : Hp} {p q : Addr} {j : Nat} {nums : List Int} {e : Env'} {k : Nat} {ta tb te : TE}
theorem ge_cnt {P : PyData → Nat → Prop} (h : P (.int (k : Int)) k) : GE (OS K B p q j nums) (tOp (rIxL K) (tVar j) (tC (.int 1))) e k P := fun σ H g Q r => by
  obtain ⟨vs, h0, e1, D⟩ := g.ob
  subst e1
  have h0 : H p = some (.lst [V.ref q, V.int (k : Int)]) := h0
  exact ⟨.ref p, g.jj, p, [V.ref q, V.int (k : Int)], ((1 : Nat) : Int), .int k, rfl, rfl, SqL.of h0, atI_nat rfl, r _ _ k H h g (Evl.Ex.refl _) (.int _)⟩
theorem ge_nums {P : PyData → Nat → Prop} (h : P (.list (nums.map .int)) k) : GE (OS K B p q j nums) (tOp (rIxL K) (tVar j) (tC (.int 0))) e k P := fun σ H g Q r => by
  obtain ⟨vs, h0, e1, D⟩ := g.ob
  subst e1
  have h0 : H p = some (.lst [V.ref q, V.int (k : Int)]) := h0
  exact ⟨.ref p, g.jj, p, [V.ref q, V.int (k : Int)], ((0 : Nat) : Int), .ref q, rfl, rfl, SqL.of h0, atI_nat rfl, r _ _ k H h g (Evl.Ex.refl _) D⟩
/-- state[1] = .. -/
theorem gs_tick {P : GOut Nat → Prop} {k' : Nat} (h : GE (OS K B p q j nums) te e k fun d k1 => d = .int (k' : Int) ∧ P (.nx e k')) : GS (OS K B p q j nums) (tAsg te (gSub (tVar j) (tC (.int 1)) rSetL)) e k P := fun σ H D g n r =>
  h σ H g _ fun d v (k1 : Nat) H1 ⟨e1, hP⟩ g1 x1 D1 => by
    subst e1
    cases D1
    obtain ⟨vs, h0, e1, D2⟩ := g1.ob
    subst e1
    have h0 : H1 p = some (.lst [V.ref q, V.int (k1 : Int)]) := h0
    refine ⟨.ref p, g1.jj, p, _, ((1 : Nat) : Int), 1, rfl, rfl, h0, rfl, ?_⟩
    have er : rm (OS K B p q j nums).p (upd H1 p (.lst ([V.ref q, V.int (k1 : Int)].set 1 (.int (k' : Int))))) = rm p H1 := rm_upd
    exact n e k' σ _ hP ⟨⟨by rw [er]; exact g1.b, _, upd_same, rfl, by rw [er]; exact D2⟩, by rw [er]; exact g1.r, g1.jj⟩ (by rw [er]; exact x1)
end
section
variable {K : PySem.W.Frag} {o : Ow K} {e : Env'} {s : o.S} {ta tb te : TE} {P : PyData → o.S → Prop}
theorem ge_len (ha : GE o ta e s fun d s1 => ∃ ds, d = .list ds ∧ P (.int ds.length) s1) : GE o (tCB (fun xs H Q => ∃ p ys, xs = [V.ref p] ∧ (SqL K H p ys ∨ SqT K H p ys) ∧ Q (.int ys.length) H) (tCons ta tNil)) e s P := fun σ H g Q q =>
  ha σ H g _ fun d v s1 H1 ⟨ds, e1, p1⟩ g1 x1 D1 => by
    subst e1
    cases D1 with
    | lst hs hA =>
      refine ⟨_, _, rfl, .inl (Evl.ex_l rm_le hs), ?_⟩
      rw [DpAll.length hA]
      exact q _ _ s1 H1 p1 g1 x1 (.int _)
theorem ge_intI (ha : GE o ta e s fun d s1 => ∃ i, d = .int i ∧ P (.int i) s1) : GE o (tCB (fun xs H Q => (∃ i, xs = [V.int i] ∧ Q (.int i) H) ∨ ∃ k, xs = [V.bl k] ∧ Q (.int (if k then 1 else 0)) H) (tCons ta tNil)) e s P := fun σ H g Q q =>
  ha σ H g _ fun d v s1 H1 ⟨i, e1, p1⟩ g1 x1 D1 => by
    subst e1
    cases D1
    exact .inl ⟨i, rfl, q _ _ s1 H1 p1 g1 x1 (.int _)⟩
theorem ge_intB (ha : GE o ta e s fun d s1 => ∃ b, d = .bool b ∧ P (.int (if b then 1 else 0)) s1) : GE o (tCB (fun xs H Q => (∃ i, xs = [V.int i] ∧ Q (.int i) H) ∨ ∃ k, xs = [V.bl k] ∧ Q (.int (if k then 1 else 0)) H) (tCons ta tNil)) e s P := fun σ H g Q q =>
  ha σ H g _ fun d v s1 H1 ⟨b, e1, p1⟩ g1 x1 D1 => by
    subst e1
    cases D1
    exact .inr ⟨b, rfl, q _ _ s1 H1 p1 g1 x1 (.int _)⟩
theorem gs_rng1G {tb : TE} {i : Nat} {t : TS} {P : GOut o.S → Prop} (ne : i ≠ o.j) (hb : GE o tb e s fun d s1 => ∃ hi : Int, d = .int hi ∧ (-1000000 ≤ hi ∧ hi ≤ 1000000) ∧ ∃ W : Nat → Env' → o.S → Prop, W 0 e s1 ∧
    (∀ (k : Nat) e s, k < hi.toNat → W k e s → GS o t (e.set i (some (.int (0 + (k : Int))))) s fun r => match r with | .nx e' s' => W (k + 1) e' s' | .rt d s' => P (.rt d s')) ∧ ∀ e s, W hi.toNat e s → P (.nx e s)) : GS o (tFor (iRng1 (tCons tb tNil)) (gName i) t) e s P := fun σ H D g k1 k2 =>
  hb σ H g _ fun d v s1 H1 ⟨hi, e1, b2, W, w0, hs, hd⟩ g1 x1 D1 => by
    subst e1
    cases D1
    refine ⟨hi, rfl, by omega, by omega, for_range (fun k σ' H' => ∃ e s, W k e s ∧ Ex (rm o.p H) (rm o.p H') ∧ GC o e s σ' H') ⟨e, s1, w0, x1, g1⟩ ?_ ?_⟩
    · rintro k σ2 H2 hk ⟨e, s, w, x2, g2⟩
      exact hs k e s hk w _ H2 _ (g2.set ne (.int _)) (fun e' s' σ' H' p g' x => ⟨e', s', p, x2.trans x, g'⟩) fun d v s' H' p g' x D' => k2 d v s' H' p g' (x2.trans x) D'
    · rintro σ2 H2 ⟨e, s, w, x2, g2⟩
      exact k1 e s σ2 H2 (hd e s w) g2 x2
end
/-- a promise of a def of the state and an int -/
def Small (ns : List Int) : Prop := ∀ m ∈ ns, (0 : Int) ≤ m ∧ m < 1000
def spS (K : PySem.W.Frag) (pre : Nat → Int → Prop) (post : Nat → Int → Nat → PyData → Prop) : Sp := fun vs H Q _ =>
  ∃ p q nums k many, vs = [V.ref p, V.int many] ∧ nums.length = 120 ∧ Small nums ∧ Fin' (OS K (rm p H) p q 0 nums) k H ∧ pre k many ∧ ∀ k' d v H', post k many k' d → Fin' (OS K (rm p H) p q 0 nums) k' H' → Dp K (rm p H') v d → Q v H'
theorem ge_callS {K : PySem.W.Frag} {B : Hp} {p q : Addr} {j : Nat} {nums : List Int} {e : Env'} {k : Nat} {te : TE} {pre : Nat → Int → Prop} {post : Nat → Int → Nat → PyData → Prop} {E : XK} {P : PyData → Nat → Prop} (hl : nums.length = 120) (sm : Small nums)
    (h : GE (OS K B p q j nums) te e k fun d k1 => ∃ many, d = .int many ∧ pre k1 many ∧ ∀ k' d', post k1 many k' d' → P d' k') : GE (OS K B p q j nums) (tCall (spS K pre post) [] E (tCons (tVar j) (tCons te tNil))) e k P := fun σ H g Q r =>
  ⟨.ref p, g.jj, h σ H g _ fun d v k1 H1 ⟨many, e1, hp, kk⟩ g1 x1 D1 => by
    subst e1
    cases D1
    refine ⟨p, q, nums, k1, many, rfl, hl, sm, ⟨Evl.Ex.refl _, g1.ob⟩, hp, fun k' d' v' H' po f D' => ?_⟩
    have fb : Ex (rm p H1) (rm p H') := f.b
    exact r d' v' k' H' (kk k' d' po) ⟨⟨g1.b.trans fb, f.ob⟩, g1.r.ex fb, g1.jj⟩ (x1.trans fb) D'⟩
theorem fn_state {P : Program} {w : World} {K : PySem.W.Frag} {mg : Str → Option Value} {base : Heap} {x q : Str} {pa : Arguments} {bd : List Stmt} {sc : Scope} {f : Addr} {fd : FuncData} {N ps : List Str} {l : Nat} {pre : Nat → Int → Prop} {post : Nat → Int → Nat → PyData → Prop}
    (F : FunD K x q pa bd sc [] [] f fd) (S : FnScope N ps sc) (hn : 2 = ps.length)
    (hb : ∀ (cdv : Value) (A : Around) (outer : List Env) (s : Shared) (H : Hp) (E : XK), Room l (A.deeper (envOfC q sc s.heap.objs.size f cdv)) → ∃ t, PSs (cxOf CX0 P w K mg base N q sc f cdv A outer s H E).nox bd t ∧
      ∀ B p q nums (k : Nat) many, nums.length = 120 → Small nums → pre k many → GS (OS K B p q 0 nums) t (none :: some (.int many) :: List.replicate (N.length - 2) none) k fun r => match r with | .rt d k' => post k many k' d ∧ noL d = true | .nx _ _ => False) : FnOk P w K mg base CX0 (l + 1) f fd ps (spS K pre post) :=
  F.ok S (fun vs H Q E h => by
    obtain ⟨p, q, nums, k, many, rfl, _⟩ := h
    exact hn) fun cdv A outer s H vs Q E hr h => by
    obtain ⟨t, h1, h2⟩ := hb cdv A outer s H E hr
    refine ⟨t, PSs.nox h1, ?_⟩
    obtain ⟨p, q', nums, k, many, rfl, hl, sm, f, hp, q⟩ := h
    refine h2 (rm p H) p q' nums k many hl sm hp _ H _ ⟨f, ?_, rfl⟩ (fun _ _ _ _ z => z.elim) fun d v k' H' po f' x D => q k' d v H' po.1 f' (GC.clean f' po.2 D)
    exact .no (.yes (.int many) (RS.none _))
theorem rs_drop {K : PySem.W.Frag} {H : Hp} : ∀ {σ : L2.St} {e : Env'} (j : Nat) (v : Option V), RS K H σ e → RS K H (σ.set j v) (e.set j none)
  | _, _, _, _, .nil => .nil
  | _, _, 0, _, .no r => .no r
  | _, _, j + 1, v, .no r => .no (rs_drop j v r)
  | _, _, 0, _, .yes _ r => .no r
  | _, _, j + 1, v, .yes h r => .yes h (rs_drop j v r)
/-- the state's making -/
def spState (K : PySem.W.Frag) : Sp := fun vs H Q _ => ∃ ns : List Int, DpAll K H vs [.list (ns.map .int)] ∧ ∀ p q nums H', nums.length = 120 → Small nums → H p = none → Fin' (OS K H p q 0 nums) (0 : Nat) H' → Q (.ref p) H'
theorem ds_state {K : PySem.W.Frag} {e : Env'} {te : TE} {u : TS} {j : Nat} {ns : List Int} {E : XK} {P : Out → Prop} (hj : j < e.length) (h : Dv K te e (.list (ns.map .int)))
    (k : ∀ B p q nums, nums.length = 120 → Small nums → GS (OS K B p q j nums) u (e.set j none) (0 : Nat) fun r => match r with | .rt d _ => P (.rt d) | .nx _ _ => False) : DS K (tSeq (tAsg (tCall (spState K) [] E (tCons te tNil)) (gName j)) u) e P := fun σ H D r n q =>
  h σ H r _ fun d v H1 e1 x1 D1 => by
    subst e1
    refine ⟨ns, .cons D1 .nil, fun p a nums H' hl hs hp f => ?_⟩
    have hσ : σ.length = e.length := by
      clear h n q k D1 x1 hj f
      induction r with
      | nil => rfl
      | no _ ih => simp [ih]
      | yes _ _ ih => simp [ih]
    have fb : Ex H1 (rm p H') := f.b
    refine k H1 p a nums hl hs _ _ D ⟨⟨f.b, f.ob⟩, rs_drop j _ (r.ex (x1.trans fb)), List.getElem?_set_self (by rw [hσ]; exact hj)⟩ (fun _ _ _ _ z => z.elim) fun d v s' H2 pf f2 x D' => ?_
    have x2 : Ex H1 (rm p H2) := f2.b
    exact q d v H2 pf (x1.trans (x2.trans rm_le)) D'
end K19
/-! K19W13 -/
set_option Elab.async false
set_option linter.all false
set_option maxRecDepth 100000
set_option maxHeartbeats 4000000
namespace K19
open PySem PySem.Spec PyProof.Rows L2
open Evl (Ex)
local macro_rules | `(tactic| walk_at "bd") => `(tactic| first | assumption | exact Bd.lit (n := 4) rfl | exact Bd.lit (n := 32) rfl | (apply Bd.mul <;> walk_at "bd") | (apply Bd.add <;> walk_at "bd") | (apply Bd.sub <;> walk_at "bd") | (apply Bd.neg; walk_at "bd") | (apply Bd.fdiv; walk_at "bd"))
local macro_rules | `(tactic| walk_at "cm") => `(tactic| (apply cm_of; walk_at "bd"; walk_at "bd"; first | decide | omega))
local macro_rules | `(tactic| walk_at "dv") => `(tactic| first | exact dv_var rfl | exact dv_int | exact dv_str | exact dv_bl | assumption | (apply dv_ix0; walk_at "dv") | (apply dv_ix1; walk_at "dv") | (apply dv_ix2; walk_at "dv") | (apply dv_ix3; walk_at "dv") | (apply dv_add <;> walk_at "dv") | (apply dv_sub <;> walk_at "dv") | (apply dv_mul; walk_at "dv"; walk_at "dv"; walk_at "cm") | (apply dv_neg; walk_at "dv") | (apply dv_lt <;> walk_at "dv") | (apply dv_le <;> walk_at "dv") | (apply dv_gt <;> walk_at "dv") | (apply dv_ge <;> walk_at "dv") | (apply dv_eqI <;> walk_at "dv") | (apply dv_neI <;> walk_at "dv") | (apply dv_t2 <;> walk_at "dv") | (apply dv_t3 <;> walk_at "dv") | (apply dv_t4 <;> walk_at "dv") | (apply dv_abs; walk_at "dv") | (apply dv_intI; walk_at "dv"))
local macro_rules | `(tactic| walk_at "p2") => `(tactic| (apply ds_p2; walk_at "dv"; walk_at "dv"))
local macro_rules | `(tactic| walk_at "p2e") => `(tactic| (apply ds_p2e; walk_at "dv"; walk_at "dv"))
local macro_rules | `(tactic| walk_at "p3") => `(tactic| (apply ds_p3; walk_at "dv"; walk_at "dv"; walk_at "dv"))
local macro_rules | `(tactic| walk_at "set") => `(tactic| (apply ds_set'; walk_at "dv"))
local macro_rules | `(tactic| walk_at "sete") => `(tactic| (apply ds_sete; walk_at "dv"))
local macro_rules | `(tactic| walk_at "ret") => `(tactic| (apply ds_ret'; walk_at "dv"))
section
variable {P : Program} {w : World} {K : PySem.W.Frag} {mg : Str → Option Value} {base : Heap}

section
variable {env : Env'} {ta tb : TE} {P : PyData → Prop}
theorem de_I {C : Int → Int → Prop} {f : Int → Int → Int} (ha : DE K ta env fun d => ∃ i, d = .int i ∧ DE K tb env fun d' => ∃ j, d' = .int j ∧ C i j ∧ P (.int (f i j))) : DE K (tOp (rI C fun i j => .int (f i j)) ta tb) env P := fun σ H r Q q =>
  ha σ H r _ fun d v H1 ⟨i, e1, p1⟩ x1 D1 => p1 σ H1 (r.ex x1) _ fun d' w H2 ⟨j, e2, c, p2⟩ x2 D2 => by
    subst e1 e2
    cases D1
    cases D2
    exact ⟨i, j, rfl, rfl, c, q _ _ H2 p2 (x1.trans x2) (.int _)⟩
theorem de_eqI (ha : DE K ta env fun d => ∃ i, d = .int i ∧ DE K tb env fun d' => ∃ j, d' = .int j ∧ P (.bool (decide (i = j)))) : DE K (tOp rEq ta tb) env P := fun σ H r Q q =>
  ha σ H r _ fun d v H1 ⟨i, e1, p1⟩ x1 D1 => p1 σ H1 (r.ex x1) _ fun d' w H2 ⟨j, e2, p2⟩ x2 D2 => by
    subst e1 e2
    cases D1
    cases D2
    exact ⟨rfl, by rw [dec_vint]; exact q _ _ H2 p2 (x1.trans x2) (.bl _)⟩
theorem de_and {a : Bool} (h1 : Dv K ta env (.bool a)) (h2 : a = true → DE K tb env P) (h3 : a = false → P (.bool false)) : DE K (tAndV ta tb) env P := fun σ H r Q q => h1 σ H r _ fun _ v H1 e x D => by
  subst e
  cases D
  refine ⟨a, rfl, ?_⟩
  cases a with
  | true => exact h2 rfl σ H1 (r.ex x) Q fun d v H2 p y D => q d v H2 p (x.trans y) D
  | false => exact q _ _ H1 (h3 rfl) x (.bl _)
end
abbrev spLawCell (K : PySem.W.Frag) : Sp := spA K 2 (fun p : List Int × Int => [.list (p.1.map .int), .int p.2]) (fun p => 0 ≤ p.2) fun p z => ∃ i, z = .int i
theorem okLawCell (T : Tx K mg) : FnOk P w K mg base CX0 1 T.xLawCell.f T.xLawCell.fd ["_law_script", "_law_k"] (spLawCell K) := by
  refine fn_dataA T.xLawCell.F scLawCell rfl fun cdv A outer s H E hr => ⟨_, (pss_cons (ps_if (pt_cmpR op_lt (pv 1) (pe_callB call_len_seq (by rfl) T.len PySem.boot_len (pa_cons (pv 0) pa_nil)) (nomark _)) (pss_one (ps_ret (pe_ix (r := rIxL K) ix_list (pv 0) (pv 1) (fun _ _ => rfl)))) pss_nil) (pss_one (ps_ret pe_int))), fun p hp => ?_⟩
  obtain ⟨ns, k⟩ := p
  have hp : 0 ≤ k := hp
  refine ds_if1 (b := decide (k < ((ns.length : Nat) : Int))) (dt_test (dv_lt (dv_var rfl) (de_len (Dv.to (dv_var rfl) ⟨_, rfl, by rw [List.length_map]⟩)))) (fun h => ?_) fun h => ?_
  · have h := of_decide_eq_true h
    have hl : k.toNat < ns.length := by omega
    exact ds_ret' (dv_ixL (n := k.toNat) (d := .int ns[k.toNat]) (dv_var rfl) (dv_var rfl) (by omega) (by rw [List.getElem?_map, List.getElem?_eq_getElem hl]; rfl)) ⟨_, rfl⟩
  · exact ds_ret' dv_int ⟨_, rfl⟩
theorem snoc_ints (ns : List Int) (m : Int) : snoc (ns.map .int) (.int m) = (ns ++ [m]).map PyData.int := by
  rw [List.map_append]
  rfl
theorem Small.snoc {ns : List Int} {m : Int} (h : Small ns) (h1 : 0 ≤ m) (h2 : m < 1000) : Small (ns ++ [m]) := fun x hx => by
  rcases List.mem_append.mp hx with hx | hx
  · exact h x hx
  · rw [List.mem_singleton.mp hx]
    exact ⟨h1, h2⟩
abbrev spLawNumbers (K : PySem.W.Frag) : Sp := spA K 2 (fun p : Int × Int => [.int p.1, .int p.2]) (fun p => p.2 = 40) fun p z => ∃ ns, z = .list (ns.map .int) ∧ ns.length = 40 ∧ Small ns
theorem okLawNumbers (T : Tx K mg) : FnOk P w K mg base CX0 1 T.xLawNumbers.f T.xLawNumbers.fd ["_law_cell_here", "_law_many"] (spLawNumbers K) := by
  refine fn_dataA T.xLawNumbers.F scLawNumbers rfl fun cdv A outer s H E hr => ⟨_, (pss_cons (ps_set (i := 2) scLawNumbers.nd rfl (Or.inl rfl) (pe_callB call_abs (by rfl) T.abs (by decide +kernel) (pa_cons (pv 0) pa_nil))) (pss_cons (ps_set (i := 3) scLawNumbers.nd rfl (Or.inl rfl) (pv 2)) (pss_cons (ps_set (i := 4) scLawNumbers.nd rfl (Or.inl rfl) (pe_lst pa_nil)) (pss_cons (ps_for PassesOwn.never rfl (pi_range1 (by rfl) T.range (pa_cons (pv 1) pa_nil)) (pg_name (i := 5) scLawNumbers.nd rfl (Or.inl rfl)) (pss_one (ps_if (PW.pt (pw_and (pt_cmpR op_ge (pv 3) (pe_op op_pow pe_int pe_int) (nomark _)) (pw_and1 (pt_cmpR op_gt (pv 2) pe_int (nomark _))))) (pss_cons (ps_expr (pe_bm PySem.F.plainAttrs_list PySem.F.slot_list_append PySem.F.type_list_append mt_append (pv 4) (pa_cons (pe_op op_modN (pe_callTy call_int1 (by rfl) T.int (by decide +kernel) (pa_cons (pv 2) pa_nil)) pe_int) pa_nil))) (pss_one (ps_set (i := 2) scLawNumbers.nd rfl (Or.inl rfl) (pe_op op_fdivZ (pv 2) pe_int)))) (pss_cons (ps_set (i := 6) scLawNumbers.nd rfl (Or.inl rfl) (pe_op op_modN (pe_callTy call_int1 (by rfl) T.int (by decide +kernel) (pa_cons (pe_op op_add (pe_op op_add (pe_op op_mulW (pv 3) pe_int) (pe_op op_mulW (pv 5) pe_int)) pe_int) pa_nil)) pe_int)) (pss_cons (ps_set (i := 6) scLawNumbers.nd rfl (Or.inl rfl) (pe_op op_modN (pe_callTy call_int1 (by rfl) T.int (by decide +kernel) (pa_cons (pe_op op_add (pe_op op_add (pe_op op_mulW (pv 6) (pv 6)) (pe_op op_mulW pe_int (pv 5))) pe_int) pa_nil)) pe_int)) (pss_one (ps_expr (pe_bm PySem.F.plainAttrs_list PySem.F.slot_list_append PySem.F.type_list_append mt_append (pv 4) (pa_cons (pe_op op_modN (pe_callTy call_int1 (by rfl) T.int (by decide +kernel) (pa_cons (pe_op op_fdivZ (pv 6) pe_int) pa_nil)) pe_int) pa_nil))))))))) (pss_one (ps_ret (pv 4))))))), fun p hp => ?_⟩
  obtain ⟨c, m⟩ := p
  have hp : m = 40 := hp
  subst hp
  refine ds_set' (dv_abs (dv_var rfl)) ?_
  refine ds_set' (dv_var rfl) ?_
  refine ds_own (by show 4 < 7; decide) (da_nil ⟨by show 0 ≤ 1000; decide, fun B p => ?_⟩)
  generalize hs : ((c.natAbs : Nat) : Int) = sp
  have sp0 : 0 ≤ sp := by omega
  refine gs_seq (gs_rng1 (hi := 40) (show (5 : Nat) ≠ 4 by decide) (fun i e s => ∃ (r : Int) (x5 x6 : Option PyData) (ns : List Int), e = [some (.int c), some (.int 40), some (.int r), some (.int sp), none, x5, x6] ∧ s = ns.map .int ∧ ns.length = i ∧ Small ns ∧ 0 ≤ r ∧ sp < (r + 1) * 1000 ^ i) (dv_var rfl) (by decide)
    ⟨sp, none, none, [], rfl, rfl, rfl, (fun x h => by cases h), sp0, by omega⟩ ?_ ?_)
  · rintro i e s hi ⟨r, x5, x6, ns, rfl, rfl, hl, sm, r0, hsp⟩
    rw [Int.zero_add]
    have pw : (1 : Int) ≤ 1000 ^ i := by
      have : (0 : Int) < 1000 ^ i := Int.pow_pos (by decide)
      omega
    have p18 : CPow 10 18 := ⟨by decide, by decide, by decide⟩
    refine gs_if (dt_and (dt_test (dv_ge (dv_var rfl) (dv_pow dv_int dv_int p18))) fun _ => dt_test (dv_gt (dv_var rfl) dv_int)) (fun h => ?_) fun h => ?_
    · have k0 : (1000 : Int) ≠ 0 := by decide
      have m2 := fmod_pos (x := r) (y := 1000) (by decide)
      have d2 := fdm r 1000
      refine gs_seq (gs_app (ge_v (dv_mod (dv_intI (dv_var rfl)) dv_int k0) rfl ⟨by rw [List.length_map, hl]; omega, ?_⟩))
      refine gs_then (gs_sete (show (2 : Nat) ≠ 4 by decide) (dv_div (dv_var rfl) dv_int ⟨k0, by decide⟩) rfl ?_)
      refine ⟨_, _, _, ns ++ [r.fmod 1000], rfl, snoc_ints ns _, by rw [List.length_append, hl]; rfl, sm.snoc m2.1 m2.2, by omega, ?_⟩
      have e : (r.fdiv 1000 + 1) * 1000 ^ (i + 1) = ((r.fdiv 1000 + 1) * 1000) * 1000 ^ i := by rw [Int.pow_succ]; grind
      rw [e]
      have := Int.mul_le_mul_of_nonneg_right (show r + 1 ≤ (r.fdiv 1000 + 1) * 1000 by omega) (show (0 : Int) ≤ 1000 ^ i by omega)
      omega
    · have bsp : Bd 400 sp := by
        have big : sp < 10 ^ 18 ∨ r = 0 := by
          rw [Bool.and_eq_false_iff] at h
          rcases h with h | h
          · left
            have h := of_decide_eq_false h
            have e : (10 : Int) ^ (18 : Int).toNat = 10 ^ 18 := rfl
            rw [e] at h
            omega
          · right
            have h := of_decide_eq_false h
            omega
        have lit : (1000 : Int) ^ 40 < ((2 ^ 400 : Nat) : Int) := by decide +kernel
        have lit2 : (10 : Int) ^ 18 < ((2 ^ 400 : Nat) : Int) := by decide +kernel
        have l3 : sp < ((2 ^ 400 : Nat) : Int) := by
          rcases big with h | h
          · omega
          · subst h
            have e : (0 + 1 : Int) * 1000 ^ i = 1000 ^ i := by omega
            rw [e] at hsp
            have mono : (1000 : Int) ^ i ≤ 1000 ^ 40 := by
              have hi : i ≤ 40 := by omega
              obtain ⟨j, hj⟩ := Nat.le.dest hi
              rw [← hj, Int.pow_add]
              have q : (0 : Int) < 1000 ^ j := Int.pow_pos (by decide)
              have := Int.mul_le_mul_of_nonneg_left (show (1 : Int) ≤ 1000 ^ j by omega) (show (0 : Int) ≤ 1000 ^ i by omega)
              omega
            omega
        unfold Bd
        omega
      have bk : Bd 8 (i : Int) := by unfold Bd; omega
      have bl1 : Bd 20 (48271 : Int) := by unfold Bd; decide
      have bl2 : Bd 20 (69621 : Int) := by unfold Bd; decide
      have bl3 : Bd 20 (40692 : Int) := by unfold Bd; decide
      have z1 : (2147483647 : Int) ≠ 0 := by decide
      have z2 : (2147483629 : Int) ≠ 0 := by decide
      have z3 : (1000 : Int) ≠ 0 := by decide
      refine gs_set' (show (6 : Nat) ≠ 4 by decide) (dv_mod (dv_intI (dv_add (dv_add (dv_mul (dv_var rfl) dv_int (cm_of bsp bl1 (by decide))) (dv_mul (dv_var rfl) dv_int (cm_of bk bl2 (by decide)))) dv_int)) dv_int z1) rfl ?_
      generalize hm : (sp * 48271 + (i : Int) * 69621 + 11).fmod 2147483647 = mx
      have bmx : Bd 32 mx := by
        rw [← hm]
        exact Bd.fmod (by unfold Bd; decide) z1
      refine gs_set' (show (6 : Nat) ≠ 4 by decide) (dv_mod (dv_intI (dv_add (dv_add (dv_mul (dv_var rfl) (dv_var rfl) (cm_of bmx bmx (by decide))) (dv_mul dv_int (dv_var rfl) (cm_of bl3 bk (by decide)))) dv_int)) dv_int z2) rfl ?_
      generalize hm2 : (mx * mx + 40692 * (i : Int) + 3).fmod 2147483629 = my
      have m2 := fmod_pos (x := my.fdiv 7) (y := 1000) (by decide)
      refine gs_app (ge_v (dv_mod (dv_intI (dv_div (dv_var rfl) dv_int ⟨by decide, by decide⟩)) dv_int z3) rfl ⟨by rw [List.length_map, hl]; omega, ?_⟩)
      refine ⟨_, _, _, ns ++ [(my.fdiv 7).fmod 1000], rfl, snoc_ints ns _, by rw [List.length_append, hl]; rfl, sm.snoc m2.1 m2.2, r0, ?_⟩
      have e : (r + 1) * 1000 ^ (i + 1) = 1000 * ((r + 1) * 1000 ^ i) := by rw [Int.pow_succ]; grind
      rw [e]
      omega
  · rintro e s ⟨r, x5, x6, ns, rfl, rfl, hl, sm, _⟩
    exact gs_then (gs_retOwn ⟨ns, rfl, hl, sm⟩)
abbrev spLawRoot (K : PySem.W.Frag) : Sp := spA K 1 (fun n : Int => [.int n]) (fun n => 0 ≤ n ∧ n < 400) fun n z => ∃ r, z = .int r ∧ 0 ≤ r ∧ r ≤ n ∧ r * r ≤ n ∧ n < (r + 1) * (r + 1)
theorem okLawRoot (T : Tx K mg) : FnOk P w K mg base CX0 1 T.xLawRoot.f T.xLawRoot.fd ["_law_n"] (spLawRoot K) := by
  refine fn_dataA T.xLawRoot.F scLawRoot rfl fun cdv A outer s H E hr => ⟨_, (pss_cons (ps_set (i := 1) scLawRoot.nd rfl (Or.inl rfl) pe_int) (pss_cons (ps_set (i := 2) scLawRoot.nd rfl (Or.inl rfl) (pe_op op_add (pv 0) pe_int)) (pss_cons (ps_for PassesOwn.never rfl (pi_range1 (by rfl) T.range (pa_cons pe_int pa_nil)) (pg_name (i := 3) scLawRoot.nd rfl (Or.inl rfl)) (pss_cons (ps_if (pt_cmpR op_le (pe_op op_sub (pv 2) (pv 1)) pe_int (nomark _)) (pss_one (ps_ret (pv 1))) pss_nil) (pss_cons (ps_set (i := 4) scLawRoot.nd rfl (Or.inl rfl) (pe_op op_fdivZ (pe_op op_add (pv 1) (pv 2)) pe_int)) (pss_one (ps_if (pt_cmpR op_le (pe_op op_mulW (pv 4) (pv 4)) (pv 0) (nomark _)) (pss_one (ps_set (i := 1) scLawRoot.nd rfl (Or.inl rfl) (pv 4))) (pss_one (ps_set (i := 2) scLawRoot.nd rfl (Or.inl rfl) (pv 4)))))))) (pss_one (ps_ret (pv 1)))))), fun n hp => ?_⟩
  obtain ⟨n0, n4⟩ := hp
  refine ds_set' dv_int ?_
  refine ds_set' (dv_add (dv_var rfl) dv_int) ?_
  refine ds_seq (ds_rng1 (hi := 2000) (fun k e => ∃ (lo hi : Int) (x3 x4 : Option PyData), e = [some (.int n), some (.int lo), some (.int hi), x3, x4] ∧ 0 ≤ lo ∧ lo < hi ∧ hi ≤ n + 1 ∧ lo * lo ≤ n ∧ n < hi * hi ∧ hi - lo + (k : Int) ≤ 401) dv_int (by decide) ⟨0, n + 1, none, none, rfl, by omega, by omega, by omega, by omega, ?_, by omega⟩ ?_ ?_)
  · have := sq_nonneg n
    have e : (n + 1) * (n + 1) = n * n + 2 * n + 1 := by grind
    omega
  · rintro k e hk ⟨lo, hi, x3, x4, rfl, h1, h2, h3, h4, h5, h6⟩
    refine ds_if1 (dt_test (dv_le (dv_sub (dv_var rfl) (dv_var rfl)) dv_int)) (fun h => ?_) fun h => ?_
    · have h := of_decide_eq_true h
      have e : hi = lo + 1 := by omega
      subst e
      exact ds_ret' (dv_var rfl) ⟨lo, rfl, h1, by omega, h4, h5⟩
    · have h := of_decide_eq_false h
      refine ds_set' (dv_div (dv_add (dv_var rfl) (dv_var rfl)) dv_int ⟨by decide, by decide⟩) ?_
      have d2 := fdm (lo + hi) 2
      have m2 := fmod_pos (x := lo + hi) (y := 2) (by decide)
      generalize (lo + hi).fdiv 2 = md at *
      have bm : Bd 16 md := by unfold Bd; omega
      refine ds_if (dt_test (dv_le (dv_mul (dv_var rfl) (dv_var rfl) (by walk_at "cm")) (dv_var rfl))) (fun h => ?_) fun h => ?_
      · have h := of_decide_eq_true h
        exact ds_sete (dv_var rfl) ⟨_, _, _, _, rfl, by omega, by omega, h3, h, h5, by omega⟩
      · have h := of_decide_eq_false h
        exact ds_sete (dv_var rfl) ⟨_, _, _, _, rfl, h1, by omega, by omega, h4, by omega, by omega⟩
  · rintro e ⟨lo, hi, x3, x4, rfl, h1, h2, h3, h4, h5, h6⟩
    have : ((2000 : Int).toNat : Int) = 2000 := rfl
    omega
abbrev spLawSquare (K : PySem.W.Frag) : Sp := spA K 1 (fun n : Int => [.int n]) (fun n => 0 ≤ n ∧ n < 400) fun n z => ∃ b, z = .bool b ∧ (b = false → NSq n)
theorem okLawSquare (T : Tx K mg) : FnOk P w K mg base CX0 2 T.xLawSquare.f T.xLawSquare.fd ["_law_n"] (spLawSquare K) := by
  have GLawRoot : FnOk P w K mg base CX0 1 T.xLawRoot.f T.xLawRoot.fd ["_law_n"] (spLawRoot K) := okLawRoot T
  refine fn_dataA T.xLawSquare.F scLawSquare rfl fun cdv A outer s H E hr => ⟨_, (pss_one (ps_ret (pe_and (pe_cmpR op_ge (pv 0) pe_int (nomark _)) (pe_one (pe_cmpR op_eq (pe_op op_mulW (pe_call GLawRoot (hr.mono (by decide)) (by rfl) T.xLawRoot.g T.xLawRoot.F.kp T.xLawRoot.b .nil pass0 (pa_cons (pv 0) pa_nil)) (pe_call GLawRoot (hr.mono (by decide)) (by rfl) T.xLawRoot.g T.xLawRoot.F.kp T.xLawRoot.b .nil pass0 (pa_cons (pv 0) pa_nil))) (pv 0) (nomark _)))))), fun n hp => ?_⟩
  obtain ⟨n0, n4⟩ := id hp
  have key : ∀ r s : Int, (0 ≤ r ∧ r ≤ n ∧ r * r ≤ n ∧ n < (r + 1) * (r + 1)) → (0 ≤ s ∧ s ≤ n ∧ s * s ≤ n ∧ n < (s + 1) * (s + 1)) → r = s := fun r s ⟨a1, _, a3, a4⟩ ⟨b1, _, b3, b4⟩ => by
    rcases Int.lt_trichotomy r s with h | h | h
    · have := sq_le (x := r + 1) (y := s) (by omega) (by omega) (by omega)
      omega
    · exact h
    · have := sq_le (x := s + 1) (y := r) (by omega) (by omega) (by omega)
      omega
  refine ds_ret (de_and (dv_ge (dv_var rfl) dv_int) (fun _ => de_eqI (de_I (de_callA n rfl hp (das1 (dv_var rfl)) fun z ⟨r, e, hr⟩ => ⟨r, e, de_callA n rfl hp (das1 (dv_var rfl)) fun z ⟨s, e', hs⟩ => ⟨s, e', ?_, _, rfl, Dv.to (dv_var rfl) ⟨n, rfl, _, rfl, fun h k ek => ?_⟩⟩⟩))) fun h => absurd n0 (of_decide_eq_false h))
  · exact cm_of (a := 16) (b := 16) (by unfold Bd; omega) (by unfold Bd; omega) (by decide)
  · have h := of_decide_eq_false h
    have ers := key r s hr hs
    subst ers
    have ek2 : ((k.natAbs : Int)) * (k.natAbs : Int) = k * k := by
      rcases Int.lt_or_le k 0 with z | z
      · rw [show (k.natAbs : Int) = -k by omega]; grind
      · rw [show (k.natAbs : Int) = k by omega]
    have kk : 0 ≤ (k.natAbs : Int) ∧ (k.natAbs : Int) ≤ n ∧ (k.natAbs : Int) * (k.natAbs : Int) ≤ n ∧ n < ((k.natAbs : Int) + 1) * ((k.natAbs : Int) + 1) := by
      have e : ((k.natAbs : Int) + 1) * ((k.natAbs : Int) + 1) = (k.natAbs : Int) * (k.natAbs : Int) + 2 * (k.natAbs : Int) + 1 := by grind
      refine ⟨by omega, ?_, by omega, by omega⟩
      rcases Int.lt_or_le (k.natAbs : Int) 1 with z | z
      · omega
      · have := Int.mul_le_mul_of_nonneg_left z (show 0 ≤ (k.natAbs : Int) by omega)
        omega
    have := key r _ hr kk
    rw [this] at h
    apply h
    omega
abbrev spLawMul (K : PySem.W.Frag) : Sp := spA K 2 (fun p : Mx × Mx => [mxD p.1, mxD p.2]) (fun p => BdM 1000 p.1 ∧ BdM 1000 p.2) fun p z => z = mxD (mul p.1 p.2)
theorem okLawMul (T : Tx K mg) : FnOk P w K mg base CX0 1 T.xLawMul.f T.xLawMul.fd ["_law_m", "_law_n"] (spLawMul K) := by
  refine fn_dataA T.xLawMul.F scLawMul rfl fun cdv A outer s H E hr => ⟨_, (pss_cons (ps_set (i := 2) scLawMul.nd rfl (Or.inl rfl) (pe_lst (pa_cons (pe_op op_add (pe_op op_mulW (pe_ix (r := rIxT K) ix_tup (pv 0) pe_int (fun _ _ => rfl)) (pe_ix (r := rIxT K) ix_tup (pv 1) pe_int (fun _ _ => rfl))) (pe_op op_mulW (pe_ix (r := rIxT K) ix_tup (pv 0) pe_int (fun _ _ => rfl)) (pe_ix (r := rIxT K) ix_tup (pv 1) pe_int (fun _ _ => rfl)))) (pa_cons (pe_op op_add (pe_op op_mulW (pe_ix (r := rIxT K) ix_tup (pv 0) pe_int (fun _ _ => rfl)) (pe_ix (r := rIxT K) ix_tup (pv 1) pe_int (fun _ _ => rfl))) (pe_op op_mulW (pe_ix (r := rIxT K) ix_tup (pv 0) pe_int (fun _ _ => rfl)) (pe_ix (r := rIxT K) ix_tup (pv 1) pe_int (fun _ _ => rfl)))) pa_nil)))) (pss_one (ps_ret (pe_callTy call_tuple_of (by rfl) T.tuple (by decide +kernel) (pa_cons (pe_op (r := rCatL K) op_catL (pv 2) (pe_lst (pa_cons (pe_op op_add (pe_op op_mulW (pe_ix (r := rIxT K) ix_tup (pv 0) pe_int (fun _ _ => rfl)) (pe_ix (r := rIxT K) ix_tup (pv 1) pe_int (fun _ _ => rfl))) (pe_op op_mulW (pe_ix (r := rIxT K) ix_tup (pv 0) pe_int (fun _ _ => rfl)) (pe_ix (r := rIxT K) ix_tup (pv 1) pe_int (fun _ _ => rfl)))) (pa_cons (pe_op op_add (pe_op op_mulW (pe_ix (r := rIxT K) ix_tup (pv 0) pe_int (fun _ _ => rfl)) (pe_ix (r := rIxT K) ix_tup (pv 1) pe_int (fun _ _ => rfl))) (pe_op op_mulW (pe_ix (r := rIxT K) ix_tup (pv 0) pe_int (fun _ _ => rfl)) (pe_ix (r := rIxT K) ix_tup (pv 1) pe_int (fun _ _ => rfl)))) pa_nil)))) pa_nil))))), fun p hp => ?_⟩
  obtain ⟨m, n⟩ := p
  obtain ⟨⟨b1, b2, b3, b4⟩, ⟨c1, c2, c3, c4⟩⟩ := hp
  simp only at b1 b2 b3 b4 c1 c2 c3 c4
  refine ds_set' (dv_lst (das2 (by walk_at "dv") (by walk_at "dv")) (by show 2 ≤ 1000; decide)) ?_
  refine ds_ret (de_tupleL (de_catL (Dv.to (dv_var rfl) ⟨_, rfl, by show 2 ≤ 1000; decide, DE.imp (dv_lst (das2 (by walk_at "dv") (by walk_at "dv")) (by show 2 ≤ 1000; decide)) fun d e => ⟨_, e, by show 2 ≤ 1000; decide, _, rfl, rfl⟩⟩)))
abbrev spLawWorth (K : PySem.W.Frag) : Sp := spA K 3 (fun p : Fm × Int × Int => [fmD p.1, .int p.2.1, .int p.2.2]) (fun p => BdF 600 p.1 ∧ Bd 1000 p.2.1 ∧ Bd 1000 p.2.2) fun p z => z = .int (val p.1 p.2.1 p.2.2)
theorem okLawWorth (T : Tx K mg) : FnOk P w K mg base CX0 1 T.xLawWorth.f T.xLawWorth.fd ["_law_form_here", "_law_x", "_law_y"] (spLawWorth K) := by
  refine fn_dataA T.xLawWorth.F scLawWorth rfl fun cdv A outer s H E hr => ⟨_, (pss_one (ps_ret (pe_op op_add (pe_op op_add (pe_op op_mulW (pe_op op_mulW (pe_ix (r := rIxT K) ix_tup (pv 0) pe_int (fun _ _ => rfl)) (pv 1)) (pv 1)) (pe_op op_mulW (pe_op op_mulW (pe_ix (r := rIxT K) ix_tup (pv 0) pe_int (fun _ _ => rfl)) (pv 1)) (pv 2))) (pe_op op_mulW (pe_op op_mulW (pe_ix (r := rIxT K) ix_tup (pv 0) pe_int (fun _ _ => rfl)) (pv 2)) (pv 2))))), fun p hp => ?_⟩
  obtain ⟨f, x, y⟩ := p
  obtain ⟨⟨b1, b2, b3⟩, c1, c2⟩ := hp
  simp only at b1 b2 b3 c1 c2
  walk_at "ret"
  rfl
abbrev spLawAct (K : PySem.W.Frag) : Sp := spA K 2 (fun p : Fm × Mx => [fmD p.1, mxD p.2]) (fun p => BdF 600 p.1 ∧ BdM 900 p.2) fun p z => z = fmD (act p.1 p.2)
theorem okLawAct (T : Tx K mg) : FnOk P w K mg base CX0 2 T.xLawAct.f T.xLawAct.fd ["_law_form_here", "_law_m"] (spLawAct K) := by
  have GLawWorth : FnOk P w K mg base CX0 1 T.xLawWorth.f T.xLawWorth.fd ["_law_form_here", "_law_x", "_law_y"] (spLawWorth K) := okLawWorth T
  refine fn_dataA T.xLawAct.F scLawAct rfl fun cdv A outer s H E hr => ⟨_, (pss_cons (ps_set (i := 2) scLawAct.nd rfl (Or.inl rfl) (pe_call GLawWorth (hr.mono (by decide)) (by rfl) T.xLawWorth.g T.xLawWorth.F.kp T.xLawWorth.b .nil pass0 (pa_cons (pv 0) (pa_cons (pe_ix (r := rIxT K) ix_tup (pv 1) pe_int (fun _ _ => rfl)) (pa_cons (pe_ix (r := rIxT K) ix_tup (pv 1) pe_int (fun _ _ => rfl)) pa_nil))))) (pss_cons (ps_set (i := 3) scLawAct.nd rfl (Or.inl rfl) (pe_call GLawWorth (hr.mono (by decide)) (by rfl) T.xLawWorth.g T.xLawWorth.F.kp T.xLawWorth.b .nil pass0 (pa_cons (pv 0) (pa_cons (pe_ix (r := rIxT K) ix_tup (pv 1) pe_int (fun _ _ => rfl)) (pa_cons (pe_ix (r := rIxT K) ix_tup (pv 1) pe_int (fun _ _ => rfl)) pa_nil))))) (pss_one (ps_ret (pe_tup (pa_cons (pv 2) (pa_cons (pe_op op_sub (pe_op op_sub (pe_call GLawWorth (hr.mono (by decide)) (by rfl) T.xLawWorth.g T.xLawWorth.F.kp T.xLawWorth.b .nil pass0 (pa_cons (pv 0) (pa_cons (pe_op op_add (pe_ix (r := rIxT K) ix_tup (pv 1) pe_int (fun _ _ => rfl)) (pe_ix (r := rIxT K) ix_tup (pv 1) pe_int (fun _ _ => rfl))) (pa_cons (pe_op op_add (pe_ix (r := rIxT K) ix_tup (pv 1) pe_int (fun _ _ => rfl)) (pe_ix (r := rIxT K) ix_tup (pv 1) pe_int (fun _ _ => rfl))) pa_nil)))) (pv 2)) (pv 3)) (pa_cons (pv 3) pa_nil)))))))), fun p hp => ?_⟩
  obtain ⟨f, m⟩ := p
  obtain ⟨bf, c1, c2, c3, c4⟩ := hp
  simp only at bf c1 c2 c3 c4
  have d1 : Bd 1000 (m.p + m.q) := (Bd.add c1 c2).mono (by decide)
  have d2 : Bd 1000 (m.r + m.s) := (Bd.add c3 c4).mono (by decide)
  refine ds_set' (dv_callA (f, m.p, m.r) rfl ⟨bf, c1.mono (by decide), c3.mono (by decide)⟩ (das3 (dv_var rfl) (dv_ix0 (dv_var rfl)) (dv_ix2 (dv_var rfl))) fun z h => h) ?_
  refine ds_set' (dv_callA (f, m.q, m.s) rfl ⟨bf, c2.mono (by decide), c4.mono (by decide)⟩ (das3 (dv_var rfl) (dv_ix1 (dv_var rfl)) (dv_ix3 (dv_var rfl))) fun z h => h) ?_
  refine ds_ret' (dv_t3 (dv_var rfl) (dv_sub (dv_sub (dv_callA (f, m.p + m.q, m.r + m.s) rfl ⟨bf, d1, d2⟩ (das3 (dv_var rfl) (dv_add (dv_ix0 (dv_var rfl)) (dv_ix1 (dv_var rfl))) (dv_add (dv_ix2 (dv_var rfl)) (dv_ix3 (dv_var rfl)))) fun z h => h) (dv_var rfl)) (dv_var rfl)) (dv_var rfl)) ?_
  have e : val f (m.p + m.q) (m.r + m.s) - val f m.p m.r - val f m.q m.s = (act f m).b := by unfold val act; simp only; grind
  show PyData.tuple [.int (val f m.p m.r), .int (val f (m.p + m.q) (m.r + m.s) - val f m.p m.r - val f m.q m.s), .int (val f m.q m.s)] = _
  rw [e]
  rfl
end
end K19
/-! K19W14 -/
set_option Elab.async false
set_option linter.all false
set_option maxRecDepth 100000
set_option maxHeartbeats 4000000
namespace K19
open PySem PySem.Spec PyProof.Rows L2
open Evl (Ex)
local macro_rules | `(tactic| walk_at "bd") => `(tactic| first | assumption | exact Bd.lit (n := 4) rfl | exact Bd.lit (n := 32) rfl | (apply Bd.mul <;> walk_at "bd") | (apply Bd.add <;> walk_at "bd") | (apply Bd.sub <;> walk_at "bd") | (apply Bd.neg; walk_at "bd") | (apply Bd.fdiv; walk_at "bd"))
local macro_rules | `(tactic| walk_at "cm") => `(tactic| (apply cm_of; walk_at "bd"; walk_at "bd"; first | decide | omega))
local macro_rules | `(tactic| walk_at "dv") => `(tactic| first | exact dv_var rfl | exact dv_int | exact dv_str | exact dv_bl | assumption | (apply dv_ix0; walk_at "dv") | (apply dv_ix1; walk_at "dv") | (apply dv_ix2; walk_at "dv") | (apply dv_ix3; walk_at "dv") | (apply dv_add <;> walk_at "dv") | (apply dv_sub <;> walk_at "dv") | (apply dv_mul; walk_at "dv"; walk_at "dv"; walk_at "cm") | (apply dv_neg; walk_at "dv") | (apply dv_lt <;> walk_at "dv") | (apply dv_le <;> walk_at "dv") | (apply dv_gt <;> walk_at "dv") | (apply dv_ge <;> walk_at "dv") | (apply dv_eqI <;> walk_at "dv") | (apply dv_neI <;> walk_at "dv") | (apply dv_t2 <;> walk_at "dv") | (apply dv_t3 <;> walk_at "dv") | (apply dv_t4 <;> walk_at "dv") | (apply dv_abs; walk_at "dv") | (apply dv_intI; walk_at "dv"))
local macro_rules | `(tactic| walk_at "p2") => `(tactic| (apply ds_p2; walk_at "dv"; walk_at "dv"))
local macro_rules | `(tactic| walk_at "p2e") => `(tactic| (apply ds_p2e; walk_at "dv"; walk_at "dv"))
local macro_rules | `(tactic| walk_at "p3") => `(tactic| (apply ds_p3; walk_at "dv"; walk_at "dv"; walk_at "dv"))
local macro_rules | `(tactic| walk_at "set") => `(tactic| (apply ds_set'; walk_at "dv"))
local macro_rules | `(tactic| walk_at "sete") => `(tactic| (apply ds_sete; walk_at "dv"))
local macro_rules | `(tactic| walk_at "ret") => `(tactic| (apply ds_ret'; walk_at "dv"))
section
variable {P : Program} {w : World} {K : PySem.W.Frag} {mg : Str → Option Value} {base : Heap}

abbrev spLawNext (K : PySem.W.Frag) : Sp := spS K (fun k many => 0 < many ∧ k ≤ 100000) fun k many k' d => k' = k + 1 ∧ ∃ r, d = .int r ∧ 0 ≤ r ∧ r < many
theorem okLawNext (T : Tx K mg) : FnOk P w K mg base CX0 1 T.xLawNext.f T.xLawNext.fd ["_law_state_here", "_law_many"] (spLawNext K) := by
  refine fn_state T.xLawNext.F scLawNext rfl fun cdv A outer s H E hr => ⟨_, (pss_cons (ps_asg (pe_op op_add (pe_ix (r := rIxL K) ix_list (pv 0) pe_int (fun _ _ => rfl)) pe_int) (pg_sub (pv 0) pe_int set_list)) (pss_cons (ps_set (i := 2) scLawNext.nd rfl (Or.inl rfl) (pe_op op_add (pe_ix (r := rIxL K) ix_list (pe_ix (r := rIxL K) ix_list (pv 0) pe_int (fun _ _ => rfl)) (pe_op op_modN (pe_callTy call_int1 (by rfl) T.int (by decide +kernel) (pa_cons (pe_op op_mulW (pe_ix (r := rIxL K) ix_list (pv 0) pe_int (fun _ _ => rfl)) pe_int) pa_nil)) (pe_callB call_len_seq (by rfl) T.len PySem.boot_len (pa_cons (pe_ix (r := rIxL K) ix_list (pv 0) pe_int (fun _ _ => rfl)) pa_nil))) (fun _ _ => rfl)) (pe_op op_mulW (pe_op op_mulW pe_int (pe_ix (r := rIxL K) ix_list (pv 0) pe_int (fun _ _ => rfl))) (pe_op op_add pe_int (pe_op op_fdivZ (pe_ix (r := rIxL K) ix_list (pv 0) pe_int (fun _ _ => rfl)) (pe_callB call_len_seq (by rfl) T.len PySem.boot_len (pa_cons (pe_ix (r := rIxL K) ix_list (pv 0) pe_int (fun _ _ => rfl)) pa_nil))))))) (pss_one (ps_ret (pe_op op_modN (pe_callTy call_int1 (by rfl) T.int (by decide +kernel) (pa_cons (pv 2) pa_nil)) (pv 1)))))), fun B p q nums k many hl sm hp => ?_⟩
  obtain ⟨m0, hk⟩ := hp
  have hll : ((nums.map PyData.int).length : Int) = 120 := by rw [List.length_map, hl]; rfl
  refine gs_seq (gs_tick (k' := k + 1) (ge_I0 (ge_cnt ⟨_, rfl, ge_v dv_int rfl ⟨1, rfl, by push_cast; rfl, ?_⟩⟩)))
  refine gs_then ?_
  have bk : Bd 20 ((k + 1 : Nat) : Int) := by unfold Bd; omega
  have m2 := fmod_pos (x := ((k + 1 : Nat) : Int) * 7) (y := 120) (by decide)
  have hlt : (((k + 1 : Nat) : Int) * 7).fmod 120 = (((((k + 1 : Nat) : Int) * 7).fmod 120).toNat : Int) := by omega
  have hix : ((((k + 1 : Nat) : Int) * 7).fmod 120).toNat < nums.length := by omega
  have dd : CDivZ ((k + 1 : Nat) : Int) 120 := ⟨by decide, by decide⟩
  have bq : Bd 20 (1 + (((k + 1 : Nat) : Int)).fdiv 120) := by
    have := Bd.fdiv (j := 120) (show Bd 18 ((k + 1 : Nat) : Int) by unfold Bd; omega)
    exact (Bd.add (Bd.lit (n := 4) (i := 1) rfl) this).mono (by decide)
  refine gs_seq (gs_set (show (2 : Nat) ≠ 0 by decide) (ge_I0 (ge_ixL (ge_nums ⟨_, rfl, ge_I (ge_intI (ge_I (ge_cnt ⟨_, rfl, ge_v dv_int rfl ⟨7, rfl, cm_of bk (Bd.lit (n := 4) (i := 7) rfl) (by decide), _, rfl, _, rfl, ge_len (ge_nums ⟨_, rfl, _, rfl, ?_, ((((k + 1 : Nat) : Int) * 7).fmod 120).toNat, .int nums[((((k + 1 : Nat) : Int) * 7).fmod 120).toNat], ?_, ?_, _, rfl, ?_⟩)⟩⟩)))⟩))))
  · rw [hll]; decide
  · rw [hll, ← hlt]
  · rw [List.getElem?_map, List.getElem?_eq_getElem hix]
    rfl
  · refine ge_I (ge_I (ge_v dv_int rfl ⟨13, rfl, ge_cnt ⟨_, rfl, cm_of (Bd.lit (n := 4) (i := 13) rfl) bk (by decide), _, rfl, ge_I0 (ge_v dv_int rfl ⟨1, rfl, ge_I (ge_cnt ⟨_, rfl, ge_len (ge_nums ⟨_, rfl, _, rfl, ?_, _, rfl, _, rfl, ?_, ?_⟩)⟩)⟩)⟩⟩))
    · rw [hll]; exact dd
    · rw [hll]; exact cm_of ((Bd.mul (Bd.lit (n := 4) (i := 13) rfl) bk)) bq (by decide)
    · have mne : many ≠ 0 := by omega
      refine ⟨_, rfl, gs_then (gs_ret ?_)⟩
      refine ge_v (dv_mod (dv_intI (dv_var rfl)) (dv_var rfl) mne) rfl ?_
      exact ⟨⟨rfl, _, rfl, fmod_pos m0⟩, rfl⟩
/-- small changes -/
def AbM (a : Nat) (m : Mx) : Prop := m.p.natAbs ≤ a ∧ m.q.natAbs ≤ a ∧ m.r.natAbs ≤ a ∧ m.s.natAbs ≤ a
theorem mul_abs {x y : Int} {a b : Nat} (h1 : x.natAbs ≤ a) (h2 : y.natAbs ≤ b) : (x * y).natAbs ≤ a * b := by
  rw [Int.natAbs_mul]
  exact Nat.mul_le_mul h1 h2
theorem AbM.step {a : Nat} {m n : Mx} (h : AbM a m) (hn : (n.p.natAbs + n.r.natAbs ≤ 3) ∧ (n.q.natAbs + n.s.natAbs ≤ 3)) : AbM (3 * a) (mul m n) := by
  obtain ⟨h1, h2, h3, h4⟩ := h
  have two : ∀ {x y u v : Int}, x.natAbs ≤ a → y.natAbs ≤ a → u.natAbs + v.natAbs ≤ 3 → (x * u + y * v).natAbs ≤ 3 * a := fun {x y u v} hx hy huv => by
    have k1 := mul_abs hx (Nat.le_refl u.natAbs)
    have k2 := mul_abs hy (Nat.le_refl v.natAbs)
    have k3 : a * u.natAbs + a * v.natAbs ≤ a * 3 := by
      rw [← Nat.mul_add]
      exact Nat.mul_le_mul_left a huv
    omega
  exact ⟨two h1 h2 hn.1, two h1 h2 hn.2, two h3 h4 hn.1, two h3 h4 hn.2⟩
abbrev spLawChange (K : PySem.W.Frag) : Sp := spS K (fun k many => many = 2 ∧ k ≤ 90000) fun k many k' d => k' ≤ k + 10 ∧ ∃ m, d = mxD m ∧ det m = 1 ∧ AbM 9 m
theorem okLawChange (T : Tx K mg) : FnOk P w K mg base CX0 2 T.xLawChange.f T.xLawChange.fd ["_law_state_here", "_law_many"] (spLawChange K) := by
  have GLawNext : FnOk P w K mg base CX0 1 T.xLawNext.f T.xLawNext.fd ["_law_state_here", "_law_many"] (spLawNext K) := okLawNext T
  have GLawMul : FnOk P w K mg base CX0 1 T.xLawMul.f T.xLawMul.fd ["_law_m", "_law_n"] (spLawMul K) := okLawMul T
  refine fn_state T.xLawChange.F scLawChange rfl fun cdv A outer s H E hr => ⟨_, (pss_cons (ps_set (i := 2) scLawChange.nd rfl (Or.inl rfl) (pe_tup (pa_cons pe_int (pa_cons pe_int (pa_cons pe_int (pa_cons pe_int pa_nil)))))) (pss_cons (ps_for PassesOwn.never rfl (pi_range1 (by rfl) T.range (pa_cons (pe_call GLawNext (hr.mono (by decide)) (by rfl) T.xLawNext.g T.xLawNext.F.kp T.xLawNext.b .nil pass0 (pa_cons (pv 0) (pa_cons (pe_op op_add (pv 1) pe_int) pa_nil))) pa_nil)) (pg_name (i := 3) scLawChange.nd rfl (Or.inl rfl)) (pss_cons (ps_set (i := 4) scLawChange.nd rfl (Or.inl rfl) (pe_op op_sub (pe_call GLawNext (hr.mono (by decide)) (by rfl) T.xLawNext.g T.xLawNext.F.kp T.xLawNext.b .nil pass0 (pa_cons (pv 0) (pa_cons pe_int pa_nil))) pe_int)) (pss_one (ps_set (i := 2) scLawChange.nd rfl (Or.inl rfl) (pe_call GLawMul (hr.mono (by decide)) (by rfl) T.xLawMul.g T.xLawMul.F.kp T.xLawMul.b .nil pass0 (pa_cons (pv 2) (pa_cons (pe_ix (r := rIxL K) ix_list (pe_lst (pa_cons (pe_tup (pa_cons pe_int (pa_cons (pv 4) (pa_cons pe_int (pa_cons pe_int pa_nil))))) (pa_cons (pe_tup (pa_cons pe_int (pa_cons pe_int (pa_cons (pv 4) (pa_cons pe_int pa_nil))))) (pa_cons (pe_tup (pa_cons pe_int (pa_cons (pe_un un_neg pe_int) (pa_cons pe_int (pa_cons pe_int pa_nil))))) pa_nil)))) (pe_call GLawNext (hr.mono (by decide)) (by rfl) T.xLawNext.g T.xLawNext.F.kp T.xLawNext.b .nil pass0 (pa_cons (pv 0) (pa_cons pe_int pa_nil))) (fun _ _ => rfl)) pa_nil))))))) (pss_one (ps_ret (pv 2))))), fun B p q nums k many hl sm hp => ?_⟩
  obtain ⟨m2, hk⟩ := hp
  subst m2
  refine gs_set' (d := mxD one) (show (2 : Nat) ≠ 0 by decide) (dv_t4 dv_int dv_int dv_int dv_int) rfl ?_
  refine gs_seq (gs_rng1G (show (3 : Nat) ≠ 0 by decide) (ge_callS hl sm (ge_v (dv_add (dv_var rfl) dv_int) rfl ⟨3, rfl, ⟨by decide, by omega⟩, fun k' d' hd => ?_⟩)))
  obtain ⟨ek, n, rfl, n0, n3⟩ := hd
  refine ⟨n, rfl, by omega, fun i e (s : Nat) => ∃ (m : Mx) (x3 x4 : Option PyData), e = [none, some (.int 2), some (mxD m), x3, x4] ∧ det m = 1 ∧ AbM (3 ^ i) m ∧ s ≤ k + 1 + 2 * i, ⟨one, none, none, rfl, by decide, ⟨by decide, by decide, by decide, by decide⟩, by omega⟩, ?_, ?_⟩
  · rintro i e (s : Nat) hi ⟨m, x3, x4, rfl, dm, am, hs⟩
    have hs : s ≤ k + 1 + 2 * i := hs
    have i2 : i ≤ 1 := by omega
    refine gs_seq (gs_set (show (4 : Nat) ≠ 0 by decide) (ge_I0 (ge_callS hl sm (ge_v dv_int rfl ⟨5, rfl, ⟨by decide, by omega⟩, fun k1 d1 hd => ?_⟩))))
    obtain ⟨e1, t, rfl, t0, t5⟩ := hd
    refine ⟨t, rfl, ge_v dv_int rfl ⟨2, rfl, ?_⟩⟩
    refine gs_then ?_
    generalize ht : t - 2 = u
    have bu : u.natAbs ≤ 2 := by omega
    have bm : BdM 1000 m := by
      have h9 : 3 ^ i ≤ 3 ^ 1 := Nat.pow_le_pow_right (by decide) i2
      obtain ⟨a1, a2, a3, a4⟩ := am
      have b8 : ∀ {x : Int}, x.natAbs ≤ 3 ^ i → Bd 1000 x := fun {x} h => Bd.mono (m := 8) (by unfold Bd; omega) (by decide)
      exact ⟨b8 a1, b8 a2, b8 a3, b8 a4⟩
    have l3 : ∀ r : Int, 0 ≤ r → r < 3 → ∃ n : Mx, ([mxD ⟨1, u, 0, 1⟩, mxD ⟨1, 0, u, 1⟩, mxD ⟨0, -1, 1, 0⟩] : List PyData)[r.toNat]? = some (mxD n) ∧ det n = 1 ∧ (n.p.natAbs + n.r.natAbs ≤ 3) ∧ (n.q.natAbs + n.s.natAbs ≤ 3) := fun r r0 r3 => by
      rcases show r = 0 ∨ r = 1 ∨ r = 2 by omega with rfl | rfl | rfl
      · exact ⟨⟨1, u, 0, 1⟩, rfl, by simp only [det]; omega, by simp only; omega, by simp only; omega⟩
      · exact ⟨⟨1, 0, u, 1⟩, rfl, by simp only [det]; omega, by simp only; omega, by simp only; omega⟩
      · exact ⟨⟨0, -1, 1, 0⟩, rfl, by simp only [det]; omega, by decide, by decide⟩
    refine gs_set (show (2 : Nat) ≠ 0 by decide) (ge_call (ga_cons (ge_v (dv_var rfl) rfl (ga_cons (ge_ixL (ge_lst (ga_cons (ge_v (d := mxD ⟨1, u, 0, 1⟩) (dv_t4 dv_int (dv_var rfl) dv_int dv_int) rfl (ga_cons (ge_v (d := mxD ⟨1, 0, u, 1⟩) (dv_t4 dv_int dv_int (dv_var rfl) dv_int) rfl (ga_cons (ge_v (d := mxD ⟨0, -1, 1, 0⟩) (dv_t4 dv_int (dv_neg dv_int) dv_int dv_int) rfl (ga_nil ⟨by show 3 ≤ 1000; decide, _, rfl, ge_callS hl sm (ge_v dv_int rfl ⟨3, rfl, ⟨by decide, by omega⟩, fun k2 d2 hd => ?_⟩)⟩)))))))))))))
    obtain ⟨e2, r, rfl, r0, r3⟩ := hd
    obtain ⟨n, hn, dn, bn⟩ := l3 r r0 r3
    refine ⟨r.toNat, mxD n, by rw [show ((r.toNat : Nat) : Int) = r by omega], hn, ga_nil ⟨(m, n), rfl, rfl, ⟨bm, ?_⟩, fun z hz => ?_⟩⟩
    · show BdM 1000 n
      obtain ⟨c1, c2⟩ := bn
      have b8 : ∀ {x : Int}, x.natAbs ≤ 3 → Bd 1000 x := fun {x} h => Bd.mono (m := 8) (by unfold Bd; omega) (by decide)
      exact ⟨b8 (by omega), b8 (by omega), b8 (by omega), b8 (by omega)⟩
    · subst hz
      refine ⟨rfl, mul m n, _, _, rfl, by rw [det_mul, dm, dn]; rfl, ?_, by omega⟩
      have := am.step bn
      rw [Nat.pow_succ, Nat.mul_comm]
      exact this
  · rintro e (s : Nat) ⟨m, x3, x4, rfl, dm, am, hs⟩
    have hs : s ≤ k + 1 + 2 * n.toNat := hs
    refine gs_then (gs_ret (ge_v (dv_var rfl) rfl ?_))
    have h9 : 3 ^ n.toNat ≤ 3 ^ 2 := Nat.pow_le_pow_right (by decide) (by omega)
    obtain ⟨a1, a2, a3, a4⟩ := am
    exact ⟨⟨by omega, m, rfl, dm, by omega, by omega, by omega, by omega⟩, rfl⟩
section
variable {env : Env'} {ta tb : TE} {P : PyData → Prop}
theorem de_I0 {f : Int → Int → Int} (ha : DE K ta env fun d => ∃ i, d = .int i ∧ DE K tb env fun d' => ∃ j, d' = .int j ∧ P (.int (f i j))) : DE K (tOp (rI0 fun i j => .int (f i j)) ta tb) env P := fun σ H r Q q =>
  ha σ H r _ fun d v H1 ⟨i, e1, p1⟩ x1 D1 => p1 σ H1 (r.ex x1) _ fun d' w H2 ⟨j, e2, p2⟩ x2 D2 => by
    subst e1 e2
    cases D1
    cases D2
    exact ⟨i, j, rfl, rfl, q _ _ H2 p2 (x1.trans x2) (.int _)⟩
theorem de_abs (ha : DE K ta env fun d => ∃ i, d = .int i ∧ P (.int ((i.natAbs : Nat) : Int))) : DE K (tCB (fun xs H Q => ∃ i, xs = [.int i] ∧ Q (.int (if i < 0 then -i else i)) H) (tCons ta tNil)) env P := fun σ H r Q q =>
  ha σ H r _ fun d v H1 ⟨i, e1, p1⟩ x1 D1 => by
    subst e1
    cases D1
    refine ⟨i, rfl, ?_⟩
    have e : (if i < 0 then -i else i) = ((i.natAbs : Nat) : Int) := by split <;> omega
    rw [e]
    exact q _ _ H1 p1 x1 (.int _)
theorem ds_run {t u : TS} {R : Env' → Prop} {σ : L2.St} {H : Hp} {D : Ends} (h : DS K t env fun o => ∃ e, o = .nx e ∧ R e) (r : RS K H σ env) (k : ∀ e σ' H', R e → Ex H H' → RS K H' σ' e → u D σ' H') : tSeq t u D σ H :=
  h σ H { D with nx := u D } r (fun e σ' H' ⟨e1, p1, p2⟩ x r' => by
    cases p1
    exact k e σ' H' p2 x r') fun d v H' ⟨e1, p1, _⟩ x D' => by cases p1
end
abbrev spLawState (K : PySem.W.Frag) : Sp := spState K
theorem okLawState (T : Tx K mg) : FnOk P w K mg base CX0 2 T.xLawState.f T.xLawState.fd ["_law_script"] (spLawState K) := by
  have GLawNumbers : FnOk P w K mg base CX0 1 T.xLawNumbers.f T.xLawNumbers.fd ["_law_cell_here", "_law_many"] (spLawNumbers K) := okLawNumbers T
  have GLawCell : FnOk P w K mg base CX0 1 T.xLawCell.f T.xLawCell.fd ["_law_script", "_law_k"] (spLawCell K) := okLawCell T
  refine T.xLawState.F.ok scLawState ?_ fun cdv A outer s H vs Q E hr h => ⟨_, PSs.nox (pss_cons (ps_set (i := 1) scLawState.nd rfl (Or.inl rfl) (pe_lst pa_nil)) (pss_cons (ps_for PassesOwn.never rfl (pi_range1 (by rfl) T.range (pa_cons pe_int pa_nil)) (pg_name (i := 2) scLawState.nd rfl (Or.inl rfl)) (pss_one (ps_set (i := 1) scLawState.nd rfl (Or.inl rfl) (pe_op (r := rCatL K) op_catL (pv 1) (pe_call GLawNumbers (hr.mono (by decide)) (by rfl) T.xLawNumbers.g T.xLawNumbers.F.kp T.xLawNumbers.b .nil pass0 (pa_cons (pe_op op_add (pe_callB call_abs (by rfl) T.abs (by decide +kernel) (pa_cons (pe_call GLawCell (hr.mono (by decide)) (by rfl) T.xLawCell.g T.xLawCell.F.kp T.xLawCell.b .nil pass0 (pa_cons (pv 0) (pa_cons (pv 2) pa_nil))) pa_nil)) (pe_op op_mulW pe_int (pv 2))) (pa_cons pe_int pa_nil))))))) (pss_one (ps_ret (pe_lst (pa_cons (pv 1) (pa_cons pe_int pa_nil))))))), ?_⟩
  · rintro vs H Q E ⟨ns, h1, _⟩
    rw [h1.length]
    rfl
  · obtain ⟨ns, h1, q⟩ := h
    have r0 : RS K H (L2.start ["_law_script", "_law_numbers_here", "_law_k"] vs) [some (.list (ns.map .int)), none, none] := by
      unfold L2.start
      rw [h1.length]
      exact RS.args (RS.none _) h1
    refine ds_run (R := fun e => e = [some (.list (ns.map .int)), some (.list ([].map .int)), none]) (ds_sete (dv_lst das_nil (by show 0 ≤ 1000; decide)) ⟨_, rfl, rfl⟩) r0 ?_
    rintro e σ1 H1 rfl x1 r1
    refine ds_run (R := fun e => ∃ (nums : List Int) (x2 : Option PyData), e = [some (.list (ns.map .int)), some (.list (nums.map .int)), x2] ∧ nums.length = 120 ∧ Small nums)
      (ds_rng1 (hi := 3) (fun k e => ∃ (nums : List Int) (x2 : Option PyData), e = [some (.list (ns.map .int)), some (.list (nums.map .int)), x2] ∧ nums.length = 40 * k ∧ Small nums) dv_int (by decide) ⟨[], none, rfl, rfl, fun x h => by cases h⟩ ?_ ?_) r1 ?_
    · rintro k e hk ⟨nums, x2, rfl, hl, sm⟩
      have hk : k < 3 := hk
      rw [Int.zero_add]
      refine ds_set (de_catL (Dv.to (dv_var rfl) ⟨_, rfl, by rw [List.length_map]; omega, de_callE (α := Int × Int) (fun ds => ∃ i, ds = [.int i, .int 40]) (da_cons (de_I0 (de_abs (de_callA (ns, (k : Int)) rfl (by show (0 : Int) ≤ k; omega) (das2 (dv_var rfl) (dv_var rfl)) fun z ⟨i, e⟩ => ⟨i, e, _, rfl, Dv.to (dv_mul dv_int (dv_var rfl) ?_) ⟨_, rfl, da_v dv_int (da_nil ⟨_, rfl⟩)⟩⟩)))) (fun ds ⟨i, e⟩ => ⟨(i, 40), e, rfl, rfl⟩) ?_⟩))
      · exact cm_of (a := 16) (b := 4) (by unfold Bd; decide) (by unfold Bd; omega) (by decide)
      · rintro ds _ p z _ ⟨ms, rfl, ml, ms2⟩
        refine ⟨_, rfl, by rw [List.length_map]; omega, nums ++ ms, _, by rw [List.map_append]; rfl, by rw [List.length_append]; omega, fun x hx => ?_⟩
        rcases List.mem_append.mp hx with hx | hx
        · exact sm x hx
        · exact ms2 x hx
    · rintro e ⟨nums, x2, rfl, hl, sm⟩
      exact ⟨_, rfl, nums, x2, rfl, hl, sm⟩
    · rintro e σ2 H2 ⟨nums, x2, rfl, hl, sm⟩ x2' r2
      obtain ⟨v, hv, D⟩ := r2.get (i := 1) rfl
      refine ⟨v, hv, ?_⟩
      cases D with
      | lst hs hA =>
      rename_i b xs
      refine ⟨by show 2 ≤ sizeLine; decide, fun a ha => ?_⟩
      have er : rm a (upd H2 a (.lst [.ref b, .int 0])) = H2 := rm_upd_new ha
      have x := x1.trans x2'
      refine q a b nums _ hl sm ?_ ⟨?_, [.ref b, .int 0], upd_same, ?_⟩
      · cases e : H a with
        | none => rfl
        | some o => rw [x a o e] at ha; cases ha
      · show Ex H (rm a (upd H2 a (.lst [.ref b, .int 0])))
        rw [er]
        exact x
      · show [V.ref b, V.int 0] = [V.ref b, V.int 0] ∧ Dp K (rm a (upd H2 a (.lst [.ref b, .int 0]))) (.ref b) (.list (nums.map .int))
        rw [er]
        exact ⟨rfl, .lst hs hA⟩
end
end K19
/-! K19LayJ -/
set_option Elab.async false
set_option linter.all false
set_option maxRecDepth 100000
set_option maxHeartbeats 4000000
namespace K19
open PySem PySem.Spec PyProof.Rows L2
open Evl (Ex)
theorem hr65 {k : Nat} {A : Around} (r : Room k A) : A.units + 65 < cLine := by have := r.un; omega
theorem rm_comm (a b : Addr) (H : Hp) : rm a (rm b H) = rm b (rm a H) := funext fun x => by
  by_cases h1 : x = a
  · by_cases h2 : x = b
    · subst h1; subst h2; rfl
    · subst h1; rw [rm_self, rm_ne h2, rm_self]
  · by_cases h2 : x = b
    · subst h2; rw [rm_ne h1, rm_self, rm_self]
    · rw [rm_ne h1, rm_ne h2, rm_ne h2, rm_ne h1]
section
variable {K : PySem.W.Frag} {B : Hp} {p q : Addr} {j : Nat} {nums : List Int} {e : Env'} {s : Nat} {ta tb te : TE}
/-- [e for k in range(n)], e a reading of the state -/
theorem ge_lcS {n i : Nat} {St : Nat → Nat → Prop} {E : Nat → PyData → Prop} {P : PyData → Nat → Prop} (ij : i ≠ j) (hb : Dv K tb e (.int (n : Int))) (hn : n ≤ 100) (h0 : St 0 s)
    (he : ∀ (k s : Nat), k < n → St k s → GE (OS K B p q j nums) te ((e.set i none).set i (some (.int (0 + (k : Int))))) s fun d (s' : Nat) => E k d ∧ noL d = true ∧ St (k + 1) s')
    (hP : ∀ (ds : List PyData) (s' : Nat), ds.length = n → (∀ k d, ds[k]? = some d → E k d) → St n s' → P (.list ds) s') : GE (OS K B p q j nums) (tLc (iRng1 (tCons tb tNil)) (gName i) tYes te [i]) e s P := fun σ H g Q r =>
  hb σ H g.rs _ fun _ v H1 e1 x1 D1 => by
    subst e1
    cases D1
    have g1 := g.ex x1
    obtain ⟨vs, p1, e1, d1⟩ := g1.ob
    have p1 : H1 p = some (.lst vs) := p1
    have d1 : Dp K (rm p H1) (.ref q) (.list (nums.map .int)) := d1
    refine ⟨(n : Int), rfl, by omega, by omega, fun D hD => ?_⟩
    have Dp' : D ≠ p := by rintro rfl; rw [p1] at hD; cases hD
    refine lc_range (fun k H' => ∃ acc ds s', H' D = some (.lst acc) ∧ DpAll K (rm p (rm D H')) acc ds ∧ ds.length = k ∧ (∀ i d, ds[i]? = some d → E i d) ∧ St k s' ∧ H' p = some (.lst [V.ref q, V.int (s' : Int)]) ∧ Ex (rm p H1) (rm p (rm D H'))) ?_ ?_ ?_
    · refine ⟨[], [], s, upd_same, .nil, rfl, (fun i d h => by simp at h), h0, ?_, ?_⟩
      · rw [upd_ne (Ne.symm Dp'), p1, e1]
      · rw [rm_upd_new hD]
        exact Evl.Ex.refl _
    · rintro k H' hk ⟨acc, ds, s', aD, aA, al, aE, aS, ap, ax⟩
      refine ⟨by
        show (((σ.set i none).set i (some (.int (0 + (k : Int))))).set i none) = σ.set i none
        rw [List.set_set, List.set_set], ?_⟩
      have le : Ex (rm p (rm D H')) (rm p H') := rm_ex rm_le
      have gk : GC (OS K B p q j nums) ((e.set i none).set i (some (.int (0 + (k : Int))))) s' ((σ.set i none).set i (some (.int (0 + (k : Int))))) H' := by
        refine ⟨⟨g1.b.trans (ax.trans le), _, ap, rfl, dp_ex (ax.trans le) _ _ d1⟩, (rs_none i (g1.r.ex (ax.trans le))).set (.int _) i, ?_⟩
        show ((σ.set i none).set i (some (.int (0 + (k : Int)))))[j]? = some (some (.ref p))
        rw [List.getElem?_set_ne ij, List.getElem?_set_ne ij]
        exact g1.jj
      refine he k s' hk aS _ H' gk _ fun d v (s2 : Nat) H2 ⟨hE, hL, hS⟩ g2 x2 D2 => ?_
      have x2 : Ex (rm p H') (rm p H2) := x2
      have D2 : Dp K (rm p H2) v d := D2
      have hD2 : H2 D = some (.lst acc) := by
        have := x2 D (.lst acc) (by rw [rm_ne Dp']; exact aD)
        rw [rm_ne Dp'] at this
        exact this
      obtain ⟨vs2, p2, e2, _⟩ := g2.ob
      have p2 : H2 p = some (.lst vs2) := p2
      have e2 : vs2 = [V.ref q, V.int ((s2 : Nat) : Int)] := e2
      subst e2
      have er : rm p (rm D (upd H2 D (.lst (acc ++ [v])))) = rm p (rm D H2) := by rw [rm_upd]
      have x3 : Ex (rm p (rm D H')) (rm p (rm D H2)) := by
        rw [rm_comm, rm_comm p D H2]
        exact rm_ex x2
      refine ⟨acc, hD2, by rw [DpAll.length aA, al]; exact Nat.lt_of_lt_of_le (show k < 1000 by omega) (by decide), acc ++ [v], ds ++ [d], s2, upd_same, ?_, by simp [al], fun i d' hd' => ?_, hS, ?_, ?_⟩
      · rw [er]
        refine DpAll.append (dps_ex x3 _ _ aA) ?_
        rw [rm_comm]
        exact dp_rm (p := D) (xs := acc) (by rw [rm_ne Dp']; exact hD2) hL D2
      · by_cases hi : i < ds.length
        · rw [List.getElem?_append_left hi] at hd'
          exact aE i d' hd'
        · rw [List.getElem?_append_right (by omega)] at hd'
          have z0 : i - ds.length = 0 := by
            apply Classical.byContradiction
            intro z
            rw [List.getElem?_eq_none (by simp; omega)] at hd'
            cases hd'
          rw [z0] at hd'
          have e2 : d = d' := Option.some.inj hd'
          rw [← e2, show i = k by omega]
          exact hE
      · rw [upd_ne (Ne.symm Dp')]
        exact p2
      · rw [er]
        exact ax.trans x3
    · rintro H' ⟨acc, ds, s', aD, aA, al, aE, aS, ap, ax⟩
      have le : Ex (rm p (rm D H')) (rm p H') := rm_ex rm_le
      refine r (.list ds) _ s' H' (hP ds s' al aE aS) ⟨⟨g1.b.trans (ax.trans le), _, ap, rfl, dp_ex (ax.trans le) _ _ d1⟩, g1.r.ex (ax.trans le), g1.jj⟩ ((rm_ex (p := p) x1).trans (ax.trans le)) (.lst (SqL.of ?_) (dps_ex le _ _ aA))
      show rm p H' D = some (.lst acc)
      rw [rm_ne Dp']
      exact aD
/-- a list that a def gives, its items tuples: not the state -/
theorem ge_listT {P : PyData → Nat → Prop} {P' : PyData → Prop} (h : DE K te e P') (k : ∀ d, P' d → ∃ ds, d = .list ds ∧ noLs ds = true ∧ (∀ x ∈ ds, ∃ y, x = PyData.tuple y) ∧ P d s) : GE (OS K B p q j nums) te e s P := fun σ H g Q r => h σ H g.rs Q fun d v H' hp x D => by
  obtain ⟨ds, rfl, n, ht, hP⟩ := k d hp
  have g' := g.ex x
  obtain ⟨vs, p1, e1, _⟩ := g'.ob
  have p1 : H' p = some (.lst vs) := p1
  have e1 : vs = [V.ref q, V.int (s : Int)] := e1
  subst e1
  refine r _ v s H' hP g' (rm_ex x) ?_
  show Dp K (rm p H') v _
  cases D with
  | lst hs hA =>
    rename_i a xs
    have ne : xs ≠ [V.ref q, V.int (s : Int)] := by
      rintro rfl
      cases hA with
      | cons h1 h2 =>
        cases h2 with
        | cons h3 h4 =>
          cases h4
          obtain ⟨y, hy⟩ := ht _ (List.mem_cons_of_mem _ (List.mem_cons_self ..))
          subst hy
          cases h3
    refine .lst ?_ (dps_rm p1 n hA)
    rcases hs with hs | hs
    · refine .inl ?_
      have ap : a ≠ p := by
        rintro rfl
        rcases hs with hs | ⟨o, hs⟩
        · rw [p1] at hs
          injection hs with hs
          injection hs with hs
          exact ne hs.symm
        · rw [p1] at hs
          cases hs
      rcases hs with hs | ⟨o, hs⟩
      · exact .inl (by rw [rm_ne ap]; exact hs)
      · exact .inr ⟨o, by rw [rm_ne ap]; exact hs⟩
    · exact .inr hs
/-- a, b, c = a list of three -/
theorem gs_u3L {a b c : Nat} {u : TS} {P : GOut Nat → Prop} (na : a ≠ j) (nb : b ≠ j) (nc : c ≠ j) (h : GE (OS K B p q j nums) te e s fun d (s' : Nat) => ∃ x y z, d = .list [x, y, z] ∧ GS (OS K B p q j nums) u (((e.set a (some x)).set b (some y)).set c (some z)) s' P) :
    GS (OS K B p q j nums) (tSeq (tAsg te (gLst K 3 (gCons (gName a) (gCons (gName b) (gCons (gName c) gNil))))) u) e s P := gs_seq fun σ H D g n k =>
  h σ H g _ fun d v s1 H1 ⟨x, y, z, e1, hP⟩ g1 x1 D1 => by
    subst e1
    cases D1 with
    | lst hs hA =>
      cases hA with
      | cons h1 hA =>
        cases hA with
        | cons h2 hA =>
          cases hA with
          | cons h3 hA =>
            cases hA
            exact ⟨_, _, rfl, Evl.ex_l rm_le hs, rfl, _, _, rfl, _, _, rfl, _, _, rfl, rfl, n _ s1 _ H1 hP (((g1.set na h1).set nb h2).set nc h3) x1⟩
end
end K19
/-! K19W15 -/
set_option Elab.async false
set_option linter.all false
set_option maxRecDepth 100000
set_option maxHeartbeats 4000000
namespace K19
open PySem PySem.Spec PyProof.Rows L2
open Evl (Ex)
local macro_rules | `(tactic| walk_at "bd") => `(tactic| first | assumption | exact Bd.lit (n := 4) rfl | exact Bd.lit (n := 32) rfl | (apply Bd.mul <;> walk_at "bd") | (apply Bd.add <;> walk_at "bd") | (apply Bd.sub <;> walk_at "bd") | (apply Bd.neg; walk_at "bd") | (apply Bd.fdiv; walk_at "bd"))
local macro_rules | `(tactic| walk_at "cm") => `(tactic| (apply cm_of; walk_at "bd"; walk_at "bd"; first | decide | omega))
local macro_rules | `(tactic| walk_at "dv") => `(tactic| first | exact dv_var rfl | exact dv_int | exact dv_str | exact dv_bl | assumption | (apply dv_ix0; walk_at "dv") | (apply dv_ix1; walk_at "dv") | (apply dv_ix2; walk_at "dv") | (apply dv_ix3; walk_at "dv") | (apply dv_add <;> walk_at "dv") | (apply dv_sub <;> walk_at "dv") | (apply dv_mul; walk_at "dv"; walk_at "dv"; walk_at "cm") | (apply dv_neg; walk_at "dv") | (apply dv_lt <;> walk_at "dv") | (apply dv_le <;> walk_at "dv") | (apply dv_gt <;> walk_at "dv") | (apply dv_ge <;> walk_at "dv") | (apply dv_eqI <;> walk_at "dv") | (apply dv_neI <;> walk_at "dv") | (apply dv_t2 <;> walk_at "dv") | (apply dv_t3 <;> walk_at "dv") | (apply dv_t4 <;> walk_at "dv") | (apply dv_abs; walk_at "dv") | (apply dv_intI; walk_at "dv"))
local macro_rules | `(tactic| walk_at "p2") => `(tactic| (apply ds_p2; walk_at "dv"; walk_at "dv"))
local macro_rules | `(tactic| walk_at "p2e") => `(tactic| (apply ds_p2e; walk_at "dv"; walk_at "dv"))
local macro_rules | `(tactic| walk_at "p3") => `(tactic| (apply ds_p3; walk_at "dv"; walk_at "dv"; walk_at "dv"))
local macro_rules | `(tactic| walk_at "set") => `(tactic| (apply ds_set'; walk_at "dv"))
local macro_rules | `(tactic| walk_at "sete") => `(tactic| (apply ds_sete; walk_at "dv"))
local macro_rules | `(tactic| walk_at "ret") => `(tactic| (apply ds_ret'; walk_at "dv"))
section
variable {P : Program} {w : World} {K : PySem.W.Frag} {mg : Str → Option Value} {base : Heap}

abbrev lenR (K : PySem.W.Frag) : List V → Hp → VK → Prop := fun xs H Q => ∃ p ys, xs = [V.ref p] ∧ (SqL K H p ys ∨ SqT K H p ys) ∧ Q (.int ys.length) H
theorem minof_ex {f : Fm} (h : RR f) : ∃ R, MinOf f R := by
  obtain ⟨n, n1, _, _, _, nall⟩ := h.cyc
  refine ⟨rhoN (wd f) (argBest (fun i j => ltF (rhoN (wd f) i f) (rhoN (wd f) j f)) (n - 1)) f, ⟨_, rfl⟩, fun g o => ?_⟩
  obtain ⟨i, hi, rfl⟩ := nall g o
  exact best_ok (fun i => rhoN (wd f) i f) (n - 1) i (by omega)
theorem menu_ne {d : Int} {L : List Fm} (h : DOk d) (hM : Menu d L) : 0 < L.length := by
  obtain ⟨e1, e2, e3⟩ := pF_disc h.2
  rcases h.1 with ⟨a, b⟩ | ⟨a, b, c⟩
  · have hr : Red (pF d) := by
      unfold Red pF
      simp only
      omega
    have := hM.all (pF d) (pF d) (pF_good h).p e1 (pF_good h).f (.inl ⟨by omega, hr, Eqv.refl _⟩)
    exact List.length_pos_of_mem this
  · obtain ⟨w0, w20, wlo, whi⟩ := rt_ok (n := d) (by omega) (by omega)
    have w2 : 2 ≤ rt d := by
      apply Int.not_lt.mp; intro g
      have k := sq_le (x := rt d + 1) (y := 2) (by omega) (by omega) (by omega)
      omega
    obtain ⟨t, ht, hb⟩ : ∃ t, (t = 0 ∨ t = 1) ∧ (rt d - t - d).fmod 2 = 0 := by
      have k := fdm (rt d - d) 2
      have m := fmod_pos (x := rt d - d) (y := 2) (by decide)
      refine ⟨(rt d - d).fmod 2, by omega, ?_⟩
      have e : rt d - (rt d - d).fmod 2 - d = (rt d - d).fdiv 2 * 2 := by omega
      rw [e]
      exact Int.mul_fmod_left _ _
    have k := fdm (rt d - t - d) 2
    rw [hb] at k
    obtain ⟨j, hj⟩ : ∃ j, rt d - t = d + 2 * j := ⟨(rt d - t - d).fdiv 2, by omega⟩
    obtain ⟨c0, hc⟩ : ∃ c0, (rt d - t) * (rt d - t) - 4 * 1 * c0 = d := by
      rw [hj]
      have k4 := fdm d 4
      rcases h.2 with z | z
      · obtain ⟨y, hy⟩ : ∃ y, d = 4 * y := ⟨d.fdiv 4, by omega⟩
        exact ⟨4 * y * y + 4 * y * j + j * j - y, by rw [hy]; grind⟩
      · obtain ⟨y, hy⟩ : ∃ y, d = 4 * y + 1 := ⟨d.fdiv 4, by omega⟩
        exact ⟨4 * y * y + 2 * y + 4 * y * j + j + j * j - y, by rw [hy]; grind⟩
    have hd : disc (⟨1, rt d - t, c0⟩ : Fm) = d := hc
    have rr : RR ⟨1, rt d - t, c0⟩ := ⟨by
      unfold wd
      rw [hd]
      unfold RedI
      simp only
      omega, by rw [hd]; exact c, by omega, by omega⟩
    obtain ⟨R, hR⟩ := minof_ex rr
    have := hM.all ⟨1, rt d - t, c0⟩ R ⟨1, 0, 0, by simp⟩ hd (.inr ⟨by rw [hd]; exact c, by omega, by omega⟩) (.inr ⟨by omega, _, rr, Eqv.refl _, hR⟩)
    exact List.length_pos_of_mem this
theorem bd20_of {x y z t : Int} (e : t = x + y + z) (hx : -82944 * 2 ≤ x ∧ x ≤ 82944 * 2) (hy : -82944 * 2 ≤ y ∧ y ≤ 82944 * 2) (hz : -82944 * 2 ≤ z ∧ z ≤ 82944 * 2) : Bd 20 t := by
  have e20 : (2 : Nat) ^ 20 = 1048576 := by decide
  unfold Bd
  rw [e20, e]
  omega
theorem tri_abs {x y z : Int} (hx : Bd 10 x) (hy : y.natAbs ≤ 9) (hz : z.natAbs ≤ 9) : -82944 ≤ x * y * z ∧ x * y * z ≤ 82944 := by
  have e10 : (2 : Nat) ^ 10 = 1024 := by decide
  unfold Bd at hx
  rw [e10] at hx
  have k := mul_abs (mul_abs (Nat.le_of_lt hx) hy) hz
  clear hx hy hz
  omega
theorem two_in {x : Int} (h : -82944 ≤ x ∧ x ≤ 82944) : -82944 * 2 ≤ x ∧ x ≤ 82944 * 2 := by omega
theorem twice_in {x : Int} (h : -82944 ≤ x ∧ x ≤ 82944) : -82944 * 2 ≤ 2 * x ∧ 2 * x ≤ 82944 * 2 := by omega
theorem both_in {x y : Int} (h : -82944 ≤ x ∧ x ≤ 82944) (k : -82944 ≤ y ∧ y ≤ 82944) : -82944 * 2 ≤ x + y ∧ x + y ≤ 82944 * 2 := by omega
theorem act_small {f : Fm} {m : Mx} (hf : BdF 10 f) (hm : AbM 9 m) : BdF 20 (act f m) := by
  obtain ⟨f1, f2, f3⟩ := hf
  obtain ⟨m1, m2, m3, m4⟩ := hm
  have e : (act f m).b = 2 * (f.a * m.p * m.q) + (f.b * m.p * m.s + f.b * m.q * m.r) + 2 * (f.c * m.r * m.s) := by
    clear f1 f2 f3 m1 m2 m3 m4
    simp only [act]; grind
  have e1 : (act f m).a = f.a * m.p * m.p + f.b * m.p * m.r + f.c * m.r * m.r := rfl
  have e3 : (act f m).c = f.a * m.q * m.q + f.b * m.q * m.s + f.c * m.s * m.s := rfl
  exact ⟨bd20_of e1 (two_in (tri_abs f1 m1 m1)) (two_in (tri_abs f2 m1 m3)) (two_in (tri_abs f3 m3 m3)),
    bd20_of e (twice_in (tri_abs f1 m1 m2)) (both_in (tri_abs f2 m1 m4) (tri_abs f2 m2 m3)) (twice_in (tri_abs f3 m3 m4)),
    bd20_of e3 (two_in (tri_abs f1 m2 m2)) (two_in (tri_abs f2 m2 m4)) (two_in (tri_abs f3 m4 m4))⟩
theorem abm_bd {m : Mx} (h : AbM 9 m) : BdM 900 m := by
  obtain ⟨a1, a2, a3, a4⟩ := h
  have b8 : ∀ {x : Int}, x.natAbs ≤ 9 → Bd 900 x := fun {x} h => Bd.mono (m := 8) (by unfold Bd; omega) (by decide)
  exact ⟨b8 a1, b8 a2, b8 a3, b8 a4⟩
theorem shaped_fms (L : List Fm) : SeqAt.shaped (.list (L.map fmD)) = true := by
  have c : ∀ L : List Fm, PyData.canLayAll0 (L.map fmD) = true := fun L => by
    induction L with
    | nil => simp [PyData.canLayAll0]
    | cons f L ih =>
      have := canLay_ints [f.a, f.b, f.c]
      simp only [List.map_cons, List.map_nil] at this
      simp [PyData.canLayAll0, PyData.canLay0, ih] at this ⊢
  have d : ∀ L : List Fm, PyData.depthAll (L.map fmD) ≤ 2 := fun L => by
    induction L with
    | nil => simp [PyData.depthAll]
    | cons f L ih =>
      have := depth_ints [f.a, f.b, f.c]
      simp only [List.map_cons, List.map_nil] at this
      simp only [List.map_cons, PyData.depthAll, PyData.depth]
      omega
  unfold SeqAt.shaped
  rw [Bool.and_eq_true]
  refine ⟨by simp [PyData.canLay0, c L], decide_eq_true ?_⟩
  have := d L
  simp only [PyData.depth]
  omega
section
variable {B : Hp} {p q : Addr} {j : Nat} {nums : List Int} {e : Env'} {k : Nat}
theorem ge_next {E : XK} {many : Int} {P : PyData → Nat → Prop} (hl : nums.length = 120) (sm : Small nums) (hm : 0 < many) (hk : k ≤ 100000) (h : ∀ r, 0 ≤ r → r < many → P (.int r) (k + 1)) : GE (OS K B p q j nums) (tCall (spLawNext K) [] E (tCons (tVar j) (tCons (tC (.int many)) tNil))) e k P :=
  ge_callS hl sm (ge_v dv_int rfl ⟨many, rfl, ⟨hm, hk⟩, fun k' d' ⟨e1, r, e2, r0, r1⟩ => e1 ▸ e2 ▸ h r r0 r1⟩)
theorem gt_imp {o : Ow K} {s : o.S} {tt : TT} {P Q : Bool → o.S → Prop} (h : GT o tt e s P) (f : ∀ b s', P b s' → Q b s') : GT o tt e s Q := fun σ H g R r => h σ H g R fun b s' H' p => r b s' H' (f b s' p)
end
theorem noLs_fms : ∀ L : List Fm, noLs (L.map fmD) = true
  | [] => rfl
  | f :: L => by
    have := noLs_fms L
    simp only [List.map_cons, noLs, this, Bool.and_true]
    rfl
theorem tup_fms (L : List Fm) : ∀ x ∈ L.map fmD, ∃ y, x = PyData.tuple y := fun x hx => by
  obtain ⟨f, _, rfl⟩ := List.mem_map.mp hx
  exact ⟨_, rfl⟩
theorem any_fms {L : List Fm} {X : Fm} (h : X ∈ L) : (!(L.map fmD).any fun z => PyData.eqv z (fmD X)) = false := by
  rw [List.any_eq_true.mpr ⟨fmD X, List.mem_map.mpr ⟨X, h, rfl⟩, by rw [eqv_fm]; exact decide_eq_true rfl⟩]
  rfl
theorem fm_fm {f g f' g' : Fm} (h : ([fmD f, fmD g] : List PyData) = [fmD f', fmD g']) : f = f' ∧ g = g' := by
  injection h with h1 h2
  injection h2 with h2 _
  have one : ∀ {a b : Fm}, fmD a = fmD b → a = b := fun {a b} h => by
    injection h with h
    injection h with a1 h
    injection h with a2 h
    injection h with a3 _
    injection a1 with a1
    injection a2 with a2
    injection a3 with a3
    exact Fm.ext' a1 a2 a3
  exact ⟨one h1, one h2⟩
section
variable {env : Env'} {ta tb : TE} {tr : TA} {E : XK} {D : Int}
theorem de_cmpE {A : Fm → Fm → Prop} (ha : DA K tr env fun z => ∃ f g, z = [fmD f, fmD g] ∧ A f g) (hA : ∀ f g, A f g → BdF 20 f ∧ BdF 20 g ∧ Good D f ∧ Good D g) : DE K (tOp (rIxT K) (tCall (spCompose K) [] E tr) (tC (.int 0))) env fun z => ∃ R, z = fmD R ∧ ∃ f g, A f g ∧ CP f g R :=
  de_ix0 (de_callE (α := Fm × Fm) _ ha (fun ds ⟨f, g, e, a⟩ => ⟨(f, g), e, rfl, (hA f g a).1, (hA f g a).2.1, by rw [(hA f g a).2.2.1.d]; exact (hA f g a).2.2.1, by rw [(hA f g a).2.2.1.d]; exact (hA f g a).2.2.2⟩) fun ds ⟨f, g, e, a⟩ ⟨f', g'⟩ z he ⟨R, w, ez, _, c⟩ => by
    have he : ds = [fmD f', fmD g'] := he
    rw [e] at he
    obtain ⟨rfl, rfl⟩ := fm_fm he
    exact ⟨_, _, ez, R, rfl, f, g, a, c⟩)
theorem de_cmp0 {f g : Fm} (bf : BdF 20 f) (bg : BdF 20 g) (gf : Good D f) (gg : Good D g) (ha : DA K tr env fun z => z = [fmD f, fmD g]) : DE K (tOp (rIxT K) (tCall (spCompose K) [] E tr) (tC (.int 0))) env fun z => ∃ R, z = fmD R ∧ CP f g R :=
  DE.imp (de_cmpE (D := D) (A := fun a b => a = f ∧ b = g) (DA.imp ha fun z e => ⟨f, g, e, rfl, rfl⟩) fun a b ⟨e1, e2⟩ => by subst e1 e2; exact ⟨bf, bg, gf, gg⟩) fun z ⟨R, e, a, b, ⟨e1, e2⟩, c⟩ => ⟨R, e, by subst e1 e2; exact c⟩
theorem dt_neE {A A' : Fm → Prop} (ha : DE K ta env fun z => ∃ R, z = fmD R ∧ A R) (hb : DE K tb env fun z => ∃ R, z = fmD R ∧ A' R) (h : ∀ R R', A R → A' R' → R = R') : DT K (tTest (tOp (rNeD K) ta tb)) env false :=
  dt_test (de_neD (DE.imp ha fun z ⟨R, e, a⟩ => by
    subst e
    exact ⟨shaped_fm R, DE.imp hb fun z ⟨R', e', a'⟩ => by
      subst e'
      refine ⟨shaped_fm R', ?_⟩
      rw [h R R' a a', eqv_fm, decide_eq_true rfl]
      rfl⟩))
theorem de_oppE {A : Fm → Prop} (ha : DA K tr env fun z => ∃ f, z = [fmD f] ∧ A f) (hA : ∀ f, A f → BdF 250 f ∧ Fine f) : DE K (tCall (spOpposite K) [] E tr) env fun z => ∃ R, z = fmD R ∧ ∃ f, A f ∧ Can (oppF f) R :=
  de_callE (α := Fm) _ ha (fun ds ⟨f, e, a⟩ => ⟨f, e, rfl, hA f a⟩) fun ds ⟨f, e, a⟩ f' z he ⟨R, ez, c⟩ => by
    have he : ds = [fmD f'] := he
    rw [e] at he
    have he2 : ([fmD f, fmD f] : List PyData) = [fmD f', fmD f'] := by
      injection he with h1 _
      rw [h1]
    obtain ⟨rfl, _⟩ := fm_fm he2
    exact ⟨R, ez, f, a, c⟩
theorem dv_eqF {f g : Fm} (ha : Dv K ta env (fmD f)) (hb : Dv K tb env (fmD g)) : Dv K (tOp (rEqD K) ta tb) env (.bool (decide (f = g))) :=
  de_eqD (DE.imp ha fun d e => by
    subst e
    exact ⟨shaped_fm f, DE.imp hb fun d e => by
      subst e
      exact ⟨shaped_fm g, by rw [eqv_fm]⟩⟩)
theorem dv_is {X : Fm} (h : Dv K ta env (fmD X)) : DE K ta env fun z => ∃ R, z = fmD R ∧ R = X := Dv.to h ⟨X, rfl, rfl⟩
end
section
variable {o : Ow K} {e : Env'} {s : o.S} {P : GOut o.S → Prop} {tt : TT} {t u : TS}
theorem gs_no (h : DT K tt e false) (k : GS o u e s P) : GS o (tSeq (tIfS tt t tNext) u) e s P := gs_seq (gs_if h (fun h => by cases h) fun _ => gs_nil (gs_then k))
theorem gs_env {e' : Env'} (h : e = e') (k : GS o u e' s P) : GS o u e s P := h ▸ k
end
abbrev spLaw (K : PySem.W.Frag) : Sp := spA K 1 (fun ns : List Int => [.list (ns.map .int)]) (fun _ => True) fun _ z => z = .bool true
theorem okLaw (T : Tx K mg) : FnOk P w K mg base CX0 9 T.xLaw.f T.xLaw.fd ["_law_script"] (spLaw K) := by
  have GCompose : FnOk P w K mg base CX0 6 T.xCompose.f T.xCompose.fd ["form", "other"] (spCompose K) := okCompose T
  have GClassOrder : FnOk P w K mg base CX0 7 T.xClassOrder.f T.xClassOrder.fd ["form"] (spClassOrder K) := okClassOrder T
  have GLawAct : FnOk P w K mg base CX0 2 T.xLawAct.f T.xLawAct.fd ["_law_form_here", "_law_m"] (spLawAct K) := okLawAct T
  have GLawChange : FnOk P w K mg base CX0 2 T.xLawChange.f T.xLawChange.fd ["_law_state_here", "_law_many"] (spLawChange K) := okLawChange T
  have GClassPower : FnOk P w K mg base CX0 8 T.xClassPower.f T.xClassPower.fd ["form", "many"] (spClassPower K) := okClassPower T
  have GOpposite : FnOk P w K mg base CX0 6 T.xOpposite.f T.xOpposite.fd ["form"] (spOpposite K) := okOpposite T
  have GLawNext : FnOk P w K mg base CX0 1 T.xLawNext.f T.xLawNext.fd ["_law_state_here", "_law_many"] (spLawNext K) := okLawNext T
  have GPrincipal : FnOk P w K mg base CX0 6 T.xPrincipal.f T.xPrincipal.fd ["d"] (spPrincipal K) := okPrincipal T
  have GClasses : FnOk P w K mg base CX0 6 T.xClasses.f T.xClasses.fd ["d"] (spClasses K) := okClasses T
  have GLawSquare : FnOk P w K mg base CX0 2 T.xLawSquare.f T.xLawSquare.fd ["_law_n"] (spLawSquare K) := okLawSquare T
  have GLawState : FnOk P w K mg base CX0 2 T.xLawState.f T.xLawState.fd ["_law_script"] (spLawState K) := okLawState T
  refine fn_dataA T.xLaw.F scLaw rfl fun cdv A outer s H E hr => ⟨_, (pss_cons (ps_set (i := 1) scLaw.nd rfl (Or.inr rfl) (pe_call GLawState (hr.mono (by decide)) (by rfl) T.xLawState.g T.xLawState.F.kp T.xLawState.b .nil pass0 (pa_cons (pv 0) pa_nil))) (pss_cons (ps_set (i := 2) scLaw.nd rfl (Or.inl rfl) (pe_ix (r := rIxL K) ix_list (pe_lst (pa_cons (pe_op op_add (pe_op op_mulW pe_int (pe_op op_add pe_int (pe_call GLawNext (hr.mono (by decide)) (by rfl) T.xLawNext.g T.xLawNext.F.kp T.xLawNext.b .nil pass0 (pa_cons (pv 1) (pa_cons pe_int pa_nil))))) (pe_call GLawNext (hr.mono (by decide)) (by rfl) T.xLawNext.g T.xLawNext.F.kp T.xLawNext.b .nil pass0 (pa_cons (pv 1) (pa_cons pe_int pa_nil)))) (pa_cons (pe_op op_sub (pe_op op_sub pe_int (pe_op op_mulW pe_int (pe_op op_add pe_int (pe_call GLawNext (hr.mono (by decide)) (by rfl) T.xLawNext.g T.xLawNext.F.kp T.xLawNext.b .nil pass0 (pa_cons (pv 1) (pa_cons pe_int pa_nil)))))) (pe_call GLawNext (hr.mono (by decide)) (by rfl) T.xLawNext.g T.xLawNext.F.kp T.xLawNext.b .nil pass0 (pa_cons (pv 1) (pa_cons pe_int pa_nil)))) pa_nil))) (pe_call GLawNext (hr.mono (by decide)) (by rfl) T.xLawNext.g T.xLawNext.F.kp T.xLawNext.b .nil pass0 (pa_cons (pv 1) (pa_cons pe_int pa_nil))) (fun _ _ => rfl))) (pss_cons (ps_if (PW.pt (pw_and (pt_cmpR op_gt (pv 2) pe_int (nomark _)) (pw_and1 (pt_val (pe_call GLawSquare (hr.mono (by decide)) (by rfl) T.xLawSquare.g T.xLawSquare.F.kp T.xLawSquare.b .nil pass0 (pa_cons (pv 2) pa_nil)))))) (pss_one (ps_ret pe_bl)) pss_nil) (pss_cons (ps_set (i := 3) scLaw.nd rfl (Or.inr rfl) (pe_call GClasses (hr.mono (by decide)) (by rfl) T.xClasses.g T.xClasses.F.kp T.xClasses.b .nil pass0 (pa_cons (pv 2) pa_nil))) (pss_cons (ps_asg (pe_lc (own := [("_law_k", 4)]) (g := gName 4) (tt := tYes) (by rfl) scLaw.nd (pi_range1 (by rfl) T.range (pa_cons pe_int pa_nil)) (blkOk_by (by rfl)) (fun _ _ _ _ _ => (pg_name (i := 4) scLaw.nd rfl (Or.inl rfl))) (fun _ _ _ _ _ => pts_nil) (fun _ _ _ _ _ => (pe_ix (r := rIxL K) ix_list (pv 3) (pe_call GLawNext (hr.mono (by decide)) (by rfl) T.xLawNext.g T.xLawNext.F.kp T.xLawNext.b .nil pass0 (pa_cons (pv 1) (pa_cons (pe_callB (r := lenR K) call_len_seq (by rfl) T.len PySem.boot_len (pa_cons (pv 3) pa_nil)) pa_nil))) (fun _ _ => rfl)))) (pg_lst rfl (pgs_cons (pg_name (i := 5) scLaw.nd rfl (Or.inl rfl)) (pgs_cons (pg_name (i := 6) scLaw.nd rfl (Or.inl rfl)) (pgs_cons (pg_name (i := 7) scLaw.nd rfl (Or.inl rfl)) pgs_nil))))) (pss_cons (ps_set (i := 8) scLaw.nd rfl (Or.inl rfl) (pe_call GPrincipal (hr.mono (by decide)) (by rfl) T.xPrincipal.g T.xPrincipal.F.kp T.xPrincipal.b .nil pass0 (pa_cons (pv 2) pa_nil))) (pss_cons (ps_set (i := 9) scLaw.nd rfl (Or.inl rfl) (pe_ix (r := rIxT K) ix_tup (pe_call GCompose (hr.mono (by decide)) (by rfl) T.xCompose.g T.xCompose.F.kp T.xCompose.b .nil pass0 (pa_cons (pv 5) (pa_cons (pv 6) pa_nil))) pe_int (fun _ _ => rfl))) (pss_cons (ps_if (PW.pt (pw_or (pt_cmpR (op_notInD (Nat.lt_of_le_of_lt (Nat.le_refl _) (hr65 hr))) (pv 9) (pv 3) (by rfl)) (pw_or (pt_cmpR (op_neD hr.units) (pe_ix (r := rIxT K) ix_tup (pe_call GCompose (hr.mono (by decide)) (by rfl) T.xCompose.g T.xCompose.F.kp T.xCompose.b .nil pass0 (pa_cons (pv 6) (pa_cons (pv 5) pa_nil))) pe_int (fun _ _ => rfl)) (pv 9) (nomark _)) (pw_or1 (pt_cmpR (op_neD hr.units) (pe_ix (r := rIxT K) ix_tup (pe_call GCompose (hr.mono (by decide)) (by rfl) T.xCompose.g T.xCompose.F.kp T.xCompose.b .nil pass0 (pa_cons (pe_call GLawAct (hr.mono (by decide)) (by rfl) T.xLawAct.g T.xLawAct.F.kp T.xLawAct.b .nil pass0 (pa_cons (pv 5) (pa_cons (pe_call GLawChange (hr.mono (by decide)) (by rfl) T.xLawChange.g T.xLawChange.F.kp T.xLawChange.b .nil pass0 (pa_cons (pv 1) (pa_cons pe_int pa_nil))) pa_nil))) (pa_cons (pv 6) pa_nil))) pe_int (fun _ _ => rfl)) (pv 9) (nomark _)))))) (pss_one (ps_ret pe_bl)) pss_nil) (pss_cons (ps_if (pt_cmpR (op_neD hr.units) (pe_ix (r := rIxT K) ix_tup (pe_call GCompose (hr.mono (by decide)) (by rfl) T.xCompose.g T.xCompose.F.kp T.xCompose.b .nil pass0 (pa_cons (pv 9) (pa_cons (pv 7) pa_nil))) pe_int (fun _ _ => rfl)) (pe_ix (r := rIxT K) ix_tup (pe_call GCompose (hr.mono (by decide)) (by rfl) T.xCompose.g T.xCompose.F.kp T.xCompose.b .nil pass0 (pa_cons (pv 5) (pa_cons (pe_ix (r := rIxT K) ix_tup (pe_call GCompose (hr.mono (by decide)) (by rfl) T.xCompose.g T.xCompose.F.kp T.xCompose.b .nil pass0 (pa_cons (pv 6) (pa_cons (pv 7) pa_nil))) pe_int (fun _ _ => rfl)) pa_nil))) pe_int (fun _ _ => rfl)) (nomark _)) (pss_one (ps_ret pe_bl)) pss_nil) (pss_cons (ps_if (PW.pt (pw_or (pt_cmpR (op_neD hr.units) (pe_ix (r := rIxT K) ix_tup (pe_call GCompose (hr.mono (by decide)) (by rfl) T.xCompose.g T.xCompose.F.kp T.xCompose.b .nil pass0 (pa_cons (pv 5) (pa_cons (pv 8) pa_nil))) pe_int (fun _ _ => rfl)) (pv 5) (nomark _)) (pw_or (pt_cmpR (op_neD hr.units) (pe_ix (r := rIxT K) ix_tup (pe_call GCompose (hr.mono (by decide)) (by rfl) T.xCompose.g T.xCompose.F.kp T.xCompose.b .nil pass0 (pa_cons (pv 5) (pa_cons (pe_call GOpposite (hr.mono (by decide)) (by rfl) T.xOpposite.g T.xOpposite.F.kp T.xOpposite.b .nil pass0 (pa_cons (pv 5) pa_nil)) pa_nil))) pe_int (fun _ _ => rfl)) (pv 8) (nomark _)) (pw_or1 (pt_cmpR (op_neD hr.units) (pe_call GOpposite (hr.mono (by decide)) (by rfl) T.xOpposite.g T.xOpposite.F.kp T.xOpposite.b .nil pass0 (pa_cons (pe_call GOpposite (hr.mono (by decide)) (by rfl) T.xOpposite.g T.xOpposite.F.kp T.xOpposite.b .nil pass0 (pa_cons (pv 5) pa_nil)) pa_nil)) (pv 5) (nomark _)))))) (pss_one (ps_ret pe_bl)) pss_nil) (pss_cons (ps_set (i := 10) scLaw.nd rfl (Or.inl rfl) (pe_ix (r := rIxL K) ix_list (pe_lst (pa_cons (pe_call GLawNext (hr.mono (by decide)) (by rfl) T.xLawNext.g T.xLawNext.F.kp T.xLawNext.b .nil pass0 (pa_cons (pv 1) (pa_cons pe_int pa_nil))) (pa_cons (pe_call GLawNext (hr.mono (by decide)) (by rfl) T.xLawNext.g T.xLawNext.F.kp T.xLawNext.b .nil pass0 (pa_cons (pv 1) (pa_cons pe_int pa_nil))) pa_nil))) (pe_callTy call_int1 (by rfl) T.int (by decide +kernel) (pa_cons (pe_cmpR op_eq (pe_call GLawNext (hr.mono (by decide)) (by rfl) T.xLawNext.g T.xLawNext.F.kp T.xLawNext.b .nil pass0 (pa_cons (pv 1) (pa_cons pe_int pa_nil))) pe_int (nomark _)) pa_nil)) (fun _ _ => rfl))) (pss_cons (ps_set (i := 11) scLaw.nd rfl (Or.inl rfl) (pv 8)) (pss_cons (ps_for PassesOwn.never rfl (pi_range1 (by rfl) T.range (pa_cons (pv 10) pa_nil)) (pg_name (i := 4) scLaw.nd rfl (Or.inl rfl)) (pss_one (ps_set (i := 11) scLaw.nd rfl (Or.inl rfl) (pe_ix (r := rIxT K) ix_tup (pe_call GCompose (hr.mono (by decide)) (by rfl) T.xCompose.g T.xCompose.F.kp T.xCompose.b .nil pass0 (pa_cons (pv 11) (pa_cons (pv 5) pa_nil))) pe_int (fun _ _ => rfl))))) (pss_cons (ps_set (i := 12) scLaw.nd rfl (Or.inl rfl) (pe_call GLawAct (hr.mono (by decide)) (by rfl) T.xLawAct.g T.xLawAct.F.kp T.xLawAct.b .nil pass0 (pa_cons (pv 5) (pa_cons (pe_call GLawChange (hr.mono (by decide)) (by rfl) T.xLawChange.g T.xLawChange.F.kp T.xLawChange.b .nil pass0 (pa_cons (pv 1) (pa_cons pe_int pa_nil))) pa_nil)))) (pss_cons (ps_if (PW.pt (pw_or (pt_cmpR (op_neD hr.units) (pe_call GClassPower (hr.mono (by decide)) (by rfl) T.xClassPower.g T.xClassPower.F.kp T.xClassPower.b .nil pass0 (pa_cons (pv 12) (pa_cons (pv 10) pa_nil))) (pv 11) (nomark _)) (pw_or1 (pt_cmpR (op_neD hr.units) (pe_call GClassPower (hr.mono (by decide)) (by rfl) T.xClassPower.g T.xClassPower.F.kp T.xClassPower.b .nil pass0 (pa_cons (pv 12) (pa_cons (pe_un un_neg (pv 10)) pa_nil))) (pe_call GOpposite (hr.mono (by decide)) (by rfl) T.xOpposite.g T.xOpposite.F.kp T.xOpposite.b .nil pass0 (pa_cons (pv 11) pa_nil)) (nomark _))))) (pss_one (ps_ret pe_bl)) pss_nil) (pss_cons (ps_set (i := 13) scLaw.nd rfl (Or.inl rfl) (pe_call GClassOrder (hr.mono (by decide)) (by rfl) T.xClassOrder.g T.xClassOrder.F.kp T.xClassOrder.b .nil pass0 (pa_cons (pe_call GLawAct (hr.mono (by decide)) (by rfl) T.xLawAct.g T.xLawAct.F.kp T.xLawAct.b .nil pass0 (pa_cons (pv 5) (pa_cons (pe_call GLawChange (hr.mono (by decide)) (by rfl) T.xLawChange.g T.xLawChange.F.kp T.xLawChange.b .nil pass0 (pa_cons (pv 1) (pa_cons pe_int pa_nil))) pa_nil))) pa_nil))) (pss_cons (ps_if (PW.pt (pw_or (pt_cmpR op_lt (pv 13) pe_int (nomark _)) (pw_or1 (pt_cmpR op_gt (pv 13) (pe_callB (r := lenR K) call_len_seq (by rfl) T.len PySem.boot_len (pa_cons (pv 3) pa_nil)) (nomark _))))) (pss_one (ps_ret pe_bl)) pss_nil) (pss_cons (ps_set (i := 14) scLaw.nd rfl (Or.inl rfl) (pv 5)) (pss_cons (ps_for PassesOwn.never rfl (pi_range2 (by rfl) T.range (pa_cons pe_int (pa_cons (pv 13) pa_nil))) (pg_name (i := 4) scLaw.nd rfl (Or.inl rfl)) (pss_cons (ps_if (pt_cmpR (op_eqD hr.units) (pv 14) (pv 8) (nomark _)) (pss_one (ps_ret pe_bl)) pss_nil) (pss_one (ps_set (i := 14) scLaw.nd rfl (Or.inl rfl) (pe_ix (r := rIxT K) ix_tup (pe_call GCompose (hr.mono (by decide)) (by rfl) T.xCompose.g T.xCompose.F.kp T.xCompose.b .nil pass0 (pa_cons (pv 14) (pa_cons (pv 5) pa_nil))) pe_int (fun _ _ => rfl)))))) (pss_one (ps_ret (pe_cmpR (op_eqD hr.units) (pv 14) (pv 8) (nomark _))))))))))))))))))))))), fun ns hp => ?_⟩
  refine ds_state (j := 1) (ns := ns) (by show 1 < 15; decide) (dv_var rfl) fun B p q nums hl sm => ?_
  refine gs_seq (gs_set (show (2 : Nat) ≠ 1 by decide) ?_)
  refine ge_ixL (ge_lst (ga_cons (ge_I0 (ge_I (ge_v dv_int rfl ⟨4, rfl, ge_I0 (ge_v dv_int rfl ⟨2, rfl, ge_next hl sm (by decide) (by decide) fun a a0 a1 => ⟨a, rfl, 2 + a, rfl, ?_, _, rfl, ge_next hl sm (by decide) (by decide) fun b b0 b1 => ⟨b, rfl, ?_⟩⟩⟩)⟩)))))
  · exact cm_of (a := 4) (b := 8) (Bd.lit rfl) (by unfold Bd; omega) (by decide)
  refine ga_cons (ge_I0 (ge_I0 (ge_v dv_int rfl ⟨1, rfl, ge_I (ge_v dv_int rfl ⟨4, rfl, ge_I0 (ge_v dv_int rfl ⟨1, rfl, ge_next hl sm (by decide) (by decide) fun a' a0' a1' => ⟨a', rfl, 1 + a', rfl, ?_, _, rfl, _, rfl, ge_next hl sm (by decide) (by decide) fun b' b0' b1' => ⟨b', rfl, ?_⟩⟩⟩)⟩)⟩)))
  · exact cm_of (a := 4) (b := 8) (Bd.lit rfl) (by unfold Bd; omega) (by decide)
  refine ga_nil ⟨by show 2 ≤ 1000; decide, _, rfl, ge_next hl sm (by decide) (by decide) fun r r0 r1 => ?_⟩
  obtain ⟨D, hD, hat, hmod⟩ : ∃ D, ((8 ≤ D ∧ D ≤ 297) ∨ (-296 ≤ D ∧ D < 0)) ∧ ([.int (4 * (2 + a) + b), .int (1 - 4 * (1 + a') - b')] : List PyData)[r.toNat]? = some (.int D) ∧ (D.fmod 4 = 0 ∨ D.fmod 4 = 1) := by
    have fm : ∀ D : Int, (∃ y, D = 4 * y ∨ D = 4 * y + 1) → D.fmod 4 = 0 ∨ D.fmod 4 = 1 := fun D ⟨y, h⟩ => by
      have k := fdm D 4
      have m := fmod_pos (x := D) (y := 4) (by decide)
      omega
    rcases show r = 0 ∨ r = 1 by omega with rfl | rfl
    · exact ⟨4 * (2 + a) + b, .inl (by omega), rfl, fm _ ⟨2 + a, by omega⟩⟩
    · refine ⟨1 - 4 * (1 + a') - b', .inr (by omega), rfl, fm _ ?_⟩
      rcases show b' = 0 ∨ b' = 1 by omega with rfl | rfl
      · exact ⟨-(1 + a'), by omega⟩
      · exact ⟨-(1 + a'), by omega⟩
  refine ⟨r.toNat, .int D, by rw [show ((r.toNat : Nat) : Int) = r by omega], hat, gs_then ?_⟩
  clear hat
  refine gs_seq (gs_ifG (gt_imp (P := fun b s1 => s1 = (0 + 1 + 1 + 1 + 1 + 1 : Nat) ∧ (b = false → DOk D)) ?_ fun b s1 h => ?_))
  · refine gt_and ?_
    rcases hD with hD | hD
    · refine gt_pure (DT.to (dt_test (dv_gt (dv_var rfl) dv_int)) (decide_eq_true (show 0 < D by omega))) ?_
      refine gt_B (ge_pure (de_callA D rfl ⟨by omega, by omega⟩ (das1 (dv_var rfl)) fun z h => h) fun z hz => ?_)
      obtain ⟨b, rfl, hb⟩ := hz
      exact ⟨rfl, b, rfl, rfl, fun h => ⟨.inr ⟨by omega, by omega, hb h⟩, hmod⟩⟩
    · refine gt_pure (DT.to (dt_test (dv_gt (dv_var rfl) dv_int)) (decide_eq_false (show ¬ 0 < D by omega))) ?_
      exact ⟨rfl, fun _ => ⟨.inl ⟨by omega, by omega⟩, hmod⟩⟩
  obtain ⟨rfl, hb⟩ := h
  cases b with
  | true => exact gs_ret (ge_v dv_bl rfl rfl)
  | false =>
  have dok := hb rfl
  refine gs_nil (gs_then ?_)
  refine gs_seq (gs_set (show (3 : Nat) ≠ 1 by decide) (ge_listT (de_callA D rfl dok (das1 (dv_var rfl)) fun z h => h) fun z hz => ?_))
  obtain ⟨L, rfl, hM⟩ := hz
  refine ⟨L.map fmD, rfl, noLs_fms L, tup_fms L, gs_then ?_⟩
  have hne := menu_ne dok hM
  have few := hM.few
  refine gs_u3L (a := 5) (b := 6) (c := 7) (show (5 : Nat) ≠ 1 by decide) (show (6 : Nat) ≠ 1 by decide) (show (7 : Nat) ≠ 1 by decide) (ge_lcS (n := 3) (St := fun k s => s = 5 + k) (E := fun _ d => ∃ f ∈ L, d = fmD f) (show (4 : Nat) ≠ 1 by decide) dv_int (by decide) rfl (fun k s hk hs => ?_) fun ds s' h1 h2 h3 => ?_)
  · have hlen : ((L.map fmD).length : Int) = (L.length : Int) := by rw [List.length_map]
    refine ge_ixL (ge_var (d := .list (L.map fmD)) rfl ⟨_, rfl, ge_callS hl sm (ge_len (ge_var (d := .list (L.map fmD)) rfl ⟨_, rfl, _, rfl, ⟨by rw [hlen]; omega, by omega⟩, fun k' d' hd => ?_⟩))⟩)
    obtain ⟨ek, r, rfl, r0, r1⟩ := hd
    rw [hlen] at r1
    have hr : r.toNat < L.length := by omega
    exact ⟨r.toNat, fmD L[r.toNat], by rw [show ((r.toNat : Nat) : Int) = r by omega], by rw [List.getElem?_map, List.getElem?_eq_getElem hr]; rfl, ⟨_, List.getElem_mem hr, rfl⟩, rfl, by rw [ek, hs]; omega⟩
  obtain ⟨x, y, z, rfl⟩ : ∃ x y z, ds = [x, y, z] := by
    match ds, h1 with
    | [x, y, z], _ => exact ⟨x, y, z, rfl⟩
  obtain ⟨f1, m1, rfl⟩ := h2 0 x rfl
  obtain ⟨f2, m2, rfl⟩ := h2 1 y rfl
  obtain ⟨f3, m3, rfl⟩ := h2 2 z rfl
  refine ⟨_, _, _, rfl, ?_⟩
  have h3 : s' = 8 := h3
  subst h3
  refine gs_env (e' := [some (.list (ns.map .int)), none, some (.int D), some (.list (L.map fmD)), none, some (fmD f1), some (fmD f2), some (fmD f3), none, none, none, none, none, none, none]) rfl ?_
  have G : ∀ f ∈ L, Good D f ∧ Can f f ∧ BdF 10 f ∧ BdF 20 f := fun f hf => by
    obtain ⟨a, b, c, d, e⟩ := hM.each f hf
    exact ⟨⟨a, b, c⟩, d, e, e.mono (by decide)⟩
  obtain ⟨g1, c1, s1', b1⟩ := G f1 m1
  obtain ⟨g2, c2, s2, b2⟩ := G f2 m2
  obtain ⟨g3, c3, s3, b3⟩ := G f3 m3
  refine gs_seq (gs_set (show (8 : Nat) ≠ 1 by decide) (ge_pure (de_callA D rfl dok (das1 (dv_var rfl)) fun z h => h) fun z hz => ?_))
  obtain ⟨E0, rfl, cE⟩ := hz
  refine ⟨rfl, gs_then ?_⟩
  have gE := (pF_good dok).eqv (can_eqv cE)
  have bE : BdF 20 E0 := (can_small (pF_good dok) cE).mono (by decide)
  refine gs_seq (gs_set (show (9 : Nat) ≠ 1 by decide) (ge_pure (de_cmp0 b1 b2 g1 g2 (das2 (dv_var rfl) (dv_var rfl))) fun z hz => ?_))
  obtain ⟨X, rfl, cX⟩ := hz
  refine ⟨rfl, gs_then ?_⟩
  obtain ⟨gX, kX⟩ := cp_good g1 g2 cX
  have bX : BdF 20 X := (cp_small g1 g2 cX).mono (by decide)
  have mX : X ∈ L := hM.all _ _ gX.p gX.d gX.f kX
  refine gs_env (e' := [some (.list (ns.map .int)), none, some (.int D), some (.list (L.map fmD)), none, some (fmD f1), some (fmD f2), some (fmD f3), some (fmD E0), some (fmD X), none, none, none, none, none]) rfl ?_
  refine gs_seq (gs_ifG (gt_imp (P := fun b s1 => b = false ∧ ∃ s : Nat, s1 = s ∧ s ≤ 100) ?_ fun b s1 h => ?_))
  · refine gt_or (gt_test (ge_notIn (ge_v (dv_var rfl) rfl ⟨shaped_fm X, ge_var (d := .list (L.map fmD)) rfl ⟨_, rfl, shaped_fms L, false, by rw [any_fms mX], ?_⟩⟩)))
    refine gt_or (gt_pure (dt_neE (de_cmp0 b2 b1 g2 g1 (das2 (dv_var rfl) (dv_var rfl))) (dv_is (dv_var rfl)) fun R R' a e => ?_) ?_)
    · rw [e]
      exact cp_one g1 (Eqv.refl _) (Eqv.refl _) (cp_comm a) cX
    · refine gt_test (ge_neD (ge_ixT (n := 0) (ge_call (ga_cons (ge_call (ga_cons (ge_v (dv_var rfl) rfl (ga_cons (ge_callS hl sm (ge_v dv_int rfl ⟨2, rfl, ⟨rfl, by decide⟩, fun k' d' hd => ?_⟩))))))))))
      obtain ⟨hk, m, rfl, dm, am⟩ := hd
      refine ga_nil ⟨(f1, m), rfl, rfl, ⟨b1.mono (by decide), ?_⟩, fun z hz => ?_⟩
      · exact abm_bd am
      · subst hz
        have e1 : Eqv f1 (act f1 m) := ⟨m, dm, rfl⟩
        have ga := g1.eqv e1
        refine ⟨rfl, ga_cons (ge_v (dv_var rfl) rfl (ga_nil ⟨(act f1 m, f2), rfl, rfl, ⟨act_small s1' am, b2, by show Good (disc (act f1 m)) _; rw [ga.d]; exact ga, by show Good (disc (act f1 m)) _; rw [ga.d]; exact g2⟩, fun z hz => ?_⟩))⟩
        obtain ⟨R, w', rfl, nw, cR⟩ := hz
        refine ⟨by simp [noL, noLs, nw], _, _, rfl, rfl, shaped_fm R, ge_v (dv_var rfl) rfl ⟨shaped_fm X, false, ?_, rfl, k', rfl, by omega⟩⟩
        rw [cp_one ga e1.symm (Eqv.refl _) cR cX, eqv_fm, decide_eq_true rfl]
        rfl
  obtain ⟨rfl, s', rfl, hs'⟩ := h
  refine gs_nil (gs_then ?_)
  refine gs_no (dt_neE (de_cmp0 bX b3 gX g3 (das2 (dv_var rfl) (dv_var rfl))) (de_cmpE (D := D) (A := fun a b => a = f1 ∧ CP f2 f3 b) (da_v (dv_var rfl) (da_cons (DE.imp (de_cmp0 b2 b3 g2 g3 (das2 (dv_var rfl) (dv_var rfl))) fun z ⟨R, e, c⟩ => da_nil ⟨f1, R, by rw [e], rfl, c⟩))) fun a b h => ?_) fun R R' a h => ?_) ?_
  · obtain ⟨rfl, c⟩ := h
    exact ⟨b1, (cp_small g2 g3 c).mono (by decide), g1, (cp_good g2 g3 c).1⟩
  · obtain ⟨f, g, ⟨rfl, c⟩, c'⟩ := h
    exact cp_assoc g1 g2 g3 cX a c c'
  have gO := opp_good g1
  refine gs_no (DT.to (dt_or (dt_neE (de_cmp0 b1 bE g1 gE (das2 (dv_var rfl) (dv_var rfl))) (dv_is (dv_var rfl)) fun R R' a e => ?_) fun _ => dt_or (dt_neE (de_cmpE (D := D) (A := fun a b => a = f1 ∧ Can (oppF f1) b) (da_v (dv_var rfl) (da_cons (de_callA f1 rfl ⟨b1.mono (by decide), g1.f⟩ (das1 (dv_var rfl)) fun z ⟨O, e, c⟩ => da_nil ⟨f1, O, by rw [e], rfl, c⟩))) fun a b h => ?_) (dv_is (dv_var rfl)) fun R R' h e => ?_) fun _ =>
    dt_neE (de_oppE (A := fun b => Can (oppF f1) b) (da_cons (de_callA f1 rfl ⟨b1.mono (by decide), g1.f⟩ (das1 (dv_var rfl)) fun z ⟨O, e, c⟩ => da_nil ⟨O, by rw [e], c⟩)) fun b h => ?_) (dv_is (dv_var rfl)) fun R R' h e => ?_) rfl) ?_
  · rw [e]
    exact can_one (cp_id dok g1 cE a) (cp_good g1 gE a).2 c1
  · obtain ⟨rfl, c⟩ := h
    exact ⟨b1, (can_small gO c).mono (by decide), g1, gO.eqv (can_eqv c)⟩
  · obtain ⟨f, g, ⟨rfl, c⟩, c'⟩ := h
    rw [e]
    exact cp_inv dok g1 c cE c'
  · exact ⟨(can_small gO h).mono (by decide), (gO.eqv (can_eqv h)).f⟩
  · obtain ⟨f, c, c'⟩ := h
    rw [e]
    exact opp_canon c1 c c'
  refine gs_seq (gs_set (show (10 : Nat) ≠ 1 by decide) (ge_ixL (ge_lst (ga_cons (ge_next hl sm (by decide) (by omega) fun n n0 n1 => ga_cons (ge_next hl sm (by decide) (by omega) fun n' n0' n1' => ga_nil ⟨by show 2 ≤ 1000; decide, _, rfl, ge_intB (ge_eqI (ge_next hl sm (by decide) (by omega) fun r r0 r1 => ⟨r, rfl, ge_v dv_int rfl ⟨0, rfl, _, rfl, ?_⟩⟩))⟩))))))
  obtain ⟨i, t, ei, hi, t0, t1⟩ : ∃ (i : Nat) (t : Int), (if decide (r = 0) = true then (1 : Int) else 0) = (i : Int) ∧ ([.int n, .int n'] : List PyData)[i]? = some (.int t) ∧ 0 ≤ t ∧ t ≤ 60 := by
    by_cases h : r = 0
    · exact ⟨1, n', by rw [decide_eq_true h]; rfl, rfl, n0', by omega⟩
    · exact ⟨0, n, by rw [decide_eq_false h]; rfl, rfl, n0, by omega⟩
  refine ⟨i, .int t, by rw [ei], hi, gs_then ?_⟩
  refine gs_set' (d := fmD E0) (show (11 : Nat) ≠ 1 by decide) (dv_var rfl) rfl ?_
  refine gs_seq (gs_rng1 (hi := t) (show (4 : Nat) ≠ 1 by decide) (fun k e s1 => (∃ (S : Fm) (x4 : Option PyData), e = [some (.list (ns.map .int)), none, some (.int D), some (.list (L.map fmD)), x4, some (fmD f1), some (fmD f2), some (fmD f3), some (fmD E0), some (fmD X), some (.int t), some (fmD S), none, none, none] ∧ Pw D f1 k S) ∧ ∃ s0 : Nat, s1 = s0 ∧ s0 ≤ 200) (dv_var rfl) (by omega) ⟨⟨E0, none, rfl, cE⟩, _, rfl, by omega⟩ ?_ ?_)
  · rintro k e s1 hk ⟨⟨S, x4, rfl, pS⟩, hs0⟩
    obtain ⟨gS, _⟩ := pw_good dok g1 k pS
    refine gs_set (show (11 : Nat) ≠ 1 by decide) (ge_pure (de_cmp0 ((pw_small dok g1 pS).mono (by decide)) b1 gS g1 (das2 (dv_var rfl) (dv_var rfl))) fun z hz => ?_)
    obtain ⟨R, rfl, c⟩ := hz
    exact ⟨rfl, ⟨R, _, rfl, S, pS, c⟩, hs0⟩
  rintro e s1 ⟨⟨S, x4, rfl, pS⟩, s0, rfl, hs0⟩
  refine gs_then ?_
  obtain ⟨gS, kS⟩ := pw_good dok g1 _ pS
  have bS : BdF 20 S := (pw_small dok g1 pS).mono (by decide)
  refine gs_seq (gs_set (show (12 : Nat) ≠ 1 by decide) (ge_call (ga_cons (ge_v (dv_var rfl) rfl (ga_cons (ge_callS hl sm (ge_v dv_int rfl ⟨2, rfl, ⟨rfl, by omega⟩, fun k' d' hd => ?_⟩)))))))
  obtain ⟨hk, m, rfl, dm, am⟩ := hd
  refine ga_nil ⟨(f1, m), rfl, rfl, ⟨b1.mono (by decide), abm_bd am⟩, fun z hz => ?_⟩
  subst hz
  refine ⟨rfl, gs_then ?_⟩
  have e1 : Eqv f1 (act f1 m) := ⟨m, dm, rfl⟩
  have ga := g1.eqv e1
  have ba := act_small s1' am
  have dA : disc (act f1 m) = D := ga.d
  have preP : ∀ u : Int, -1000 ≤ u → u ≤ 1000 → PreP (act f1 m, u) := fun u h1 h2 => ⟨ba, by show Good (disc (act f1 m)) _; rw [dA]; exact ga, by show DOk (disc (act f1 m)); rw [dA]; exact dok, h1, h2⟩
  have key : ∀ R, (0 ≤ -t → Pw (disc (act f1 m)) (act f1 m) (-t).toNat R) → (-t < 0 → ∃ O, Can (oppF (act f1 m)) O ∧ Pw (disc (act f1 m)) O (-(-t)).toNat R) → ∃ O, Eqv (oppF (act f1 m)) O ∧ Pw D O t.toNat R := fun R h1 h2 => by
    rw [dA] at h1 h2
    by_cases h0 : t = 0
    · have p := h1 (by omega)
      rw [h0] at p ⊢
      exact ⟨oppF (act f1 m), Eqv.refl _, p⟩
    · obtain ⟨O, c, p⟩ := h2 (by omega)
      rw [show -(-t) = t by omega] at p
      exact ⟨O, can_eqv c, p⟩
  refine gs_no (DT.to (dt_or (dt_neE (A := fun R => Pw (disc (act f1 m)) (act f1 m) t.toNat R) (de_callA (act f1 m, t) rfl (preP t (by omega) (by omega)) (das2 (dv_var rfl) (dv_var rfl)) fun z ⟨R, e, h, _⟩ => ⟨R, e, h t0⟩) (dv_is (dv_var rfl)) fun R R' h e => ?_) fun _ =>
    dt_neE (A := fun R => ∃ O, Eqv (oppF (act f1 m)) O ∧ Pw D O t.toNat R) (de_callA (act f1 m, -t) rfl (preP (-t) (by omega) (by omega)) (das2 (dv_var rfl) (dv_neg (dv_var rfl))) fun z ⟨R, e, h1, h2⟩ => ⟨R, e, key R h1 h2⟩)
      (de_oppE (A := fun f => f = S) (DA.imp (das1 (dv_var rfl)) fun z e => ⟨S, e, rfl⟩) fun f e => ?_) fun R R' h h' => ?_) rfl) ?_
  · rw [dA] at h
    rw [e]
    exact (pw_one dok g1 e1 _ pS h).symm
  · subst e
    exact ⟨bS.mono (by decide), gS.f⟩
  · obtain ⟨O, eO, pO⟩ := h
    obtain ⟨f, rfl, cf⟩ := h'
    have e3 := (opp_eqv e1).trans eO
    have gO' := gO.eqv e3
    exact can_one (pw_opp dok g1 e3 _ pS pO).symm (pw_good dok gO' _ pO).2 cf
  refine gs_seq (gs_set (show (13 : Nat) ≠ 1 by decide) (ge_call (α := Fm × List Fm) (ga_cons (ge_call (ga_cons (ge_v (dv_var rfl) rfl (ga_cons (ge_callS hl sm (ge_v dv_int rfl ⟨2, rfl, ⟨rfl, by omega⟩, fun k2 d2 hd => ?_⟩)))))))))
  obtain ⟨hk2, m', rfl, dm', am'⟩ := hd
  refine ga_nil ⟨(f1, m'), rfl, rfl, ⟨b1.mono (by decide), abm_bd am'⟩, fun z hz => ?_⟩
  subst hz
  have e2 : Eqv f1 (act f1 m') := ⟨m', dm', rfl⟩
  have gb := g1.eqv e2
  have dB : disc (act f1 m') = D := gb.d
  refine ⟨rfl, ga_nil ⟨(act f1 m', L), rfl, rfl, ⟨act_small s1' am', by show Good (disc (act f1 m')) _; rw [dB]; exact gb, by show DOk (disc (act f1 m')); rw [dB]; exact dok, by show Menu (disc (act f1 m')) L; rw [dB]; exact hM⟩, fun z hz => ?_⟩⟩
  obtain ⟨E', qq, N, rfl, cE', n1', ch, hqq, hne', hle⟩ := hz
  refine ⟨rfl, gs_then ?_⟩
  simp only at cE' ch hle
  rw [dB] at cE' ch
  have eE : E' = E0 := can_one (Eqv.refl _) cE' cE
  subst eE
  refine gs_no (DT.to (dt_or (DT.to (dt_test (dv_lt (dv_var rfl) dv_int)) (decide_eq_false ?_)) fun _ => DT.to (dt_test (dv_gt (dv_var rfl) (de_len (Dv.to (dv_var rfl) ⟨L.map fmD, rfl, rfl⟩)))) (decide_eq_false ?_)) rfl) ?_
  · omega
  · rw [List.length_map]; omega
  refine gs_set' (d := fmD f1) (show (14 : Nat) ≠ 1 by decide) (dv_var rfl) rfl ?_
  have q1 : qq 1 = f1 := by
    have s0 := ch.s 0 (by omega)
    rw [ch.z] at s0
    exact can_one ((cp_id dok gb cE' (cp_comm s0)).trans e2.symm) (ch.good dok gb cE' 1 n1').2 c1
  refine gs_seq (gs_rng2 (lo := 1) (hi := (N : Int)) (show (4 : Nat) ≠ 1 by decide) (fun i e s1 => ∃ (x4 : Option PyData), e = [some (.list (ns.map .int)), none, some (.int D), some (.list (L.map fmD)), x4, some (fmD f1), some (fmD f2), some (fmD f3), some (fmD E'), some (fmD X), some (.int t), some (fmD S), some (fmD (act f1 m)), some (.int (N : Int)), some (fmD (qq (i + 1)))]) dv_int (dv_var rfl) (by decide) (by omega) ⟨_, by rw [Nat.zero_add, q1]; rfl⟩ ?_ ?_)
  · rintro i e s2 hi ⟨x4, rfl⟩
    have hi : i + 1 < N := by omega
    obtain ⟨gq, kq⟩ := ch.good dok gb cE' (i + 1) (by omega)
    refine gs_no (DT.to (dt_test (dv_eqF (dv_var rfl) (dv_var rfl))) (decide_eq_false (hne' (i + 1) (by omega) hi))) ?_
    refine gs_set (show (14 : Nat) ≠ 1 by decide) (ge_pure (de_cmp0 ((can_small gq kq).mono (by decide)) b1 gq g1 (das2 (dv_var rfl) (dv_var rfl))) fun z hz => ?_)
    obtain ⟨R, rfl, c⟩ := hz
    refine ⟨rfl, some (.int (1 + (i : Int))), ?_⟩
    rw [cp_one gq (Eqv.refl _) e2 c (ch.s (i + 1) hi)]
    rfl
  · rintro e s2 ⟨x4, rfl⟩
    refine gs_then (gs_ret (ge_v (dv_eqF (dv_var rfl) (dv_var rfl)) rfl ?_))
    have eN : ((N : Int) - 1).toNat + 1 = N := by omega
    rw [eN, hqq]
    show PyData.bool (decide (E' = E')) = .bool true
    rw [decide_eq_true rfl]
end
end K19
/-! K19Tx -/
set_option Elab.async false
set_option linter.all false
set_option maxRecDepth 100000
set_option maxHeartbeats 0
namespace K19
open PySem PySem.Spec PyProof.Rows L2
def dBezout : He.DefD := ⟨("bezout", none), "bezout", "bezout", defArgs sBezout, defBody sBezout, defScope sBezout, [], []⟩
def dMeasure : He.DefD := ⟨("measure", none), "measure", "measure", defArgs sMeasure, defBody sMeasure, defScope sMeasure, [], []⟩
def dFloorRoot : He.DefD := ⟨("floor_root", none), "floor_root", "floor_root", defArgs sFloorRoot, defBody sFloorRoot, defScope sFloorRoot, [], []⟩
def dIsSquare : He.DefD := ⟨("is_square", none), "is_square", "is_square", defArgs sIsSquare, defBody sIsSquare, defScope sIsSquare, [], []⟩
def dDiscriminant : He.DefD := ⟨("discriminant", none), "discriminant", "discriminant", defArgs sDiscriminant, defBody sDiscriminant, defScope sDiscriminant, [], []⟩
def dContent : He.DefD := ⟨("content", none), "content", "content", defArgs sContent, defBody sContent, defScope sContent, [], []⟩
def dWorth : He.DefD := ⟨("worth", none), "worth", "worth", defArgs sWorth, defBody sWorth, defScope sWorth, [], []⟩
def dAct : He.DefD := ⟨("act", none), "act", "act", defArgs sAct, defBody sAct, defScope sAct, [], []⟩
def dKind : He.DefD := ⟨("kind", none), "kind", "kind", defArgs sKind, defBody sKind, defScope sKind, [], []⟩
def dMultiply : He.DefD := ⟨("multiply", none), "multiply", "multiply", defArgs sMultiply, defBody sMultiply, defScope sMultiply, [], []⟩
def dDeterminant : He.DefD := ⟨("determinant", none), "determinant", "determinant", defArgs sDeterminant, defBody sDeterminant, defScope sDeterminant, [], []⟩
def dInverse : He.DefD := ⟨("inverse", none), "inverse", "inverse", defArgs sInverse, defBody sInverse, defScope sInverse, [], []⟩
def dIsReducedDefinite : He.DefD := ⟨("is_reduced_definite", none), "is_reduced", "is_reduced", defArgs sIsReducedDefinite, defBody sIsReducedDefinite, defScope sIsReducedDefinite, [], []⟩
def dReducePositive : He.DefD := ⟨("reduce_positive", none), "reduce_positive", "reduce_positive", defArgs sReducePositive, defBody sReducePositive, defScope sReducePositive, [], []⟩
def dReduceDefinite : He.DefD := ⟨("reduce_definite", none), "reduce_definite", "reduce_definite", defArgs sReduceDefinite, defBody sReduceDefinite, defScope sReduceDefinite, [], []⟩
def dPositiveClasses : He.DefD := ⟨("positive_classes", none), "positive_classes", "positive_classes", defArgs sPositiveClasses, defBody sPositiveClasses, defScope sPositiveClasses, [], []⟩
def dIsReducedIndefinite : He.DefD := ⟨("is_reduced_indefinite", none), "is_reduced", "is_reduced", defArgs sIsReducedIndefinite, defBody sIsReducedIndefinite, defScope sIsReducedIndefinite, [], []⟩
def dStepOf : He.DefD := ⟨("step_of", none), "step_of", "step_of", defArgs sStepOf, defBody sStepOf, defScope sStepOf, [], []⟩
def dReduceIndefinite : He.DefD := ⟨("reduce_indefinite", none), "reduce_indefinite", "reduce_indefinite", defArgs sReduceIndefinite, defBody sReduceIndefinite, defScope sReduceIndefinite, [], []⟩
def dCycle : He.DefD := ⟨("cycle", none), "cycle", "cycle", defArgs sCycle, defBody sCycle, defScope sCycle, [], []⟩
def dCanonical : He.DefD := ⟨("canonical", none), "canonical", "canonical", defArgs sCanonical, defBody sCanonical, defScope sCanonical, [], []⟩
def dCanonicalForm : He.DefD := ⟨("canonical_form", none), "canonical_form", "canonical_form", defArgs sCanonicalForm, defBody sCanonicalForm, defScope sCanonicalForm, [], []⟩
def dIndefiniteClasses : He.DefD := ⟨("indefinite_classes", none), "indefinite_classes", "indefinite_classes", defArgs sIndefiniteClasses, defBody sIndefiniteClasses, defScope sIndefiniteClasses, [], []⟩
def dClasses : He.DefD := ⟨("classes", none), "classes", "classes", defArgs sClasses, defBody sClasses, defScope sClasses, [], []⟩
def dPrincipal : He.DefD := ⟨("principal", none), "principal", "principal", defArgs sPrincipal, defBody sPrincipal, defScope sPrincipal, [], []⟩
def dOpposite : He.DefD := ⟨("opposite", none), "opposite", "opposite", defArgs sOpposite, defBody sOpposite, defScope sOpposite, [], []⟩
def dCoprimeColumn : He.DefD := ⟨("coprime_column", none), "coprime_column", "coprime_column", defArgs sCoprimeColumn, defBody sCoprimeColumn, defScope sCoprimeColumn, [], []⟩
def dLeadingChange : He.DefD := ⟨("leading_change", none), "leading_change", "leading_change", defArgs sLeadingChange, defBody sLeadingChange, defScope sLeadingChange, [], []⟩
def dMiddleOf : He.DefD := ⟨("middle_of", none), "middle_of", "middle_of", defArgs sMiddleOf, defBody sMiddleOf, defScope sMiddleOf, [], []⟩
def dShifted : He.DefD := ⟨("shifted", none), "shifted", "shifted", defArgs sShifted, defBody sShifted, defScope sShifted, [], []⟩
def dUnited : He.DefD := ⟨("united", none), "united", "united", defArgs sUnited, defBody sUnited, defScope sUnited, [], []⟩
def dColumns : He.DefD := ⟨("columns", none), "columns", "columns", defArgs sColumns, defBody sColumns, defScope sColumns, [], []⟩
def dCompose : He.DefD := ⟨("compose", none), "compose", "compose", defArgs sCompose, defBody sCompose, defScope sCompose, [], []⟩
def dClassPower : He.DefD := ⟨("class_power", none), "class_power", "class_power", defArgs sClassPower, defBody sClassPower, defScope sClassPower, [], []⟩
def dClassOrder : He.DefD := ⟨("class_order", none), "class_order", "class_order", defArgs sClassOrder, defBody sClassOrder, defScope sClassOrder, [], []⟩
def dLawCell : He.DefD := ⟨("_law_cell", none), "_law_cell", "_law_cell", defArgs sLawCell, defBody sLawCell, defScope sLawCell, [], []⟩
def dLawNumbers : He.DefD := ⟨("_law_numbers", none), "_law_numbers", "_law_numbers", defArgs sLawNumbers, defBody sLawNumbers, defScope sLawNumbers, [], []⟩
def dLawState : He.DefD := ⟨("_law_state", none), "_law_state", "_law_state", defArgs sLawState, defBody sLawState, defScope sLawState, [], []⟩
def dLawNext : He.DefD := ⟨("_law_next", none), "_law_next", "_law_next", defArgs sLawNext, defBody sLawNext, defScope sLawNext, [], []⟩
def dLawRoot : He.DefD := ⟨("_law_root", none), "_law_root", "_law_root", defArgs sLawRoot, defBody sLawRoot, defScope sLawRoot, [], []⟩
def dLawMul : He.DefD := ⟨("_law_mul", none), "_law_mul", "_law_mul", defArgs sLawMul, defBody sLawMul, defScope sLawMul, [], []⟩
def dLawWorth : He.DefD := ⟨("_law_worth", none), "_law_worth", "_law_worth", defArgs sLawWorth, defBody sLawWorth, defScope sLawWorth, [], []⟩
def dLawAct : He.DefD := ⟨("_law_act", none), "_law_act", "_law_act", defArgs sLawAct, defBody sLawAct, defScope sLawAct, [], []⟩
def dLawChange : He.DefD := ⟨("_law_change", none), "_law_change", "_law_change", defArgs sLawChange, defBody sLawChange, defScope sLawChange, [], []⟩
def dLawSquare : He.DefD := ⟨("_law_square", none), "_law_square", "_law_square", defArgs sLawSquare, defBody sLawSquare, defScope sLawSquare, [], []⟩
def dLaw : He.DefD := ⟨("law", none), "law", "law", defArgs sLaw, defBody sLaw, defScope sLaw, [], []⟩
def fn : List He.DefD := [dBezout, dMeasure, dFloorRoot, dIsSquare, dDiscriminant, dContent, dWorth, dAct, dKind, dMultiply, dDeterminant, dInverse, dIsReducedDefinite, dReducePositive, dReduceDefinite, dPositiveClasses, dIsReducedIndefinite, dStepOf, dReduceIndefinite, dCycle, dCanonical, dCanonicalForm, dIndefiniteClasses, dClasses, dPrincipal, dOpposite, dCoprimeColumn, dLeadingChange, dMiddleOf, dShifted, dUnited, dColumns, dCompose, dClassPower, dClassOrder, dLawCell, dLawNumbers, dLawState, dLawNext, dLawRoot, dLawMul, dLawWorth, dLawAct, dLawChange, dLawSquare, dLaw]
def fa : List He.Fa := [.glo "bezout", .glo "measure", .glo "floor_root", .glo "is_square", .glo "discriminant", .glo "content", .glo "worth", .glo "act", .glo "kind", .glo "multiply", .glo "determinant", .glo "inverse", .glo "is_reduced_definite", .glo "reduce_positive", .glo "reduce_definite", .glo "positive_classes", .glo "is_reduced_indefinite", .glo "step_of", .glo "reduce_indefinite", .glo "cycle", .glo "canonical", .glo "canonical_form", .glo "indefinite_classes", .glo "classes", .glo "principal", .glo "opposite", .glo "coprime_column", .glo "leading_change", .glo "middle_of", .glo "shifted", .glo "united", .glo "columns", .glo "compose", .glo "class_power", .glo "class_order", .glo "_law_cell", .glo "_law_numbers", .glo "_law_state", .glo "_law_next", .glo "_law_root", .glo "_law_mul", .glo "_law_worth", .glo "_law_act", .glo "_law_change", .glo "_law_square", .glo "law", .free "len", .free "abs", .free "range", .free "set", .free "sorted", .free "min", .free "int", .free "tuple"]
def ex (K : PySem.W.Frag) : Bool := He.eqO (PySem.W.nsIn K mainGlobals "isqrt") (some (some (.builtin "math.isqrt"))) && (He.eqO (PySem.W.nsIn K mainGlobals "UNIT") (some (some (.ref (He.ga K "UNIT")))) && He.tupB K "UNIT" [.int 1, .int 0, .int 0, .int 1])
abbrev R : PySem.W.OpenRow := PySem.W.OpenLaw.row PySem.Challenge.rw_wholeconic_k19_whole_group_of_classes
abbrev hk : PySem.W.Hook := He.hookX 4 fa fn [] [] ex
def ob (s : PySem.W.SharedT) : He.AlX := He.obsX 4 fa fn [] [] ex (HandSHeadRun.getT s)
theorem ob_eq (s : PySem.W.SharedT) : ob s = hk.obs s.abs := He.obsX_eq (HandSHeadRun.getT_eq s)
def names0 : List PySem.Str := ["bezout", "measure", "floor_root", "is_square", "discriminant", "content", "worth", "act", "kind", "multiply", "determinant", "inverse", "is_reduced_definite", "reduce_positive", "reduce_definite", "positive_classes", "is_reduced_indefinite", "step_of", "reduce_indefinite", "cycle", "canonical", "canonical_form", "indefinite_classes", "classes", "principal", "opposite", "coprime_column", "leading_change", "middle_of", "shifted"]
def names1 : List PySem.Str := ["united", "columns", "compose", "class_power", "class_order", "_law_cell", "_law_numbers", "_law_state", "_law_next", "_law_root", "_law_mul", "_law_worth", "_law_act", "_law_change", "_law_square", "isqrt", "scaled", "divided", "UNIT", "is_reduced", "primitive", "zero_lines", "leading", "canonical_split", "flat_parts", "canonical_flat", "_law_wide", "_law_at", "_law_kind", "_law_split"]
def names2 : List PySem.Str := ["_law_flat", "_law_form"]
def names : List PySem.Str := names0 ++ names1 ++ names2

theorem binds0 {K : PySem.W.Frag} {x qual : Str} {pa : Arguments} {bd : List Stmt} {sc : Scope} {f : Addr} {fd : FuncData} {ps : List Str} (F : FunD K x qual pa bd sc [] [] f fd) (hn : 0 < ps.length)
    (h : ∀ (kV doc pm : Value) (an : Option Addr) (cdv ct : Value) (us : List Value), us.length = ps.length → bindArgs (PySem.W.fnOf x qual pa bd sc .none kV doc pm an cdv ct) ⟨us, []⟩ = pure (ps.zip us)) : Binds K fd ps [] := F.bindsN h
theorem tx_of {K : PySem.W.Frag} {mg : Str → Option Value} {h : Heap} (X : K.In h) (G : h.Ns mainGlobals mg) (c : He.SaysD fa fn K) (m : ex K = true) : Nonempty (Tx K mg) := by
  have dm : He.eqO (PySem.W.nsIn K mainGlobals "isqrt") (some (some (.builtin "math.isqrt"))) = true ∧ He.eqO (PySem.W.nsIn K mainGlobals "UNIT") (some (some (.ref (He.ga K "UNIT")))) = true ∧ He.tupB K "UNIT" [.int 1, .int 0, .int 0, .int 1] = true := by
    have m2 := m
    unfold ex at m2
    rw [Bool.and_eq_true, Bool.and_eq_true] at m2
    exact m2
  obtain ⟨fd0, F0⟩ := c.def_ 0
  have B0 : Binds K fd0 ["a", "b"] [] := FunD.bindsN F0 fun kV doc pm an cdv ct us hl => by
    match us, hl with
    | [u0, u1], _ => rfl
  obtain ⟨fd1, F1⟩ := c.def_ 1
  have B1 : Binds K fd1 ["numbers"] [] := FunD.bindsN F1 fun kV doc pm an cdv ct us hl => by
    match us, hl with
    | [u0], _ => rfl
  obtain ⟨fd2, F2⟩ := c.def_ 2
  have B2 : Binds K fd2 ["n"] [] := FunD.bindsN F2 fun kV doc pm an cdv ct us hl => by
    match us, hl with
    | [u0], _ => rfl
  obtain ⟨fd3, F3⟩ := c.def_ 3
  have B3 : Binds K fd3 ["n"] [] := FunD.bindsN F3 fun kV doc pm an cdv ct us hl => by
    match us, hl with
    | [u0], _ => rfl
  obtain ⟨fd4, F4⟩ := c.def_ 4
  have B4 : Binds K fd4 ["form"] [] := FunD.bindsN F4 fun kV doc pm an cdv ct us hl => by
    match us, hl with
    | [u0], _ => rfl
  obtain ⟨fd5, F5⟩ := c.def_ 5
  have B5 : Binds K fd5 ["form"] [] := FunD.bindsN F5 fun kV doc pm an cdv ct us hl => by
    match us, hl with
    | [u0], _ => rfl
  obtain ⟨fd6, F6⟩ := c.def_ 6
  have B6 : Binds K fd6 ["form", "point"] [] := FunD.bindsN F6 fun kV doc pm an cdv ct us hl => by
    match us, hl with
    | [u0, u1], _ => rfl
  obtain ⟨fd7, F7⟩ := c.def_ 7
  have B7 : Binds K fd7 ["form", "m"] [] := FunD.bindsN F7 fun kV doc pm an cdv ct us hl => by
    match us, hl with
    | [u0, u1], _ => rfl
  obtain ⟨fd8, F8⟩ := c.def_ 8
  have B8 : Binds K fd8 ["form"] [] := FunD.bindsN F8 fun kV doc pm an cdv ct us hl => by
    match us, hl with
    | [u0], _ => rfl
  obtain ⟨fd9, F9⟩ := c.def_ 9
  have B9 : Binds K fd9 ["m", "n"] [] := FunD.bindsN F9 fun kV doc pm an cdv ct us hl => by
    match us, hl with
    | [u0, u1], _ => rfl
  obtain ⟨fd10, F10⟩ := c.def_ 10
  have B10 : Binds K fd10 ["m"] [] := FunD.bindsN F10 fun kV doc pm an cdv ct us hl => by
    match us, hl with
    | [u0], _ => rfl
  obtain ⟨fd11, F11⟩ := c.def_ 11
  have B11 : Binds K fd11 ["m"] [] := FunD.bindsN F11 fun kV doc pm an cdv ct us hl => by
    match us, hl with
    | [u0], _ => rfl
  obtain ⟨fd12, F12⟩ := c.def_ 12
  have B12 : Binds K fd12 ["form"] [] := FunD.bindsN F12 fun kV doc pm an cdv ct us hl => by
    match us, hl with
    | [u0], _ => rfl
  obtain ⟨fd13, F13⟩ := c.def_ 13
  have B13 : Binds K fd13 ["form"] [] := FunD.bindsN F13 fun kV doc pm an cdv ct us hl => by
    match us, hl with
    | [u0], _ => rfl
  obtain ⟨fd14, F14⟩ := c.def_ 14
  have B14 : Binds K fd14 ["form"] [] := FunD.bindsN F14 fun kV doc pm an cdv ct us hl => by
    match us, hl with
    | [u0], _ => rfl
  obtain ⟨fd15, F15⟩ := c.def_ 15
  have B15 : Binds K fd15 ["d"] [] := FunD.bindsN F15 fun kV doc pm an cdv ct us hl => by
    match us, hl with
    | [u0], _ => rfl
  obtain ⟨fd16, F16⟩ := c.def_ 16
  have B16 : Binds K fd16 ["form"] [] := FunD.bindsN F16 fun kV doc pm an cdv ct us hl => by
    match us, hl with
    | [u0], _ => rfl
  obtain ⟨fd17, F17⟩ := c.def_ 17
  have B17 : Binds K fd17 ["form"] [] := FunD.bindsN F17 fun kV doc pm an cdv ct us hl => by
    match us, hl with
    | [u0], _ => rfl
  obtain ⟨fd18, F18⟩ := c.def_ 18
  have B18 : Binds K fd18 ["form"] [] := FunD.bindsN F18 fun kV doc pm an cdv ct us hl => by
    match us, hl with
    | [u0], _ => rfl
  obtain ⟨fd19, F19⟩ := c.def_ 19
  have B19 : Binds K fd19 ["form"] [] := FunD.bindsN F19 fun kV doc pm an cdv ct us hl => by
    match us, hl with
    | [u0], _ => rfl
  obtain ⟨fd20, F20⟩ := c.def_ 20
  have B20 : Binds K fd20 ["form"] [] := FunD.bindsN F20 fun kV doc pm an cdv ct us hl => by
    match us, hl with
    | [u0], _ => rfl
  obtain ⟨fd21, F21⟩ := c.def_ 21
  have B21 : Binds K fd21 ["form"] [] := FunD.bindsN F21 fun kV doc pm an cdv ct us hl => by
    match us, hl with
    | [u0], _ => rfl
  obtain ⟨fd22, F22⟩ := c.def_ 22
  have B22 : Binds K fd22 ["d"] [] := FunD.bindsN F22 fun kV doc pm an cdv ct us hl => by
    match us, hl with
    | [u0], _ => rfl
  obtain ⟨fd23, F23⟩ := c.def_ 23
  have B23 : Binds K fd23 ["d"] [] := FunD.bindsN F23 fun kV doc pm an cdv ct us hl => by
    match us, hl with
    | [u0], _ => rfl
  obtain ⟨fd24, F24⟩ := c.def_ 24
  have B24 : Binds K fd24 ["d"] [] := FunD.bindsN F24 fun kV doc pm an cdv ct us hl => by
    match us, hl with
    | [u0], _ => rfl
  obtain ⟨fd25, F25⟩ := c.def_ 25
  have B25 : Binds K fd25 ["form"] [] := FunD.bindsN F25 fun kV doc pm an cdv ct us hl => by
    match us, hl with
    | [u0], _ => rfl
  obtain ⟨fd26, F26⟩ := c.def_ 26
  have B26 : Binds K fd26 ["form", "number"] [] := FunD.bindsN F26 fun kV doc pm an cdv ct us hl => by
    match us, hl with
    | [u0, u1], _ => rfl
  obtain ⟨fd27, F27⟩ := c.def_ 27
  have B27 : Binds K fd27 ["form", "point"] [] := FunD.bindsN F27 fun kV doc pm an cdv ct us hl => by
    match us, hl with
    | [u0, u1], _ => rfl
  obtain ⟨fd28, F28⟩ := c.def_ 28
  have B28 : Binds K fd28 ["first", "second"] [] := FunD.bindsN F28 fun kV doc pm an cdv ct us hl => by
    match us, hl with
    | [u0, u1], _ => rfl
  obtain ⟨fd29, F29⟩ := c.def_ 29
  have B29 : Binds K fd29 ["form", "middle"] [] := FunD.bindsN F29 fun kV doc pm an cdv ct us hl => by
    match us, hl with
    | [u0, u1], _ => rfl
  obtain ⟨fd30, F30⟩ := c.def_ 30
  have B30 : Binds K fd30 ["form", "other"] [] := FunD.bindsN F30 fun kV doc pm an cdv ct us hl => by
    match us, hl with
    | [u0, u1], _ => rfl
  obtain ⟨fd31, F31⟩ := c.def_ 31
  have B31 : Binds K fd31 ["m", "n"] [] := FunD.bindsN F31 fun kV doc pm an cdv ct us hl => by
    match us, hl with
    | [u0, u1], _ => rfl
  obtain ⟨fd32, F32⟩ := c.def_ 32
  have B32 : Binds K fd32 ["form", "other"] [] := FunD.bindsN F32 fun kV doc pm an cdv ct us hl => by
    match us, hl with
    | [u0, u1], _ => rfl
  obtain ⟨fd33, F33⟩ := c.def_ 33
  have B33 : Binds K fd33 ["form", "many"] [] := FunD.bindsN F33 fun kV doc pm an cdv ct us hl => by
    match us, hl with
    | [u0, u1], _ => rfl
  obtain ⟨fd34, F34⟩ := c.def_ 34
  have B34 : Binds K fd34 ["form"] [] := FunD.bindsN F34 fun kV doc pm an cdv ct us hl => by
    match us, hl with
    | [u0], _ => rfl
  obtain ⟨fd35, F35⟩ := c.def_ 35
  have B35 : Binds K fd35 ["_law_script", "_law_k"] [] := FunD.bindsN F35 fun kV doc pm an cdv ct us hl => by
    match us, hl with
    | [u0, u1], _ => rfl
  obtain ⟨fd36, F36⟩ := c.def_ 36
  have B36 : Binds K fd36 ["_law_cell_here", "_law_many"] [] := FunD.bindsN F36 fun kV doc pm an cdv ct us hl => by
    match us, hl with
    | [u0, u1], _ => rfl
  obtain ⟨fd37, F37⟩ := c.def_ 37
  have B37 : Binds K fd37 ["_law_script"] [] := FunD.bindsN F37 fun kV doc pm an cdv ct us hl => by
    match us, hl with
    | [u0], _ => rfl
  obtain ⟨fd38, F38⟩ := c.def_ 38
  have B38 : Binds K fd38 ["_law_state_here", "_law_many"] [] := FunD.bindsN F38 fun kV doc pm an cdv ct us hl => by
    match us, hl with
    | [u0, u1], _ => rfl
  obtain ⟨fd39, F39⟩ := c.def_ 39
  have B39 : Binds K fd39 ["_law_n"] [] := FunD.bindsN F39 fun kV doc pm an cdv ct us hl => by
    match us, hl with
    | [u0], _ => rfl
  obtain ⟨fd40, F40⟩ := c.def_ 40
  have B40 : Binds K fd40 ["_law_m", "_law_n"] [] := FunD.bindsN F40 fun kV doc pm an cdv ct us hl => by
    match us, hl with
    | [u0, u1], _ => rfl
  obtain ⟨fd41, F41⟩ := c.def_ 41
  have B41 : Binds K fd41 ["_law_form_here", "_law_x", "_law_y"] [] := FunD.bindsN F41 fun kV doc pm an cdv ct us hl => by
    match us, hl with
    | [u0, u1, u2], _ => rfl
  obtain ⟨fd42, F42⟩ := c.def_ 42
  have B42 : Binds K fd42 ["_law_form_here", "_law_m"] [] := FunD.bindsN F42 fun kV doc pm an cdv ct us hl => by
    match us, hl with
    | [u0, u1], _ => rfl
  obtain ⟨fd43, F43⟩ := c.def_ 43
  have B43 : Binds K fd43 ["_law_state_here", "_law_many"] [] := FunD.bindsN F43 fun kV doc pm an cdv ct us hl => by
    match us, hl with
    | [u0, u1], _ => rfl
  obtain ⟨fd44, F44⟩ := c.def_ 44
  have B44 : Binds K fd44 ["_law_n"] [] := FunD.bindsN F44 fun kV doc pm an cdv ct us hl => by
    match us, hl with
    | [u0], _ => rfl
  obtain ⟨fd45, F45⟩ := c.def_ 45
  have B45 : Binds K fd45 ["_law_script"] [] := FunD.bindsN F45 fun kV doc pm an cdv ct us hl => by
    match us, hl with
    | [u0], _ => rfl
  exact ⟨⟨⟨_, fd0, F0, He.glo_ok X G (c.fact 0), B0⟩,
    ⟨_, fd1, F1, He.glo_ok X G (c.fact 1), B1⟩,
    ⟨_, fd2, F2, He.glo_ok X G (c.fact 2), B2⟩,
    ⟨_, fd3, F3, He.glo_ok X G (c.fact 3), B3⟩,
    ⟨_, fd4, F4, He.glo_ok X G (c.fact 4), B4⟩,
    ⟨_, fd5, F5, He.glo_ok X G (c.fact 5), B5⟩,
    ⟨_, fd6, F6, He.glo_ok X G (c.fact 6), B6⟩,
    ⟨_, fd7, F7, He.glo_ok X G (c.fact 7), B7⟩,
    ⟨_, fd8, F8, He.glo_ok X G (c.fact 8), B8⟩,
    ⟨_, fd9, F9, He.glo_ok X G (c.fact 9), B9⟩,
    ⟨_, fd10, F10, He.glo_ok X G (c.fact 10), B10⟩,
    ⟨_, fd11, F11, He.glo_ok X G (c.fact 11), B11⟩,
    ⟨_, fd12, F12, He.glo_ok X G (c.fact 12), B12⟩,
    ⟨_, fd13, F13, He.glo_ok X G (c.fact 13), B13⟩,
    ⟨_, fd14, F14, He.glo_ok X G (c.fact 14), B14⟩,
    ⟨_, fd15, F15, He.glo_ok X G (c.fact 15), B15⟩,
    ⟨_, fd16, F16, He.glo_ok X G (c.fact 16), B16⟩,
    ⟨_, fd17, F17, He.glo_ok X G (c.fact 17), B17⟩,
    ⟨_, fd18, F18, He.glo_ok X G (c.fact 18), B18⟩,
    ⟨_, fd19, F19, He.glo_ok X G (c.fact 19), B19⟩,
    ⟨_, fd20, F20, He.glo_ok X G (c.fact 20), B20⟩,
    ⟨_, fd21, F21, He.glo_ok X G (c.fact 21), B21⟩,
    ⟨_, fd22, F22, He.glo_ok X G (c.fact 22), B22⟩,
    ⟨_, fd23, F23, He.glo_ok X G (c.fact 23), B23⟩,
    ⟨_, fd24, F24, He.glo_ok X G (c.fact 24), B24⟩,
    ⟨_, fd25, F25, He.glo_ok X G (c.fact 25), B25⟩,
    ⟨_, fd26, F26, He.glo_ok X G (c.fact 26), B26⟩,
    ⟨_, fd27, F27, He.glo_ok X G (c.fact 27), B27⟩,
    ⟨_, fd28, F28, He.glo_ok X G (c.fact 28), B28⟩,
    ⟨_, fd29, F29, He.glo_ok X G (c.fact 29), B29⟩,
    ⟨_, fd30, F30, He.glo_ok X G (c.fact 30), B30⟩,
    ⟨_, fd31, F31, He.glo_ok X G (c.fact 31), B31⟩,
    ⟨_, fd32, F32, He.glo_ok X G (c.fact 32), B32⟩,
    ⟨_, fd33, F33, He.glo_ok X G (c.fact 33), B33⟩,
    ⟨_, fd34, F34, He.glo_ok X G (c.fact 34), B34⟩,
    ⟨_, fd35, F35, He.glo_ok X G (c.fact 35), B35⟩,
    ⟨_, fd36, F36, He.glo_ok X G (c.fact 36), B36⟩,
    ⟨_, fd37, F37, He.glo_ok X G (c.fact 37), B37⟩,
    ⟨_, fd38, F38, He.glo_ok X G (c.fact 38), B38⟩,
    ⟨_, fd39, F39, He.glo_ok X G (c.fact 39), B39⟩,
    ⟨_, fd40, F40, He.glo_ok X G (c.fact 40), B40⟩,
    ⟨_, fd41, F41, He.glo_ok X G (c.fact 41), B41⟩,
    ⟨_, fd42, F42, He.glo_ok X G (c.fact 42), B42⟩,
    ⟨_, fd43, F43, He.glo_ok X G (c.fact 43), B43⟩,
    ⟨_, fd44, F44, He.glo_ok X G (c.fact 44), B44⟩,
    ⟨_, fd45, F45, He.glo_ok X G (c.fact 45), B45⟩,
    He.free_ok X G (c.fact 46),
    He.free_ok X G (c.fact 47),
    He.free_ok X G (c.fact 48),
    He.free_ok X G (c.fact 49),
    He.free_ok X G (c.fact 50),
    He.free_ok X G (c.fact 51),
    He.free_ok X G (c.fact 52),
    He.free_ok X G (c.fact 53),
    PySem.W.mg_of X G (He.eqO_ok dm.1),
    He.ga K "UNIT",
    PySem.W.mg_of X G (He.eqO_ok dm.2.1),
    fun H => He.tupB_ok dm.2.2 H⟩⟩
end K19
/-! K19Fin -/
set_option Elab.async false
set_option linter.all false
set_option maxRecDepth 100000
set_option maxHeartbeats 0
namespace K19
open PySem PySem.Spec PyProof.Rows L2
theorem law_at {w : World} {K : PySem.W.Frag} {mg : Str → Option Value} {h : Heap} {fa : Addr} (X : K.In h) (T : Tx K mg) (hm : mg "law" = some (.ref fa)) :
    ∃ (K : PySem.W.Frag) (fd : FuncData) (sp : Sp), K.In h ∧ (∀ (s : Shared) (u : Value), BindsTo s fd ⟨[u], []⟩ [("_law_script", u)]) ∧
        (∀ (H : Hp) (a : Addr) (ns : List Int), ns.length ≤ 63 → Only H → SqL K H a (ns.map V.int) → sp [.ref a] H (fun v _ => v = .bl true) fun _ _ _ => False) ∧
        ∀ base : Heap, K.In base → base.Ns mainGlobals mg → FnOk PySem.Challenge.rw_wholeconic_k19_whole_group_of_classes.prog w K mg base CX0 9 fa fd ["_law_script"] sp := by
  have e : T.xLaw.f = fa := by
    have z := T.xLaw.g.symm.trans hm
    injection z with z
    injection z
  subst e
  refine ⟨K, T.xLaw.fd, spLaw K, X, fun s u => T.xLaw.F.bindsA (ps := ["_law_script"]) (fun kV doc pm an cdv ct us hl => ?_) s [u] rfl, fun H a ns _ _ hs => ?_, fun base _ _ => okLaw T⟩
  · match us, hl with
    | [u], _ => rfl
  · refine ⟨ns, rfl, .cons (.lst hs (dps_of_ints ns)) .nil, trivial, fun d v H' hd x D => ?_⟩
    subst hd
    cases D
    rfl
end K19
open PySem PySem.W PyProof.Rows
theorem PySem.Challenge.cw_wholeconic_k19_whole_group_of_classes_holds : PySem.Challenge.rw_wholeconic_k19_whole_group_of_classes.Holds := by
  w_on; o_law; o_head K19.hk
  case hw => w_witness2
  case hc =>
    refine L2.walk_ofE (l := PySem.Challenge.rw_wholeconic_k19_whole_group_of_classes) (n := 63) (k := 9) (x := "_law_script") (CX := L2.CX0) rfl (by decide) (by kernel_rfl) ⟨rfl, by decide, by decide⟩ ?F (fun _ _ _ _ z => z)
    intro w mg fa h Y G hmg0
    obtain ⟨K, X, c⟩ := Y
    obtain ⟨T⟩ := K19.tx_of X G c.t.d c.more
    exact K19.law_at X T hmg0
