import PyProof.Rows.All
import Wide.All
import OpenK.AllK
import Wide.FinOn
import PySem.Challenge.RW_pq0953_01
set_option Elab.async false
set_option maxRecDepth 100000
set_option genSizeOf false
set_option genInjectivity false
set_option linter.all false
namespace Mine
theorem ob_A {a1 : Prop} {a2 : Prop} {P : Prop} (h : a1 ∧ a2) (k : ∀ (h1 : a1) (h2 : a2), P) : P := k h.1 h.2
theorem ob_E.{u1} {α1 : Sort u1} {a1 : α1 → Prop} {P : Prop} (h : ∃ x1, a1 x1) (k : ∀ (x1 : α1) (h1 : a1 x1), P) : P := Exists.elim h fun y1 g1 => k y1 g1
theorem ob_AA {a1 : Prop} {a2 : Prop} {a3 : Prop} {P : Prop} (h : a1 ∧ a2 ∧ a3) (k : ∀ (h1 : a1) (h2 : a2) (h3 : a3), P) : P := k h.1 h.2.1 h.2.2
theorem ob_AE.{u1} {α1 : Sort u1} {a1 : Prop} {a2 : α1 → Prop} {P : Prop} (h : a1 ∧ (∃ x1, a2 x1)) (k : ∀ (h1 : a1) (x1 : α1) (h2 : a2 x1), P) : P := Exists.elim h.2 fun y1 g1 => k h.1 y1 g1
theorem ob_EA.{u1} {α1 : Sort u1} {a1 : α1 → Prop} {a2 : α1 → Prop} {P : Prop} (h : ∃ x1, a1 x1 ∧ a2 x1) (k : ∀ (x1 : α1) (h1 : a1 x1) (h2 : a2 x1), P) : P := Exists.elim h fun y1 g1 => k y1 g1.1 g1.2
theorem ob_EE.{u1, u2} {α1 : Sort u1} {α2 : Sort u2} {a1 : α1 → α2 → Prop} {P : Prop} (h : ∃ x1, ∃ x2, a1 x1 x2) (k : ∀ (x1 : α1) (x2 : α2) (h1 : a1 x1 x2), P) : P := Exists.elim h fun y1 g1 => Exists.elim g1 fun y2 g2 => k y1 y2 g2
theorem ob_AAA {a1 : Prop} {a2 : Prop} {a3 : Prop} {a4 : Prop} {P : Prop} (h : a1 ∧ a2 ∧ a3 ∧ a4) (k : ∀ (h1 : a1) (h2 : a2) (h3 : a3) (h4 : a4), P) : P := k h.1 h.2.1 h.2.2.1 h.2.2.2
theorem ob_AAE.{u1} {α1 : Sort u1} {a1 : Prop} {a2 : Prop} {a3 : α1 → Prop} {P : Prop} (h : a1 ∧ a2 ∧ (∃ x1, a3 x1)) (k : ∀ (h1 : a1) (h2 : a2) (x1 : α1) (h3 : a3 x1), P) : P := Exists.elim h.2.2 fun y1 g1 => k h.1 h.2.1 y1 g1
theorem ob_AEA.{u1} {α1 : Sort u1} {a1 : Prop} {a2 : α1 → Prop} {a3 : α1 → Prop} {P : Prop} (h : a1 ∧ (∃ x1, a2 x1 ∧ a3 x1)) (k : ∀ (h1 : a1) (x1 : α1) (h2 : a2 x1) (h3 : a3 x1), P) : P := Exists.elim h.2 fun y1 g1 => k h.1 y1 g1.1 g1.2
theorem ob_EAA.{u1} {α1 : Sort u1} {a1 : α1 → Prop} {a2 : α1 → Prop} {a3 : α1 → Prop} {P : Prop} (h : ∃ x1, a1 x1 ∧ a2 x1 ∧ a3 x1) (k : ∀ (x1 : α1) (h1 : a1 x1) (h2 : a2 x1) (h3 : a3 x1), P) : P := Exists.elim h fun y1 g1 => k y1 g1.1 g1.2.1 g1.2.2
theorem ob_EEA.{u1, u2} {α1 : Sort u1} {α2 : Sort u2} {a1 : α1 → α2 → Prop} {a2 : α1 → α2 → Prop} {P : Prop} (h : ∃ x1, ∃ x2, a1 x1 x2 ∧ a2 x1 x2) (k : ∀ (x1 : α1) (x2 : α2) (h1 : a1 x1 x2) (h2 : a2 x1 x2), P) : P := Exists.elim h fun y1 g1 => Exists.elim g1 fun y2 g2 => k y1 y2 g2.1 g2.2
theorem ob_EEE.{u1, u2, u3} {α1 : Sort u1} {α2 : Sort u2} {α3 : Sort u3} {a1 : α1 → α2 → α3 → Prop} {P : Prop} (h : ∃ x1, ∃ x2, ∃ x3, a1 x1 x2 x3) (k : ∀ (x1 : α1) (x2 : α2) (x3 : α3) (h1 : a1 x1 x2 x3), P) : P := Exists.elim h fun y1 g1 => Exists.elim g1 fun y2 g2 => Exists.elim g2 fun y3 g3 => k y1 y2 y3 g3
theorem ob_AAAA {a1 : Prop} {a2 : Prop} {a3 : Prop} {a4 : Prop} {a5 : Prop} {P : Prop} (h : a1 ∧ a2 ∧ a3 ∧ a4 ∧ a5) (k : ∀ (h1 : a1) (h2 : a2) (h3 : a3) (h4 : a4) (h5 : a5), P) : P := k h.1 h.2.1 h.2.2.1 h.2.2.2.1 h.2.2.2.2
theorem ob_AEEA.{u1, u2} {α1 : Sort u1} {α2 : Sort u2} {a1 : Prop} {a2 : α1 → α2 → Prop} {a3 : α1 → α2 → Prop} {P : Prop} (h : a1 ∧ (∃ x1, ∃ x2, a2 x1 x2 ∧ a3 x1 x2)) (k : ∀ (h1 : a1) (x1 : α1) (x2 : α2) (h2 : a2 x1 x2) (h3 : a3 x1 x2), P) : P := Exists.elim h.2 fun y1 g1 => Exists.elim g1 fun y2 g2 => k h.1 y1 y2 g2.1 g2.2
theorem ob_EAAA.{u1} {α1 : Sort u1} {a1 : α1 → Prop} {a2 : α1 → Prop} {a3 : α1 → Prop} {a4 : α1 → Prop} {P : Prop} (h : ∃ x1, a1 x1 ∧ a2 x1 ∧ a3 x1 ∧ a4 x1) (k : ∀ (x1 : α1) (h1 : a1 x1) (h2 : a2 x1) (h3 : a3 x1) (h4 : a4 x1), P) : P := Exists.elim h fun y1 g1 => k y1 g1.1 g1.2.1 g1.2.2.1 g1.2.2.2
theorem ob_EAAE.{u1, u2} {α1 : Sort u1} {α2 : Sort u2} {a1 : α1 → Prop} {a2 : α1 → Prop} {a3 : α1 → α2 → Prop} {P : Prop} (h : ∃ x1, a1 x1 ∧ a2 x1 ∧ (∃ x2, a3 x1 x2)) (k : ∀ (x1 : α1) (h1 : a1 x1) (h2 : a2 x1) (x2 : α2) (h3 : a3 x1 x2), P) : P := Exists.elim h fun y1 g1 => Exists.elim g1.2.2 fun y2 g2 => k y1 g1.1 g1.2.1 y2 g2
theorem ob_EEAA.{u1, u2} {α1 : Sort u1} {α2 : Sort u2} {a1 : α1 → α2 → Prop} {a2 : α1 → α2 → Prop} {a3 : α1 → α2 → Prop} {P : Prop} (h : ∃ x1, ∃ x2, a1 x1 x2 ∧ a2 x1 x2 ∧ a3 x1 x2) (k : ∀ (x1 : α1) (x2 : α2) (h1 : a1 x1 x2) (h2 : a2 x1 x2) (h3 : a3 x1 x2), P) : P := Exists.elim h fun y1 g1 => Exists.elim g1 fun y2 g2 => k y1 y2 g2.1 g2.2.1 g2.2.2
theorem ob_EEEA.{u1, u2, u3} {α1 : Sort u1} {α2 : Sort u2} {α3 : Sort u3} {a1 : α1 → α2 → α3 → Prop} {a2 : α1 → α2 → α3 → Prop} {P : Prop} (h : ∃ x1, ∃ x2, ∃ x3, a1 x1 x2 x3 ∧ a2 x1 x2 x3) (k : ∀ (x1 : α1) (x2 : α2) (x3 : α3) (h1 : a1 x1 x2 x3) (h2 : a2 x1 x2 x3), P) : P := Exists.elim h fun y1 g1 => Exists.elim g1 fun y2 g2 => Exists.elim g2 fun y3 g3 => k y1 y2 y3 g3.1 g3.2
theorem ob_EEEE.{u1, u2, u3, u4} {α1 : Sort u1} {α2 : Sort u2} {α3 : Sort u3} {α4 : Sort u4} {a1 : α1 → α2 → α3 → α4 → Prop} {P : Prop} (h : ∃ x1, ∃ x2, ∃ x3, ∃ x4, a1 x1 x2 x3 x4) (k : ∀ (x1 : α1) (x2 : α2) (x3 : α3) (x4 : α4) (h1 : a1 x1 x2 x3 x4), P) : P := Exists.elim h fun y1 g1 => Exists.elim g1 fun y2 g2 => Exists.elim g2 fun y3 g3 => Exists.elim g3 fun y4 g4 => k y1 y2 y3 y4 g4
theorem ob_AEEAA.{u1, u2} {α1 : Sort u1} {α2 : Sort u2} {a1 : Prop} {a2 : α1 → α2 → Prop} {a3 : α1 → α2 → Prop} {a4 : α1 → α2 → Prop} {P : Prop} (h : a1 ∧ (∃ x1, ∃ x2, a2 x1 x2 ∧ a3 x1 x2 ∧ a4 x1 x2)) (k : ∀ (h1 : a1) (x1 : α1) (x2 : α2) (h2 : a2 x1 x2) (h3 : a3 x1 x2) (h4 : a4 x1 x2), P) : P := Exists.elim h.2 fun y1 g1 => Exists.elim g1 fun y2 g2 => k h.1 y1 y2 g2.1 g2.2.1 g2.2.2
theorem ob_EAAAA.{u1} {α1 : Sort u1} {a1 : α1 → Prop} {a2 : α1 → Prop} {a3 : α1 → Prop} {a4 : α1 → Prop} {a5 : α1 → Prop} {P : Prop} (h : ∃ x1, a1 x1 ∧ a2 x1 ∧ a3 x1 ∧ a4 x1 ∧ a5 x1) (k : ∀ (x1 : α1) (h1 : a1 x1) (h2 : a2 x1) (h3 : a3 x1) (h4 : a4 x1) (h5 : a5 x1), P) : P := Exists.elim h fun y1 g1 => k y1 g1.1 g1.2.1 g1.2.2.1 g1.2.2.2.1 g1.2.2.2.2
theorem ob_EAAAE.{u1, u2} {α1 : Sort u1} {α2 : Sort u2} {a1 : α1 → Prop} {a2 : α1 → Prop} {a3 : α1 → Prop} {a4 : α1 → α2 → Prop} {P : Prop} (h : ∃ x1, a1 x1 ∧ a2 x1 ∧ a3 x1 ∧ (∃ x2, a4 x1 x2)) (k : ∀ (x1 : α1) (h1 : a1 x1) (h2 : a2 x1) (h3 : a3 x1) (x2 : α2) (h4 : a4 x1 x2), P) : P := Exists.elim h fun y1 g1 => Exists.elim g1.2.2.2 fun y2 g2 => k y1 g1.1 g1.2.1 g1.2.2.1 y2 g2
theorem ob_EEAAA.{u1, u2} {α1 : Sort u1} {α2 : Sort u2} {a1 : α1 → α2 → Prop} {a2 : α1 → α2 → Prop} {a3 : α1 → α2 → Prop} {a4 : α1 → α2 → Prop} {P : Prop} (h : ∃ x1, ∃ x2, a1 x1 x2 ∧ a2 x1 x2 ∧ a3 x1 x2 ∧ a4 x1 x2) (k : ∀ (x1 : α1) (x2 : α2) (h1 : a1 x1 x2) (h2 : a2 x1 x2) (h3 : a3 x1 x2) (h4 : a4 x1 x2), P) : P := Exists.elim h fun y1 g1 => Exists.elim g1 fun y2 g2 => k y1 y2 g2.1 g2.2.1 g2.2.2.1 g2.2.2.2
theorem ob_EEEAA.{u1, u2, u3} {α1 : Sort u1} {α2 : Sort u2} {α3 : Sort u3} {a1 : α1 → α2 → α3 → Prop} {a2 : α1 → α2 → α3 → Prop} {a3 : α1 → α2 → α3 → Prop} {P : Prop} (h : ∃ x1, ∃ x2, ∃ x3, a1 x1 x2 x3 ∧ a2 x1 x2 x3 ∧ a3 x1 x2 x3) (k : ∀ (x1 : α1) (x2 : α2) (x3 : α3) (h1 : a1 x1 x2 x3) (h2 : a2 x1 x2 x3) (h3 : a3 x1 x2 x3), P) : P := Exists.elim h fun y1 g1 => Exists.elim g1 fun y2 g2 => Exists.elim g2 fun y3 g3 => k y1 y2 y3 g3.1 g3.2.1 g3.2.2
theorem ob_EEEEE.{u1, u2, u3, u4, u5} {α1 : Sort u1} {α2 : Sort u2} {α3 : Sort u3} {α4 : Sort u4} {α5 : Sort u5} {a1 : α1 → α2 → α3 → α4 → α5 → Prop} {P : Prop} (h : ∃ x1, ∃ x2, ∃ x3, ∃ x4, ∃ x5, a1 x1 x2 x3 x4 x5) (k : ∀ (x1 : α1) (x2 : α2) (x3 : α3) (x4 : α4) (x5 : α5) (h1 : a1 x1 x2 x3 x4 x5), P) : P := Exists.elim h fun y1 g1 => Exists.elim g1 fun y2 g2 => Exists.elim g2 fun y3 g3 => Exists.elim g3 fun y4 g4 => Exists.elim g4 fun y5 g5 => k y1 y2 y3 y4 y5 g5
theorem ob_AEEEEA.{u1, u2, u3, u4} {α1 : Sort u1} {α2 : Sort u2} {α3 : Sort u3} {α4 : Sort u4} {a1 : Prop} {a2 : α1 → α2 → α3 → α4 → Prop} {a3 : α1 → α2 → α3 → α4 → Prop} {P : Prop} (h : a1 ∧ (∃ x1, ∃ x2, ∃ x3, ∃ x4, a2 x1 x2 x3 x4 ∧ a3 x1 x2 x3 x4)) (k : ∀ (h1 : a1) (x1 : α1) (x2 : α2) (x3 : α3) (x4 : α4) (h2 : a2 x1 x2 x3 x4) (h3 : a3 x1 x2 x3 x4), P) : P := Exists.elim h.2 fun y1 g1 => Exists.elim g1 fun y2 g2 => Exists.elim g2 fun y3 g3 => Exists.elim g3 fun y4 g4 => k h.1 y1 y2 y3 y4 g4.1 g4.2
theorem ob_EAAAEA.{u1, u2} {α1 : Sort u1} {α2 : Sort u2} {a1 : α1 → Prop} {a2 : α1 → Prop} {a3 : α1 → Prop} {a4 : α1 → α2 → Prop} {a5 : α1 → α2 → Prop} {P : Prop} (h : ∃ x1, a1 x1 ∧ a2 x1 ∧ a3 x1 ∧ (∃ x2, a4 x1 x2 ∧ a5 x1 x2)) (k : ∀ (x1 : α1) (h1 : a1 x1) (h2 : a2 x1) (h3 : a3 x1) (x2 : α2) (h4 : a4 x1 x2) (h5 : a5 x1 x2), P) : P := Exists.elim h fun y1 g1 => Exists.elim g1.2.2.2 fun y2 g2 => k y1 g1.1 g1.2.1 g1.2.2.1 y2 g2.1 g2.2
theorem ob_EAAEEA.{u1, u2, u3} {α1 : Sort u1} {α2 : Sort u2} {α3 : Sort u3} {a1 : α1 → Prop} {a2 : α1 → Prop} {a3 : α1 → α2 → α3 → Prop} {a4 : α1 → α2 → α3 → Prop} {P : Prop} (h : ∃ x1, a1 x1 ∧ a2 x1 ∧ (∃ x2, ∃ x3, a3 x1 x2 x3 ∧ a4 x1 x2 x3)) (k : ∀ (x1 : α1) (h1 : a1 x1) (h2 : a2 x1) (x2 : α2) (x3 : α3) (h3 : a3 x1 x2 x3) (h4 : a4 x1 x2 x3), P) : P := Exists.elim h fun y1 g1 => Exists.elim g1.2.2 fun y2 g2 => Exists.elim g2 fun y3 g3 => k y1 g1.1 g1.2.1 y2 y3 g3.1 g3.2
theorem ob_EEAAEA.{u1, u2, u3} {α1 : Sort u1} {α2 : Sort u2} {α3 : Sort u3} {a1 : α1 → α2 → Prop} {a2 : α1 → α2 → Prop} {a3 : α1 → α2 → α3 → Prop} {a4 : α1 → α2 → α3 → Prop} {P : Prop} (h : ∃ x1, ∃ x2, a1 x1 x2 ∧ a2 x1 x2 ∧ (∃ x3, a3 x1 x2 x3 ∧ a4 x1 x2 x3)) (k : ∀ (x1 : α1) (x2 : α2) (h1 : a1 x1 x2) (h2 : a2 x1 x2) (x3 : α3) (h3 : a3 x1 x2 x3) (h4 : a4 x1 x2 x3), P) : P := Exists.elim h fun y1 g1 => Exists.elim g1 fun y2 g2 => Exists.elim g2.2.2 fun y3 g3 => k y1 y2 g2.1 g2.2.1 y3 g3.1 g3.2
theorem ob_EEEAAA.{u1, u2, u3} {α1 : Sort u1} {α2 : Sort u2} {α3 : Sort u3} {a1 : α1 → α2 → α3 → Prop} {a2 : α1 → α2 → α3 → Prop} {a3 : α1 → α2 → α3 → Prop} {a4 : α1 → α2 → α3 → Prop} {P : Prop} (h : ∃ x1, ∃ x2, ∃ x3, a1 x1 x2 x3 ∧ a2 x1 x2 x3 ∧ a3 x1 x2 x3 ∧ a4 x1 x2 x3) (k : ∀ (x1 : α1) (x2 : α2) (x3 : α3) (h1 : a1 x1 x2 x3) (h2 : a2 x1 x2 x3) (h3 : a3 x1 x2 x3) (h4 : a4 x1 x2 x3), P) : P := Exists.elim h fun y1 g1 => Exists.elim g1 fun y2 g2 => Exists.elim g2 fun y3 g3 => k y1 y2 y3 g3.1 g3.2.1 g3.2.2.1 g3.2.2.2
theorem ob_EEEEEE.{u1, u2, u3, u4, u5, u6} {α1 : Sort u1} {α2 : Sort u2} {α3 : Sort u3} {α4 : Sort u4} {α5 : Sort u5} {α6 : Sort u6} {a1 : α1 → α2 → α3 → α4 → α5 → α6 → Prop} {P : Prop} (h : ∃ x1, ∃ x2, ∃ x3, ∃ x4, ∃ x5, ∃ x6, a1 x1 x2 x3 x4 x5 x6) (k : ∀ (x1 : α1) (x2 : α2) (x3 : α3) (x4 : α4) (x5 : α5) (x6 : α6) (h1 : a1 x1 x2 x3 x4 x5 x6), P) : P := Exists.elim h fun y1 g1 => Exists.elim g1 fun y2 g2 => Exists.elim g2 fun y3 g3 => Exists.elim g3 fun y4 g4 => Exists.elim g4 fun y5 g5 => Exists.elim g5 fun y6 g6 => k y1 y2 y3 y4 y5 y6 g6
theorem ob_AAAAAAA {a1 : Prop} {a2 : Prop} {a3 : Prop} {a4 : Prop} {a5 : Prop} {a6 : Prop} {a7 : Prop} {a8 : Prop} {P : Prop} (h : a1 ∧ a2 ∧ a3 ∧ a4 ∧ a5 ∧ a6 ∧ a7 ∧ a8) (k : ∀ (h1 : a1) (h2 : a2) (h3 : a3) (h4 : a4) (h5 : a5) (h6 : a6) (h7 : a7) (h8 : a8), P) : P := k h.1 h.2.1 h.2.2.1 h.2.2.2.1 h.2.2.2.2.1 h.2.2.2.2.2.1 h.2.2.2.2.2.2.1 h.2.2.2.2.2.2.2
theorem ob_AEEEEAA.{u1, u2, u3, u4} {α1 : Sort u1} {α2 : Sort u2} {α3 : Sort u3} {α4 : Sort u4} {a1 : Prop} {a2 : α1 → α2 → α3 → α4 → Prop} {a3 : α1 → α2 → α3 → α4 → Prop} {a4 : α1 → α2 → α3 → α4 → Prop} {P : Prop} (h : a1 ∧ (∃ x1, ∃ x2, ∃ x3, ∃ x4, a2 x1 x2 x3 x4 ∧ a3 x1 x2 x3 x4 ∧ a4 x1 x2 x3 x4)) (k : ∀ (h1 : a1) (x1 : α1) (x2 : α2) (x3 : α3) (x4 : α4) (h2 : a2 x1 x2 x3 x4) (h3 : a3 x1 x2 x3 x4) (h4 : a4 x1 x2 x3 x4), P) : P := Exists.elim h.2 fun y1 g1 => Exists.elim g1 fun y2 g2 => Exists.elim g2 fun y3 g3 => Exists.elim g3 fun y4 g4 => k h.1 y1 y2 y3 y4 g4.1 g4.2.1 g4.2.2
theorem ob_EEAAAEA.{u1, u2, u3} {α1 : Sort u1} {α2 : Sort u2} {α3 : Sort u3} {a1 : α1 → α2 → Prop} {a2 : α1 → α2 → Prop} {a3 : α1 → α2 → Prop} {a4 : α1 → α2 → α3 → Prop} {a5 : α1 → α2 → α3 → Prop} {P : Prop} (h : ∃ x1, ∃ x2, a1 x1 x2 ∧ a2 x1 x2 ∧ a3 x1 x2 ∧ (∃ x3, a4 x1 x2 x3 ∧ a5 x1 x2 x3)) (k : ∀ (x1 : α1) (x2 : α2) (h1 : a1 x1 x2) (h2 : a2 x1 x2) (h3 : a3 x1 x2) (x3 : α3) (h4 : a4 x1 x2 x3) (h5 : a5 x1 x2 x3), P) : P := Exists.elim h fun y1 g1 => Exists.elim g1 fun y2 g2 => Exists.elim g2.2.2.2 fun y3 g3 => k y1 y2 g2.1 g2.2.1 g2.2.2.1 y3 g3.1 g3.2
theorem ob_EEAAEAA.{u1, u2, u3} {α1 : Sort u1} {α2 : Sort u2} {α3 : Sort u3} {a1 : α1 → α2 → Prop} {a2 : α1 → α2 → Prop} {a3 : α1 → α2 → α3 → Prop} {a4 : α1 → α2 → α3 → Prop} {a5 : α1 → α2 → α3 → Prop} {P : Prop} (h : ∃ x1, ∃ x2, a1 x1 x2 ∧ a2 x1 x2 ∧ (∃ x3, a3 x1 x2 x3 ∧ a4 x1 x2 x3 ∧ a5 x1 x2 x3)) (k : ∀ (x1 : α1) (x2 : α2) (h1 : a1 x1 x2) (h2 : a2 x1 x2) (x3 : α3) (h3 : a3 x1 x2 x3) (h4 : a4 x1 x2 x3) (h5 : a5 x1 x2 x3), P) : P := Exists.elim h fun y1 g1 => Exists.elim g1 fun y2 g2 => Exists.elim g2.2.2 fun y3 g3 => k y1 y2 g2.1 g2.2.1 y3 g3.1 g3.2.1 g3.2.2
theorem ob_EEAAEEA.{u1, u2, u3, u4} {α1 : Sort u1} {α2 : Sort u2} {α3 : Sort u3} {α4 : Sort u4} {a1 : α1 → α2 → Prop} {a2 : α1 → α2 → Prop} {a3 : α1 → α2 → α3 → α4 → Prop} {a4 : α1 → α2 → α3 → α4 → Prop} {P : Prop} (h : ∃ x1, ∃ x2, a1 x1 x2 ∧ a2 x1 x2 ∧ (∃ x3, ∃ x4, a3 x1 x2 x3 x4 ∧ a4 x1 x2 x3 x4)) (k : ∀ (x1 : α1) (x2 : α2) (h1 : a1 x1 x2) (h2 : a2 x1 x2) (x3 : α3) (x4 : α4) (h3 : a3 x1 x2 x3 x4) (h4 : a4 x1 x2 x3 x4), P) : P := Exists.elim h fun y1 g1 => Exists.elim g1 fun y2 g2 => Exists.elim g2.2.2 fun y3 g3 => Exists.elim g3 fun y4 g4 => k y1 y2 g2.1 g2.2.1 y3 y4 g4.1 g4.2
theorem ob_EEEAAAA.{u1, u2, u3} {α1 : Sort u1} {α2 : Sort u2} {α3 : Sort u3} {a1 : α1 → α2 → α3 → Prop} {a2 : α1 → α2 → α3 → Prop} {a3 : α1 → α2 → α3 → Prop} {a4 : α1 → α2 → α3 → Prop} {a5 : α1 → α2 → α3 → Prop} {P : Prop} (h : ∃ x1, ∃ x2, ∃ x3, a1 x1 x2 x3 ∧ a2 x1 x2 x3 ∧ a3 x1 x2 x3 ∧ a4 x1 x2 x3 ∧ a5 x1 x2 x3) (k : ∀ (x1 : α1) (x2 : α2) (x3 : α3) (h1 : a1 x1 x2 x3) (h2 : a2 x1 x2 x3) (h3 : a3 x1 x2 x3) (h4 : a4 x1 x2 x3) (h5 : a5 x1 x2 x3), P) : P := Exists.elim h fun y1 g1 => Exists.elim g1 fun y2 g2 => Exists.elim g2 fun y3 g3 => k y1 y2 y3 g3.1 g3.2.1 g3.2.2.1 g3.2.2.2.1 g3.2.2.2.2
theorem ob_EEEEAAA.{u1, u2, u3, u4} {α1 : Sort u1} {α2 : Sort u2} {α3 : Sort u3} {α4 : Sort u4} {a1 : α1 → α2 → α3 → α4 → Prop} {a2 : α1 → α2 → α3 → α4 → Prop} {a3 : α1 → α2 → α3 → α4 → Prop} {a4 : α1 → α2 → α3 → α4 → Prop} {P : Prop} (h : ∃ x1, ∃ x2, ∃ x3, ∃ x4, a1 x1 x2 x3 x4 ∧ a2 x1 x2 x3 x4 ∧ a3 x1 x2 x3 x4 ∧ a4 x1 x2 x3 x4) (k : ∀ (x1 : α1) (x2 : α2) (x3 : α3) (x4 : α4) (h1 : a1 x1 x2 x3 x4) (h2 : a2 x1 x2 x3 x4) (h3 : a3 x1 x2 x3 x4) (h4 : a4 x1 x2 x3 x4), P) : P := Exists.elim h fun y1 g1 => Exists.elim g1 fun y2 g2 => Exists.elim g2 fun y3 g3 => Exists.elim g3 fun y4 g4 => k y1 y2 y3 y4 g4.1 g4.2.1 g4.2.2.1 g4.2.2.2
theorem ob_EEEEEAA.{u1, u2, u3, u4, u5} {α1 : Sort u1} {α2 : Sort u2} {α3 : Sort u3} {α4 : Sort u4} {α5 : Sort u5} {a1 : α1 → α2 → α3 → α4 → α5 → Prop} {a2 : α1 → α2 → α3 → α4 → α5 → Prop} {a3 : α1 → α2 → α3 → α4 → α5 → Prop} {P : Prop} (h : ∃ x1, ∃ x2, ∃ x3, ∃ x4, ∃ x5, a1 x1 x2 x3 x4 x5 ∧ a2 x1 x2 x3 x4 x5 ∧ a3 x1 x2 x3 x4 x5) (k : ∀ (x1 : α1) (x2 : α2) (x3 : α3) (x4 : α4) (x5 : α5) (h1 : a1 x1 x2 x3 x4 x5) (h2 : a2 x1 x2 x3 x4 x5) (h3 : a3 x1 x2 x3 x4 x5), P) : P := Exists.elim h fun y1 g1 => Exists.elim g1 fun y2 g2 => Exists.elim g2 fun y3 g3 => Exists.elim g3 fun y4 g4 => Exists.elim g4 fun y5 g5 => k y1 y2 y3 y4 y5 g5.1 g5.2.1 g5.2.2
theorem ob_EEEEEEA.{u1, u2, u3, u4, u5, u6} {α1 : Sort u1} {α2 : Sort u2} {α3 : Sort u3} {α4 : Sort u4} {α5 : Sort u5} {α6 : Sort u6} {a1 : α1 → α2 → α3 → α4 → α5 → α6 → Prop} {a2 : α1 → α2 → α3 → α4 → α5 → α6 → Prop} {P : Prop} (h : ∃ x1, ∃ x2, ∃ x3, ∃ x4, ∃ x5, ∃ x6, a1 x1 x2 x3 x4 x5 x6 ∧ a2 x1 x2 x3 x4 x5 x6) (k : ∀ (x1 : α1) (x2 : α2) (x3 : α3) (x4 : α4) (x5 : α5) (x6 : α6) (h1 : a1 x1 x2 x3 x4 x5 x6) (h2 : a2 x1 x2 x3 x4 x5 x6), P) : P := Exists.elim h fun y1 g1 => Exists.elim g1 fun y2 g2 => Exists.elim g2 fun y3 g3 => Exists.elim g3 fun y4 g4 => Exists.elim g4 fun y5 g5 => Exists.elim g5 fun y6 g6 => k y1 y2 y3 y4 y5 y6 g6.1 g6.2
theorem ob_AEEEEAAA.{u1, u2, u3, u4} {α1 : Sort u1} {α2 : Sort u2} {α3 : Sort u3} {α4 : Sort u4} {a1 : Prop} {a2 : α1 → α2 → α3 → α4 → Prop} {a3 : α1 → α2 → α3 → α4 → Prop} {a4 : α1 → α2 → α3 → α4 → Prop} {a5 : α1 → α2 → α3 → α4 → Prop} {P : Prop} (h : a1 ∧ (∃ x1, ∃ x2, ∃ x3, ∃ x4, a2 x1 x2 x3 x4 ∧ a3 x1 x2 x3 x4 ∧ a4 x1 x2 x3 x4 ∧ a5 x1 x2 x3 x4)) (k : ∀ (h1 : a1) (x1 : α1) (x2 : α2) (x3 : α3) (x4 : α4) (h2 : a2 x1 x2 x3 x4) (h3 : a3 x1 x2 x3 x4) (h4 : a4 x1 x2 x3 x4) (h5 : a5 x1 x2 x3 x4), P) : P := Exists.elim h.2 fun y1 g1 => Exists.elim g1 fun y2 g2 => Exists.elim g2 fun y3 g3 => Exists.elim g3 fun y4 g4 => k h.1 y1 y2 y3 y4 g4.1 g4.2.1 g4.2.2.1 g4.2.2.2
theorem ob_EEAAAEAA.{u1, u2, u3} {α1 : Sort u1} {α2 : Sort u2} {α3 : Sort u3} {a1 : α1 → α2 → Prop} {a2 : α1 → α2 → Prop} {a3 : α1 → α2 → Prop} {a4 : α1 → α2 → α3 → Prop} {a5 : α1 → α2 → α3 → Prop} {a6 : α1 → α2 → α3 → Prop} {P : Prop} (h : ∃ x1, ∃ x2, a1 x1 x2 ∧ a2 x1 x2 ∧ a3 x1 x2 ∧ (∃ x3, a4 x1 x2 x3 ∧ a5 x1 x2 x3 ∧ a6 x1 x2 x3)) (k : ∀ (x1 : α1) (x2 : α2) (h1 : a1 x1 x2) (h2 : a2 x1 x2) (h3 : a3 x1 x2) (x3 : α3) (h4 : a4 x1 x2 x3) (h5 : a5 x1 x2 x3) (h6 : a6 x1 x2 x3), P) : P := Exists.elim h fun y1 g1 => Exists.elim g1 fun y2 g2 => Exists.elim g2.2.2.2 fun y3 g3 => k y1 y2 g2.1 g2.2.1 g2.2.2.1 y3 g3.1 g3.2.1 g3.2.2
theorem ob_EEEAAAAA.{u1, u2, u3} {α1 : Sort u1} {α2 : Sort u2} {α3 : Sort u3} {a1 : α1 → α2 → α3 → Prop} {a2 : α1 → α2 → α3 → Prop} {a3 : α1 → α2 → α3 → Prop} {a4 : α1 → α2 → α3 → Prop} {a5 : α1 → α2 → α3 → Prop} {a6 : α1 → α2 → α3 → Prop} {P : Prop} (h : ∃ x1, ∃ x2, ∃ x3, a1 x1 x2 x3 ∧ a2 x1 x2 x3 ∧ a3 x1 x2 x3 ∧ a4 x1 x2 x3 ∧ a5 x1 x2 x3 ∧ a6 x1 x2 x3) (k : ∀ (x1 : α1) (x2 : α2) (x3 : α3) (h1 : a1 x1 x2 x3) (h2 : a2 x1 x2 x3) (h3 : a3 x1 x2 x3) (h4 : a4 x1 x2 x3) (h5 : a5 x1 x2 x3) (h6 : a6 x1 x2 x3), P) : P := Exists.elim h fun y1 g1 => Exists.elim g1 fun y2 g2 => Exists.elim g2 fun y3 g3 => k y1 y2 y3 g3.1 g3.2.1 g3.2.2.1 g3.2.2.2.1 g3.2.2.2.2.1 g3.2.2.2.2.2
theorem ob_AEEEEAAAA.{u1, u2, u3, u4} {α1 : Sort u1} {α2 : Sort u2} {α3 : Sort u3} {α4 : Sort u4} {a1 : Prop} {a2 : α1 → α2 → α3 → α4 → Prop} {a3 : α1 → α2 → α3 → α4 → Prop} {a4 : α1 → α2 → α3 → α4 → Prop} {a5 : α1 → α2 → α3 → α4 → Prop} {a6 : α1 → α2 → α3 → α4 → Prop} {P : Prop} (h : a1 ∧ (∃ x1, ∃ x2, ∃ x3, ∃ x4, a2 x1 x2 x3 x4 ∧ a3 x1 x2 x3 x4 ∧ a4 x1 x2 x3 x4 ∧ a5 x1 x2 x3 x4 ∧ a6 x1 x2 x3 x4)) (k : ∀ (h1 : a1) (x1 : α1) (x2 : α2) (x3 : α3) (x4 : α4) (h2 : a2 x1 x2 x3 x4) (h3 : a3 x1 x2 x3 x4) (h4 : a4 x1 x2 x3 x4) (h5 : a5 x1 x2 x3 x4) (h6 : a6 x1 x2 x3 x4), P) : P := Exists.elim h.2 fun y1 g1 => Exists.elim g1 fun y2 g2 => Exists.elim g2 fun y3 g3 => Exists.elim g3 fun y4 g4 => k h.1 y1 y2 y3 y4 g4.1 g4.2.1 g4.2.2.1 g4.2.2.2.1 g4.2.2.2.2
theorem ob_EAAEAAAAA.{u1, u2} {α1 : Sort u1} {α2 : Sort u2} {a1 : α1 → Prop} {a2 : α1 → Prop} {a3 : α1 → α2 → Prop} {a4 : α1 → α2 → Prop} {a5 : α1 → α2 → Prop} {a6 : α1 → α2 → Prop} {a7 : α1 → α2 → Prop} {a8 : α1 → α2 → Prop} {P : Prop} (h : ∃ x1, a1 x1 ∧ a2 x1 ∧ (∃ x2, a3 x1 x2 ∧ a4 x1 x2 ∧ a5 x1 x2 ∧ a6 x1 x2 ∧ a7 x1 x2 ∧ a8 x1 x2)) (k : ∀ (x1 : α1) (h1 : a1 x1) (h2 : a2 x1) (x2 : α2) (h3 : a3 x1 x2) (h4 : a4 x1 x2) (h5 : a5 x1 x2) (h6 : a6 x1 x2) (h7 : a7 x1 x2) (h8 : a8 x1 x2), P) : P := Exists.elim h fun y1 g1 => Exists.elim g1.2.2 fun y2 g2 => k y1 g1.1 g1.2.1 y2 g2.1 g2.2.1 g2.2.2.1 g2.2.2.2.1 g2.2.2.2.2.1 g2.2.2.2.2.2
theorem ob_EEAAAAAAA.{u1, u2} {α1 : Sort u1} {α2 : Sort u2} {a1 : α1 → α2 → Prop} {a2 : α1 → α2 → Prop} {a3 : α1 → α2 → Prop} {a4 : α1 → α2 → Prop} {a5 : α1 → α2 → Prop} {a6 : α1 → α2 → Prop} {a7 : α1 → α2 → Prop} {a8 : α1 → α2 → Prop} {P : Prop} (h : ∃ x1, ∃ x2, a1 x1 x2 ∧ a2 x1 x2 ∧ a3 x1 x2 ∧ a4 x1 x2 ∧ a5 x1 x2 ∧ a6 x1 x2 ∧ a7 x1 x2 ∧ a8 x1 x2) (k : ∀ (x1 : α1) (x2 : α2) (h1 : a1 x1 x2) (h2 : a2 x1 x2) (h3 : a3 x1 x2) (h4 : a4 x1 x2) (h5 : a5 x1 x2) (h6 : a6 x1 x2) (h7 : a7 x1 x2) (h8 : a8 x1 x2), P) : P := Exists.elim h fun y1 g1 => Exists.elim g1 fun y2 g2 => k y1 y2 g2.1 g2.2.1 g2.2.2.1 g2.2.2.2.1 g2.2.2.2.2.1 g2.2.2.2.2.2.1 g2.2.2.2.2.2.2.1 g2.2.2.2.2.2.2.2
theorem ob_EEAEAAEEA.{u1, u2, u3, u4, u5} {α1 : Sort u1} {α2 : Sort u2} {α3 : Sort u3} {α4 : Sort u4} {α5 : Sort u5} {a1 : α1 → α2 → Prop} {a2 : α1 → α2 → α3 → Prop} {a3 : α1 → α2 → α3 → Prop} {a4 : α1 → α2 → α3 → α4 → α5 → Prop} {a5 : α1 → α2 → α3 → α4 → α5 → Prop} {P : Prop} (h : ∃ x1, ∃ x2, a1 x1 x2 ∧ (∃ x3, a2 x1 x2 x3 ∧ a3 x1 x2 x3 ∧ (∃ x4, ∃ x5, a4 x1 x2 x3 x4 x5 ∧ a5 x1 x2 x3 x4 x5))) (k : ∀ (x1 : α1) (x2 : α2) (h1 : a1 x1 x2) (x3 : α3) (h2 : a2 x1 x2 x3) (h3 : a3 x1 x2 x3) (x4 : α4) (x5 : α5) (h4 : a4 x1 x2 x3 x4 x5) (h5 : a5 x1 x2 x3 x4 x5), P) : P := Exists.elim h fun y1 g1 => Exists.elim g1 fun y2 g2 => Exists.elim g2.2 fun y3 g3 => Exists.elim g3.2.2 fun y4 g4 => Exists.elim g4 fun y5 g5 => k y1 y2 g2.1 y3 g3.1 g3.2.1 y4 y5 g5.1 g5.2
theorem ob_EEEEEEAAAAA.{u1, u2, u3, u4, u5, u6} {α1 : Sort u1} {α2 : Sort u2} {α3 : Sort u3} {α4 : Sort u4} {α5 : Sort u5} {α6 : Sort u6} {a1 : α1 → α2 → α3 → α4 → α5 → α6 → Prop} {a2 : α1 → α2 → α3 → α4 → α5 → α6 → Prop} {a3 : α1 → α2 → α3 → α4 → α5 → α6 → Prop} {a4 : α1 → α2 → α3 → α4 → α5 → α6 → Prop} {a5 : α1 → α2 → α3 → α4 → α5 → α6 → Prop} {a6 : α1 → α2 → α3 → α4 → α5 → α6 → Prop} {P : Prop} (h : ∃ x1, ∃ x2, ∃ x3, ∃ x4, ∃ x5, ∃ x6, a1 x1 x2 x3 x4 x5 x6 ∧ a2 x1 x2 x3 x4 x5 x6 ∧ a3 x1 x2 x3 x4 x5 x6 ∧ a4 x1 x2 x3 x4 x5 x6 ∧ a5 x1 x2 x3 x4 x5 x6 ∧ a6 x1 x2 x3 x4 x5 x6) (k : ∀ (x1 : α1) (x2 : α2) (x3 : α3) (x4 : α4) (x5 : α5) (x6 : α6) (h1 : a1 x1 x2 x3 x4 x5 x6) (h2 : a2 x1 x2 x3 x4 x5 x6) (h3 : a3 x1 x2 x3 x4 x5 x6) (h4 : a4 x1 x2 x3 x4 x5 x6) (h5 : a5 x1 x2 x3 x4 x5 x6) (h6 : a6 x1 x2 x3 x4 x5 x6), P) : P := Exists.elim h fun y1 g1 => Exists.elim g1 fun y2 g2 => Exists.elim g2 fun y3 g3 => Exists.elim g3 fun y4 g4 => Exists.elim g4 fun y5 g5 => Exists.elim g5 fun y6 g6 => k y1 y2 y3 y4 y5 y6 g6.1 g6.2.1 g6.2.2.1 g6.2.2.2.1 g6.2.2.2.2.1 g6.2.2.2.2.2
theorem ob_EEEEEEEAAAA.{u1, u2, u3, u4, u5, u6, u7} {α1 : Sort u1} {α2 : Sort u2} {α3 : Sort u3} {α4 : Sort u4} {α5 : Sort u5} {α6 : Sort u6} {α7 : Sort u7} {a1 : α1 → α2 → α3 → α4 → α5 → α6 → α7 → Prop} {a2 : α1 → α2 → α3 → α4 → α5 → α6 → α7 → Prop} {a3 : α1 → α2 → α3 → α4 → α5 → α6 → α7 → Prop} {a4 : α1 → α2 → α3 → α4 → α5 → α6 → α7 → Prop} {a5 : α1 → α2 → α3 → α4 → α5 → α6 → α7 → Prop} {P : Prop} (h : ∃ x1, ∃ x2, ∃ x3, ∃ x4, ∃ x5, ∃ x6, ∃ x7, a1 x1 x2 x3 x4 x5 x6 x7 ∧ a2 x1 x2 x3 x4 x5 x6 x7 ∧ a3 x1 x2 x3 x4 x5 x6 x7 ∧ a4 x1 x2 x3 x4 x5 x6 x7 ∧ a5 x1 x2 x3 x4 x5 x6 x7) (k : ∀ (x1 : α1) (x2 : α2) (x3 : α3) (x4 : α4) (x5 : α5) (x6 : α6) (x7 : α7) (h1 : a1 x1 x2 x3 x4 x5 x6 x7) (h2 : a2 x1 x2 x3 x4 x5 x6 x7) (h3 : a3 x1 x2 x3 x4 x5 x6 x7) (h4 : a4 x1 x2 x3 x4 x5 x6 x7) (h5 : a5 x1 x2 x3 x4 x5 x6 x7), P) : P := Exists.elim h fun y1 g1 => Exists.elim g1 fun y2 g2 => Exists.elim g2 fun y3 g3 => Exists.elim g3 fun y4 g4 => Exists.elim g4 fun y5 g5 => Exists.elim g5 fun y6 g6 => Exists.elim g6 fun y7 g7 => k y1 y2 y3 y4 y5 y6 y7 g7.1 g7.2.1 g7.2.2.1 g7.2.2.2.1 g7.2.2.2.2
theorem ob_AEEEEEEAAAAA.{u1, u2, u3, u4, u5, u6} {α1 : Sort u1} {α2 : Sort u2} {α3 : Sort u3} {α4 : Sort u4} {α5 : Sort u5} {α6 : Sort u6} {a1 : Prop} {a2 : α1 → α2 → α3 → α4 → α5 → α6 → Prop} {a3 : α1 → α2 → α3 → α4 → α5 → α6 → Prop} {a4 : α1 → α2 → α3 → α4 → α5 → α6 → Prop} {a5 : α1 → α2 → α3 → α4 → α5 → α6 → Prop} {a6 : α1 → α2 → α3 → α4 → α5 → α6 → Prop} {a7 : α1 → α2 → α3 → α4 → α5 → α6 → Prop} {P : Prop} (h : a1 ∧ (∃ x1, ∃ x2, ∃ x3, ∃ x4, ∃ x5, ∃ x6, a2 x1 x2 x3 x4 x5 x6 ∧ a3 x1 x2 x3 x4 x5 x6 ∧ a4 x1 x2 x3 x4 x5 x6 ∧ a5 x1 x2 x3 x4 x5 x6 ∧ a6 x1 x2 x3 x4 x5 x6 ∧ a7 x1 x2 x3 x4 x5 x6)) (k : ∀ (h1 : a1) (x1 : α1) (x2 : α2) (x3 : α3) (x4 : α4) (x5 : α5) (x6 : α6) (h2 : a2 x1 x2 x3 x4 x5 x6) (h3 : a3 x1 x2 x3 x4 x5 x6) (h4 : a4 x1 x2 x3 x4 x5 x6) (h5 : a5 x1 x2 x3 x4 x5 x6) (h6 : a6 x1 x2 x3 x4 x5 x6) (h7 : a7 x1 x2 x3 x4 x5 x6), P) : P := Exists.elim h.2 fun y1 g1 => Exists.elim g1 fun y2 g2 => Exists.elim g2 fun y3 g3 => Exists.elim g3 fun y4 g4 => Exists.elim g4 fun y5 g5 => Exists.elim g5 fun y6 g6 => k h.1 y1 y2 y3 y4 y5 y6 g6.1 g6.2.1 g6.2.2.1 g6.2.2.2.1 g6.2.2.2.2.1 g6.2.2.2.2.2
theorem ob_EEEEEAAAAAAAA.{u1, u2, u3, u4, u5} {α1 : Sort u1} {α2 : Sort u2} {α3 : Sort u3} {α4 : Sort u4} {α5 : Sort u5} {a1 : α1 → α2 → α3 → α4 → α5 → Prop} {a2 : α1 → α2 → α3 → α4 → α5 → Prop} {a3 : α1 → α2 → α3 → α4 → α5 → Prop} {a4 : α1 → α2 → α3 → α4 → α5 → Prop} {a5 : α1 → α2 → α3 → α4 → α5 → Prop} {a6 : α1 → α2 → α3 → α4 → α5 → Prop} {a7 : α1 → α2 → α3 → α4 → α5 → Prop} {a8 : α1 → α2 → α3 → α4 → α5 → Prop} {a9 : α1 → α2 → α3 → α4 → α5 → Prop} {P : Prop} (h : ∃ x1, ∃ x2, ∃ x3, ∃ x4, ∃ x5, a1 x1 x2 x3 x4 x5 ∧ a2 x1 x2 x3 x4 x5 ∧ a3 x1 x2 x3 x4 x5 ∧ a4 x1 x2 x3 x4 x5 ∧ a5 x1 x2 x3 x4 x5 ∧ a6 x1 x2 x3 x4 x5 ∧ a7 x1 x2 x3 x4 x5 ∧ a8 x1 x2 x3 x4 x5 ∧ a9 x1 x2 x3 x4 x5) (k : ∀ (x1 : α1) (x2 : α2) (x3 : α3) (x4 : α4) (x5 : α5) (h1 : a1 x1 x2 x3 x4 x5) (h2 : a2 x1 x2 x3 x4 x5) (h3 : a3 x1 x2 x3 x4 x5) (h4 : a4 x1 x2 x3 x4 x5) (h5 : a5 x1 x2 x3 x4 x5) (h6 : a6 x1 x2 x3 x4 x5) (h7 : a7 x1 x2 x3 x4 x5) (h8 : a8 x1 x2 x3 x4 x5) (h9 : a9 x1 x2 x3 x4 x5), P) : P := Exists.elim h fun y1 g1 => Exists.elim g1 fun y2 g2 => Exists.elim g2 fun y3 g3 => Exists.elim g3 fun y4 g4 => Exists.elim g4 fun y5 g5 => k y1 y2 y3 y4 y5 g5.1 g5.2.1 g5.2.2.1 g5.2.2.2.1 g5.2.2.2.2.1 g5.2.2.2.2.2.1 g5.2.2.2.2.2.2.1 g5.2.2.2.2.2.2.2.1 g5.2.2.2.2.2.2.2.2
theorem ob_EEEEEEEEEEEEEEA.{u1, u2, u3, u4, u5, u6, u7, u8, u9, u10, u11, u12, u13, u14} {α1 : Sort u1} {α2 : Sort u2} {α3 : Sort u3} {α4 : Sort u4} {α5 : Sort u5} {α6 : Sort u6} {α7 : Sort u7} {α8 : Sort u8} {α9 : Sort u9} {α10 : Sort u10} {α11 : Sort u11} {α12 : Sort u12} {α13 : Sort u13} {α14 : Sort u14} {a1 : α1 → α2 → α3 → α4 → α5 → α6 → α7 → α8 → α9 → α10 → α11 → α12 → α13 → α14 → Prop} {a2 : α1 → α2 → α3 → α4 → α5 → α6 → α7 → α8 → α9 → α10 → α11 → α12 → α13 → α14 → Prop} {P : Prop} (h : ∃ x1, ∃ x2, ∃ x3, ∃ x4, ∃ x5, ∃ x6, ∃ x7, ∃ x8, ∃ x9, ∃ x10, ∃ x11, ∃ x12, ∃ x13, ∃ x14, a1 x1 x2 x3 x4 x5 x6 x7 x8 x9 x10 x11 x12 x13 x14 ∧ a2 x1 x2 x3 x4 x5 x6 x7 x8 x9 x10 x11 x12 x13 x14) (k : ∀ (x1 : α1) (x2 : α2) (x3 : α3) (x4 : α4) (x5 : α5) (x6 : α6) (x7 : α7) (x8 : α8) (x9 : α9) (x10 : α10) (x11 : α11) (x12 : α12) (x13 : α13) (x14 : α14) (h1 : a1 x1 x2 x3 x4 x5 x6 x7 x8 x9 x10 x11 x12 x13 x14) (h2 : a2 x1 x2 x3 x4 x5 x6 x7 x8 x9 x10 x11 x12 x13 x14), P) : P := Exists.elim h fun y1 g1 => Exists.elim g1 fun y2 g2 => Exists.elim g2 fun y3 g3 => Exists.elim g3 fun y4 g4 => Exists.elim g4 fun y5 g5 => Exists.elim g5 fun y6 g6 => Exists.elim g6 fun y7 g7 => Exists.elim g7 fun y8 g8 => Exists.elim g8 fun y9 g9 => Exists.elim g9 fun y10 g10 => Exists.elim g10 fun y11 g11 => Exists.elim g11 fun y12 g12 => Exists.elim g12 fun y13 g13 => Exists.elim g13 fun y14 g14 => k y1 y2 y3 y4 y5 y6 y7 y8 y9 y10 y11 y12 y13 y14 g14.1 g14.2
theorem ob_EEEEEEEEEEEEEEEAA.{u1, u2, u3, u4, u5, u6, u7, u8, u9, u10, u11, u12, u13, u14, u15} {α1 : Sort u1} {α2 : Sort u2} {α3 : Sort u3} {α4 : Sort u4} {α5 : Sort u5} {α6 : Sort u6} {α7 : Sort u7} {α8 : Sort u8} {α9 : Sort u9} {α10 : Sort u10} {α11 : Sort u11} {α12 : Sort u12} {α13 : Sort u13} {α14 : Sort u14} {α15 : Sort u15} {a1 : α1 → α2 → α3 → α4 → α5 → α6 → α7 → α8 → α9 → α10 → α11 → α12 → α13 → α14 → α15 → Prop} {a2 : α1 → α2 → α3 → α4 → α5 → α6 → α7 → α8 → α9 → α10 → α11 → α12 → α13 → α14 → α15 → Prop} {a3 : α1 → α2 → α3 → α4 → α5 → α6 → α7 → α8 → α9 → α10 → α11 → α12 → α13 → α14 → α15 → Prop} {P : Prop} (h : ∃ x1, ∃ x2, ∃ x3, ∃ x4, ∃ x5, ∃ x6, ∃ x7, ∃ x8, ∃ x9, ∃ x10, ∃ x11, ∃ x12, ∃ x13, ∃ x14, ∃ x15, a1 x1 x2 x3 x4 x5 x6 x7 x8 x9 x10 x11 x12 x13 x14 x15 ∧ a2 x1 x2 x3 x4 x5 x6 x7 x8 x9 x10 x11 x12 x13 x14 x15 ∧ a3 x1 x2 x3 x4 x5 x6 x7 x8 x9 x10 x11 x12 x13 x14 x15) (k : ∀ (x1 : α1) (x2 : α2) (x3 : α3) (x4 : α4) (x5 : α5) (x6 : α6) (x7 : α7) (x8 : α8) (x9 : α9) (x10 : α10) (x11 : α11) (x12 : α12) (x13 : α13) (x14 : α14) (x15 : α15) (h1 : a1 x1 x2 x3 x4 x5 x6 x7 x8 x9 x10 x11 x12 x13 x14 x15) (h2 : a2 x1 x2 x3 x4 x5 x6 x7 x8 x9 x10 x11 x12 x13 x14 x15) (h3 : a3 x1 x2 x3 x4 x5 x6 x7 x8 x9 x10 x11 x12 x13 x14 x15), P) : P := Exists.elim h fun y1 g1 => Exists.elim g1 fun y2 g2 => Exists.elim g2 fun y3 g3 => Exists.elim g3 fun y4 g4 => Exists.elim g4 fun y5 g5 => Exists.elim g5 fun y6 g6 => Exists.elim g6 fun y7 g7 => Exists.elim g7 fun y8 g8 => Exists.elim g8 fun y9 g9 => Exists.elim g9 fun y10 g10 => Exists.elim g10 fun y11 g11 => Exists.elim g11 fun y12 g12 => Exists.elim g12 fun y13 g13 => Exists.elim g13 fun y14 g14 => Exists.elim g14 fun y15 g15 => k y1 y2 y3 y4 y5 y6 y7 y8 y9 y10 y11 y12 y13 y14 y15 g15.1 g15.2.1 g15.2.2
theorem ob_EEEAAAAAAAAAAAAAAAA.{u1, u2, u3} {α1 : Sort u1} {α2 : Sort u2} {α3 : Sort u3} {a1 : α1 → α2 → α3 → Prop} {a2 : α1 → α2 → α3 → Prop} {a3 : α1 → α2 → α3 → Prop} {a4 : α1 → α2 → α3 → Prop} {a5 : α1 → α2 → α3 → Prop} {a6 : α1 → α2 → α3 → Prop} {a7 : α1 → α2 → α3 → Prop} {a8 : α1 → α2 → α3 → Prop} {a9 : α1 → α2 → α3 → Prop} {a10 : α1 → α2 → α3 → Prop} {a11 : α1 → α2 → α3 → Prop} {a12 : α1 → α2 → α3 → Prop} {a13 : α1 → α2 → α3 → Prop} {a14 : α1 → α2 → α3 → Prop} {a15 : α1 → α2 → α3 → Prop} {a16 : α1 → α2 → α3 → Prop} {a17 : α1 → α2 → α3 → Prop} {P : Prop} (h : ∃ x1, ∃ x2, ∃ x3, a1 x1 x2 x3 ∧ a2 x1 x2 x3 ∧ a3 x1 x2 x3 ∧ a4 x1 x2 x3 ∧ a5 x1 x2 x3 ∧ a6 x1 x2 x3 ∧ a7 x1 x2 x3 ∧ a8 x1 x2 x3 ∧ a9 x1 x2 x3 ∧ a10 x1 x2 x3 ∧ a11 x1 x2 x3 ∧ a12 x1 x2 x3 ∧ a13 x1 x2 x3 ∧ a14 x1 x2 x3 ∧ a15 x1 x2 x3 ∧ a16 x1 x2 x3 ∧ a17 x1 x2 x3) (k : ∀ (x1 : α1) (x2 : α2) (x3 : α3) (h1 : a1 x1 x2 x3) (h2 : a2 x1 x2 x3) (h3 : a3 x1 x2 x3) (h4 : a4 x1 x2 x3) (h5 : a5 x1 x2 x3) (h6 : a6 x1 x2 x3) (h7 : a7 x1 x2 x3) (h8 : a8 x1 x2 x3) (h9 : a9 x1 x2 x3) (h10 : a10 x1 x2 x3) (h11 : a11 x1 x2 x3) (h12 : a12 x1 x2 x3) (h13 : a13 x1 x2 x3) (h14 : a14 x1 x2 x3) (h15 : a15 x1 x2 x3) (h16 : a16 x1 x2 x3) (h17 : a17 x1 x2 x3), P) : P := Exists.elim h fun y1 g1 => Exists.elim g1 fun y2 g2 => Exists.elim g2 fun y3 g3 => k y1 y2 y3 g3.1 g3.2.1 g3.2.2.1 g3.2.2.2.1 g3.2.2.2.2.1 g3.2.2.2.2.2.1 g3.2.2.2.2.2.2.1 g3.2.2.2.2.2.2.2.1 g3.2.2.2.2.2.2.2.2.1 g3.2.2.2.2.2.2.2.2.2.1 g3.2.2.2.2.2.2.2.2.2.2.1 g3.2.2.2.2.2.2.2.2.2.2.2.1 g3.2.2.2.2.2.2.2.2.2.2.2.2.1 g3.2.2.2.2.2.2.2.2.2.2.2.2.2.1 g3.2.2.2.2.2.2.2.2.2.2.2.2.2.2.1 g3.2.2.2.2.2.2.2.2.2.2.2.2.2.2.2.1 g3.2.2.2.2.2.2.2.2.2.2.2.2.2.2.2.2
end Mine
namespace Mine
open PySem PyProof.Rows PySem.W
open Sem (wp)
def holdIds : List String := Builtin.Bytes.decodersThatHold ++ ["bytearray.__contains__", "bytearray.__mod__", "bytearray.__rmod__", "_struct.pack_into.held", "bytearray.find.held"]
def Hold : Code → Bool
  | .builtin id _ => holdIds.contains id
  | _ => false
def Clean (st : List (Code × Pos)) : Prop := ∀ c ∈ st, Hold c.1 = false
theorem Clean.tail {c : Code × Pos} {st : List (Code × Pos)} (h : Clean (c :: st)) : Clean st := fun x m => h x (.tail _ m)
theorem Clean.cons {c : Code × Pos} {st : List (Code × Pos)} (h : Hold c.1 = false) (k : Clean st) : Clean (c :: st) := fun x m => by
  rcases List.mem_cons.mp m with rfl | m
  · exact h
  · exact k x m
theorem Clean.pos {c : Code} {p q : Pos} {st : List (Code × Pos)} (h : Clean ((c, p) :: st)) : Clean ((c, q) :: st) := (h.tail).cons (h (c, p) (.head _))
def wpC {α : Type} (M : Model) (A : Around) (t : Sem α) (Q : α → Shared → Prop) (E : Value → Shared → Prop) (s : Shared) : Prop :=
  ∀ Γ p, Γ.In A → Clean ((Γ.code, p) :: Γ.below) → wp M Γ t (fun a _ s' => Q a s') (fun e _ s' => E e s') p s
def codeC (M : Model) (A : Around) (c : Code) (R : Result → Shared → Prop) (s : Shared) : Prop :=
  ∀ Γ p, Γ.code = c → Γ.Below A → Clean Γ.below → wpCode M Γ R p s
section
variable {α β : Type} {M : Model} {A : Around} {E : Value → Shared → Prop} {s : Shared} {env : Env}
theorem wpC_of {t : Sem α} {Q : α → Shared → Prop} (h : wpAny M A t Q E s) : wpC M A t Q E s := fun Γ p hΓ _ => h Γ p hΓ
theorem codeC_of {c : Code} {R : Result → Shared → Prop} (h : codeAny M A c R s) : codeC M A c R s := fun Γ p hc hΓ _ => h Γ p hc hΓ
theorem wpC_pure {a : α} {Q : α → Shared → Prop} (h : Q a s) : wpC M A (pure a) Q E s := fun _ _ _ _ => h
theorem wpC_throw {e : Value} {Q : α → Shared → Prop} (h : E e s) : wpC M A (throw e : Sem α) Q E s := fun _ _ _ _ => h
theorem wpC_mono {t : Sem α} {Q Q' : α → Shared → Prop} {E' : Value → Shared → Prop} (h : wpC M A t Q E s) (hQ : ∀ a s, Q a s → Q' a s) (hE : ∀ e s, E e s → E' e s) : wpC M A t Q' E' s :=
  fun Γ p hΓ k => Sem.wp_mono M Γ t (fun a _ s => hQ a s) (fun e _ s => hE e s) p s (h Γ p hΓ k)
theorem wpC_monoQ {t : Sem α} {Q Q' : α → Shared → Prop} (h : wpC M A t Q E s) (hQ : ∀ a s, Q a s → Q' a s) : wpC M A t Q' E s := wpC_mono h hQ fun _ _ x => x
theorem wpC_bind {m : Sem α} {f : α → Sem β} {Q : β → Shared → Prop} (h : wpC M A m (fun a s' => wpC M A (f a) Q E s') E s) : wpC M A (m >>= f) Q E s := fun Γ p hΓ k => by
  rw [Sem.wp_bind']
  exact Sem.wp_mono M Γ m (fun a p' s' h' => h' Γ p' hΓ k.pos) (fun _ _ _ h' => h') p s (h Γ p hΓ k)
theorem wpC_map {m : Sem α} {f : α → β} {Q : β → Shared → Prop} (h : wpC M A m (fun a s' => Q (f a) s') E s) : wpC M A (f <$> m) Q E s := fun Γ p hΓ k => by rw [Sem.wp_map]; exact h Γ p hΓ k
theorem wpC_tryCatch {m : Sem α} {k : Value → Sem α} {Q : α → Shared → Prop} (h : wpC M A m Q (fun e s' => wpC M A (k e) Q E s') s) : wpC M A (tryCatch m k) Q E s := fun Γ p hΓ kk => by
  rw [Sem.wp_tryCatch']
  exact Sem.wp_mono M Γ m (fun _ _ _ h' => h') (fun e p' s' h' => h' Γ p' hΓ kk.pos) p s (h Γ p hΓ kk)
theorem wpC_onRaise {m : Sem α} {k : Value → Sem Unit} {Q : α → Shared → Prop} (h : wpC M A m Q (fun e s' => wpC M A (k e) (fun _ s'' => E e s'') E s') s) : wpC M A (m.onRaise k) Q E s := fun Γ p hΓ kk => by
  rw [Sem.wp_onRaise]
  exact Sem.wp_mono M Γ m (fun _ _ _ h' => h') (fun e p' s' h' => h' Γ p' hΓ kk.pos) p s (h Γ p hΓ kk)
theorem wpC_attempt {m : Sem α} {Q : Except Value α → Shared → Prop} (h : wpC M A m (fun a => Q (.ok a)) (fun e => Q (.error e)) s) : wpC M A m.attempt Q E s := fun Γ p hΓ k => by rw [Sem.wp_attempt]; exact h Γ p hΓ k
theorem wpC_holding {vs : List Value} {m : Sem α} {Q : α → Shared → Prop} (h : wpC M A m Q E s) : wpC M A (holding vs m) Q E s := fun Γ p hΓ k => by rw [Sem.wp_holding]; exact h Γ p hΓ k
theorem wpC_operate {vs : List Value} {m : Sem Value} {Q : Value → Shared → Prop} (h : wpC M A m Q E s) : wpC M A (operate vs m) Q E s := fun Γ p hΓ k => by rw [Sem.wp_operate]; exact h Γ p hΓ k
theorem wpC_release {vs keep : List Value} {Q : Unit → Shared → Prop} (h : Q () s) : wpC M A (release vs keep) Q E s := fun Γ p hΓ k => by rw [Sem.wp_release]; exact h
theorem wpC_bindName {x : Str} {v : Value} {Q : Unit → Shared → Prop} (h : wpC M A (storeName env x v) Q E s) : wpC M A (bindName env x v) Q E s := fun Γ p hΓ k => by rw [Sem.wp_bindName]; exact h Γ p hΓ k
theorem wpC_standAt {pos : Pos} {Q : Unit → Shared → Prop} (h : Q () s) : wpC M A (standAt pos) Q E s := fun _ _ _ _ => h
theorem wpC_rule {tag : String} {Q : Unit → Shared → Prop} (h : Q () s) : wpC M A (rule tag) Q E s := fun _ _ _ _ => h
theorem wpC_of_eq {t : Sem α} {a : α} {Q : α → Shared → Prop} (e : t = pure a) (h : Q a s) : wpC M A t Q E s := by rw [e]; exact wpC_pure h
theorem wpC_run {c : Code} {h : Option Value} {Q : Flow → Shared → Prop}
    (hc : codeC M (A.mark h) c (fun r s' => match r with | .ok f => Q f s' | .error e => E e s') s) (hnb : h ≠ some byPass := by intro x; cases x) : wpC M A (run c h) Q E s :=
  fun Γ p hΓ k => by rw [Sem.wp_run]; exact hc _ p rfl (hΓ.enter c h p hnb) k
theorem wpC_runValue {c : Code} {Q : Value → Shared → Prop}
    (hc : codeC M A c (fun r s' => match r with | .ok (.ret v) => Q v s' | .ok _ => False | .error e => E e s') s) : wpC M A (runValue c) Q E s :=
  fun Γ p hΓ k => by rw [Sem.wp_runValue]; exact hc _ p rfl (hΓ.enter c none p (by intro x; injection x)) k
theorem wpC_call {f : Value} {pos : List Value} {kw : List (Str × Value)} {Q : Value → Shared → Prop}
    (hc : codeC M A (.call f ⟨pos, kw⟩) (fun r s' => match r with | .ok (.ret v) => Q v s' | .ok _ => False | .error e => E e s') s) : wpC M A (call f pos kw) Q E s := wpC_runValue hc
theorem codeC_of_tree {c : Code} {R : Result → Shared → Prop} (hn : Hold c = false)
    (h : wpC M (A.under c) (M.den c) (fun fin s' => match fin with | .done f => R (.ok f) s' | .again c' => c'.quiet = true ∧ codeC M A c' R s') (fun e s' => R (.error e) s') s) : codeC M A c R s := fun Γ p hc hΓ k => by
  rw [wpCode_iff_wp, hc]
  refine Sem.wp_mono M Γ _ (fun fin p' s' h' => ?_) (fun _ _ _ h' => h') p s (h Γ p (hc ▸ hΓ.in) (k.cons (by rw [hc]; exact hn)))
  cases fin with
  | done f => exact h'
  | again c' => exact ⟨h'.1, h'.2 (Γ.goto c') p' rfl (hΓ.goto c') k⟩
theorem codeC_mono {c : Code} {R R' : Result → Shared → Prop} (h : codeC M A c R s) (hR : ∀ r s, R r s → R' r s) : codeC M A c R' s := fun Γ p hc hΓ k => wpCode_mono hR (h Γ p hc hΓ k)
theorem wpC_runOwn {c : Code} {h : Option Value} {Q : Flow → Shared → Prop}
    (hc : codeC M (A.mark h) c (fun r s' => match r with | .ok f => Q f s' | .error e => cameBackBy M A env E e s') s) (hnb : h ≠ some byPass := by intro x; cases x) : wpC M A (runOwn c env h) Q E s := by
  unfold runOwn
  exact wpC_onRaise (wpC_mono (wpC_run (E := cameBackBy M A env E) hc hnb) (fun _ _ x => x) fun e s h => wpC_of h)
theorem any_clean {f : Code × Pos → Bool} (hf : ∀ c p, Hold c = false → f (c, p) = false) : ∀ {st : List (Code × Pos)}, Clean st → st.any f = false
  | [], _ => rfl
  | (c, p) :: st, h => by rw [List.any_cons, any_clean hf h.tail, Bool.or_false]; exact hf c p (h (c, p) (.head _))
theorem dite_ne {c : Prop} [Decidable c] {x : c → Bool} {y : ¬c → Bool} (h : ¬c) (k : y h = false) : dite c x y = false := (dif_neg h).trans k
theorem hold_ne {id : String} {as : Args} (hc : Hold (.builtin id as) = false) {t : String} (q : holdIds.contains t = true) : ¬ id = t := fun e => by
  subst e
  exact absurd (q.symm.trans hc) Bool.noConfusion
theorem hold_dec {id : String} {as : Args} (hc : Hold (.builtin id as) = false) : Builtin.Bytes.decodersThatHold.contains id = false := by
  cases q : Builtin.Bytes.decodersThatHold.contains id with
  | false => rfl
  | true => exact (hold_ne hc (List.contains_iff_mem.mpr (List.mem_append_left _ (List.contains_iff_mem.mp q))) rfl).elim
theorem wpC_exported {v : Value} {Q : Bool → Shared → Prop} (h : Q false s) : wpC M A (Builtin.Bytes.exported v) Q E s := fun Γ p hΓ k => by
  show Q (List.any ((Γ.code, p) :: Γ.below) _) s
  rw [any_clean (fun c p hc => ?_) k]
  · exact h
  cases c with
  | builtin id as =>
    delta Builtin.Bytes.exported.match_1
    iterate 5 (refine dite_ne (hold_ne hc ?a) ?_; (case a => decide))
    obtain ⟨pos, kw⟩ := as
    cases pos with
    | nil => rfl
    | cons a l => exact (congrArg (_ && ·) (hold_dec hc)).trans (Bool.and_false _)
  | _ => rfl
theorem cps {G : Prop} (h : ∀ P : Prop, (G → P) → P) : G := h G id
theorem wp_pos {α : Type} {c : Prop} [Decidable c] {x y : Sem α} {Q : α → Shared → Prop} (h : c) (k : wpAny M A x Q E s) : wpAny M A (ite c x y) Q E s := by rw [if_pos h]; exact k
theorem wp_neg {α : Type} {c : Prop} [Decidable c] {x y : Sem α} {Q : α → Shared → Prop} (h : ¬ c) (k : wpAny M A y Q E s) : wpAny M A (ite c x y) Q E s := by rw [if_neg h]; exact k
end
end Mine
namespace Mine
open PySem PySem.W PySem.Spec PySem.Calls PyProof.Rows
theorem caller_clean (p : Pos) : Clean (((.builtin "claim.caller" {}, p) : Code × Pos) :: []) := Clean.cons (show Hold (.builtin "claim.caller" {}) = false by decide) fun _ m => nomatch m
theorem thread_ends_C {prog : Program} {w : World} {t : Sem Fin} {s : Shared} {R : Result → Shared → Prop} (hreg : s.asleep)
    (h : wpC (model prog w) callerA t (fun fin s' => ∃ f, fin = .done f ∧ (R (.ok f) s' ∧ leftWithCleanup s'.gens = false)) (fun e s' => R (.error e) s' ∧ leftWithCleanup s'.gens = false) s) :
    ∃ n r s' s'', runN (denote table) prog w n s ⟨t, .builtin "claim.caller" {}, default, []⟩ = .halted (outcomeOf r) s' ∧
      schedN (denote table) prog w n (.single s ⟨t, .builtin "claim.caller" {}, default, []⟩) = .halted (outcomeOf r) s' ∧ s'.forget = s''.forget ∧ R r s'' := by
  have hw : Sem.wp (model prog w) ⟨.builtin "claim.caller" {}, none, none, [], none⟩ t (Sem.finPost (model prog w) ⟨.builtin "claim.caller" {}, none, none, [], none⟩ (fun r s' => R r s' ∧ leftWithCleanup s'.gens = false)) (fun e _ s' => R (.error e) s' ∧ leftWithCleanup s'.gens = false) default s := by
    refine Sem.wp_mono (model prog w) _ t (fun fin p' s' h' => ?_) (fun _ _ _ h' => h') default s (h _ default caller_in (caller_clean _))
    refine ob_EA h' fun f z1 hf => ?_; subst z1
    exact hf
  refine ob_EEEEAAA (wp_halts_full (M := model prog w) (R := R) hreg hw) fun n r s₁ s₂ hs hn hfo hR => ?_
  exact ⟨n, r, s₂, s₁, hn, hs, hfo, hR⟩
theorem callFrom_C {c : ClaimW} {tree : List Value → Sem Fin} {w : World} {s : Shared} {free : Addr → Prop} {gens : Prop} {kept : Heap → Prop} (hz : s.asleep) (hgens : s.gens = #[])
    (hspec : ∀ args, c.pre args = true → WData.layableAll args = true →
      ∀ ord : List DictEntry → List DictEntry, (∀ l, (ord l).Perm l) →
      ∃ vs s₁, layAllW c.records (classAt s.heap) w.params ord args s = some (vs, s₁) ∧
        wpC (model c.prog w) callerA (tree vs) (fun fin s' => ∃ f, fin = .done f ∧ (c.Ends s args vs s₁ (.ok f) s' ∧ s'.os = s.os ∧ AllBare s'.gens ∧ kept s'.heap))
          (fun e s' => c.Ends s args vs s₁ (.error e) s' ∧ s'.os = s.os ∧ AllBare s'.gens ∧ kept s'.heap) s₁) :
    c.CallFrom (fun vs => ⟨tree vs, .builtin "claim.caller" {}, default, []⟩) w free gens kept s := by
  intro args hpre hlay ord hord
  refine ob_EEA (hspec args hpre hlay ord hord) fun vs s₁ hlaid hcode => ?_
  have hal := layAllW_rest _ _ _ hlaid
  obtain ⟨k, r, s', s'', hrun, hsched, hfo, hcase, hos, hkp⟩ := thread_ends_C (prog := c.prog) (w := w) (t := tree vs) (s := s₁)
    (R := fun r s' => c.Ends s args vs s₁ r s' ∧ s'.os = s.os ∧ kept s'.heap)
    (Shared.asleep_of_life hal.2.2.2 hz)
    (wpC_mono hcode (by
      rintro fin s' ⟨f, e, h1, h2, h3, h4⟩
      exact ⟨f, e, ⟨h1, h2, h4⟩, leftWithCleanup_false_of_bare h3⟩) (by
      rintro e s' ⟨h1, h2, h3, h4⟩
      exact ⟨⟨h1, h2, h4⟩, leftWithCleanup_false_of_bare h3⟩))
  refine ob_AAAA (Shared.forget_eq hfo) fun eh _u _u eo _u => ?_
  have hcase := hcase.congr eh
  have hkp : kept s'.heap := by first | exact eh ▸ hkp | (rw [eh] at hkp; exact hkp) | (rw [← eh] at hkp; exact hkp)
  rw [← eo] at hos
  have hlife : s'.heap.life = s.heap.life := (runN_life _ _ _ hrun).trans hal.2.2.2
  refine ⟨vs, s₁, hlaid, k, _, s', hsched, ?_, (fun _ i x hx => by rw [hgens] at hx; simp at hx), hkp, by rw [hlife], Shared.rest_eq hos⟩
  exact hcase.imp (fun q1 => ob_E q1 fun v h => ⟨v, congrArg outcomeOf h.1, h.2.1, h.2.2.1, h.2.2.2.1, fun b o y _ => h.2.2.2.2.1 b o y, h.2.2.2.2.2⟩) fun q1 => ob_EEE q1 fun e ob cls h => ⟨e, ob, cls, congrArg outcomeOf h.1, h.2.1, h.2.2.1, h.2.2.2.1, h.2.2.2.2.1, fun b o y _ => h.2.2.2.2.2 b o y⟩
theorem open_C {r : RowW} {run : Value → List Value → Sem Value} {tree : List Value → Sem Fin} {q : Program} {loose defs kps : List PySem.Str} {writes : Bool} {Xt : Shared → Bool} {XP : (PySem.Str → Option Value) → Heap → Prop} {α : Type} {Yf : Shared → α} {Ya : World → α} {YP : World → Heap → Prop} {N : Nat}
    (left : LeftO r.prog q loose Xt Yf Ya N) (hY : ∀ w s, Yf s = Ya w → YP w s.heap) (hX : ∀ s, Xt s = true → XP (s.heap.nsMap mainGlobals) s.heap) (hXk : ∀ mg h h', XP mg h → (∀ b o, h.get? b = some o → h'.get? b = some o) → XP mg h')
    (hRf : ∀ s, Xt s = true → RecFacts r.records s.heap) (hwr : (!writes || r.records.isEmpty) = true) (ok : (chainsOk q && opensWell r.prog && (frees r && r.within.isEmpty)) = true) (hb : r.prog.bare) (hw : r.promised)
    (ht : ∀ vs (w : World) (s : Shared) mg f (Q : Fin → Shared → Prop) (E : Value → Shared → Prop), s.heap.Ns mainGlobals mg → mg r.name = some f → wpC (model r.prog w) callerA (run f vs) (fun v s' => Q (.done (.ret v)) s') E s → wpC (model r.prog w) callerA (tree vs) Q E s)
    (pin : ∀ w s, s.heap.isNs mainGlobals = true → PySem.W.Ground q loose [] XP w s (s.heap.nsMap mainGlobals) (s.heap.nsMap builtinsNs) s.heap → ∀ n ∈ defs, isTheDefsW r.prog s.heap n)
    (call : ∀ (w : World) (s₀ s₁ : Shared) (mg mb : PySem.Str → Option Value), PySem.W.Ground q loose r.records XP w s₀ mg mb s₁.heap → YP w s₀.heap → ∀ (args : List WData) (vs : List Value) (as : List Addr),
      r.claim.pre args = true → WData.layableAll args = true → Laid r.records w s₀ s₁ args vs as → sysModules < s₀.heap.objs.size → ∃ f, mg r.name = some f ∧
        wpC (model r.prog w) callerA (run f vs) (fun v s' => GoodWG r.claim (classAt s₀.heap) (ExcName.means s₀.heap) args s₁ (.ok (.ret v)) s')
          (fun e s' => GoodWG r.claim (classAt s₀.heap) (ExcName.means s₀.heap) args s₁ (.error e) s') s₁) : r.claim.HoldsOpenBy (fun vs => ⟨tree vs, .builtin "claim.caller" {}, default, []⟩) defs kps writes := by
  refine ob_A (Bool.and_eq_true_iff.mp ok) fun ok k5 => ?_
  refine ob_A (Bool.and_eq_true_iff.mp ok) fun hch o1 => ?_
  refine ob_A (Bool.and_eq_true_iff.mp k5) fun k5 k6 => ?_
  refine ob_AAAA (frees_parts k5) fun hsame hu ha hap hm => ?_
  refine ⟨⟨hb, o1, by show r.makers.map _ = []; rw [hm]; rfl⟩, hw.witness, fun w => ⟨(left.behind hX hch w).1, fun s' hs' => ?_⟩⟩
  refine ob_EAAEAAAAA ((left.behind (XP := fun mg h => XP mg h ∧ RecFacts r.records h) (fun s hs => ⟨hX s hs, hRf s hs⟩) hch w).2 s' hs') fun s₀ hf hg0 s hT hz hgens hg G00 y => ?_
  have G0 : PySem.W.Ground q loose [] XP w s (s.heap.nsMap mainGlobals) (s.heap.nsMap builtinsNs) s.heap := ⟨G00.T, G00.B, G00.D, G00.TE, G00.TD, G00.W, G00.X.1, G00.cls, G00.has, G00.apart, G00.once, G00.K⟩
  have RF := G00.X.2
  have hT' := hT
  refine ⟨s₀, hf, hg0, s, hT, pin w s hg G0, RF.1, RF.2.1, ?_⟩
  have hgens : s.gens = #[] := Array.eq_empty_of_size_eq_zero (beq_iff_eq.mp hgens)
  have G : PySem.W.Ground q loose r.records XP w s _ _ s.heap := RF.ground G0
  refine callFrom_C (c := r.claim) hz hgens fun args hpre hlay ord hord => ?_
  refine ob_E (Option.isSome_iff_exists.mp (layAllW_isSome (P := w.params) (ord := ord) G.has args r.args s (pre_splitW hpre).1)) fun z1 hlaid => ?_; obtain ⟨vs, s₁⟩ := z1
  have keeps := layAllW_keeps _ _ _ hlaid
  have hal := layAllW_rest _ _ _ hlaid
  refine ob_EAA (reads_layAllW hord _ _ _ hlaid hlay s₁.heap (fun _ _ e => e)) fun as hrd hin hold => ?_
  have L : Laid r.records w s s₁ args vs as := ⟨⟨ord, hord, hlaid⟩, hrd, hin, hold, keeps, hal.1.trans hgens, hal.2.2.1⟩
  have G₁ := G.keeps hXk keeps
  refine ob_EA (call w s s₁ _ _ G₁ (hY w s y) args vs as hpre hlay L G.low) fun f hf h => ?_
  have hi := ident_freeW hu ha hap
  have hwi : r.claim.within = [] := List.isEmpty_iff.mp k6
  exact ⟨vs, s₁, hlaid, ht vs w s₁ _ f _ _ G₁.T.g hf (wpC_mono h (fun v s' g => ⟨_, rfl, have z := g.laid (c := r.claim) hsame hwi hi L; ⟨z.1, z.2.1, z.2.2, fun q => ⟨namesKept_of hT' hg kps keeps g.2.1.old, noTable hwr q⟩⟩⟩) fun e s' g => have z := g.laid (c := r.claim) hsame hwi hi L; ⟨z.1, z.2.1, z.2.2, fun q => ⟨namesKept_of hT' hg kps keeps g.2.1.old, noTable hwr q⟩⟩)⟩
abbrev WalkC (q : Program) (loose : List PySem.Str) (XP : (PySem.Str → Option Value) → Heap → Prop) (YP : World → Heap → Prop) (r : RowW) (d : DefRec) (kwd : List (PySem.Str × PySem.Expr)) : Prop :=
  ∀ (w : World) (s₀ s₁ : Shared) (mg mb : PySem.Str → Option Value), PySem.W.Ground q loose r.records XP w s₀ mg mb s₁.heap → YP w s₀.heap → ∀ (a : Addr), mg d.name = some (.ref a) →
    ∀ (args : List WData) (vals : List Value) (as : List Addr), r.claim.pre args = true → WData.layableAll args = true → Laid r.records w s₀ s₁ args vals as →
      wpC (model r.prog w) callerA (call (.ref a) vals) (fun v s' => GoodWG r.claim (classAt s₀.heap) (ExcName.means s₀.heap) args s₁ (.ok (.ret v)) s')
        (fun e s' => GoodWG r.claim (classAt s₀.heap) (ExcName.means s₀.heap) args s₁ (.error e) s') s₁
end Mine
namespace Mine
open _root_.PySem _root_.PySem.W _root_.PySem.Spec _root_.PySem.Calls PyProof.Rows
theorem hopen {r : OpenRow} {q : Program} {loose : List _root_.PySem.Str} {Xt : Shared → Bool} {XP : (_root_.PySem.Str → Option Value) → Heap → Prop} {α : Type} {Yf : Shared → α} {Ya : World → α} {YP : World → Heap → Prop} {d : DefRec} {kwd : List (_root_.PySem.Str × _root_.PySem.Expr)} {N : Nat}
    (left : LeftO r.prog q loose Xt Yf Ya N) (hY : ∀ w s, Yf s = Ya w → YP w s.heap) (hYk : ∀ w h h', YP w h → (∀ b o, h.get? b = some o → h'.get? b = some o) → YP w h')
    (hX : ∀ s, Xt s = true → XP (s.heap.nsMap mainGlobals) s.heap) (hXk : ∀ mg h h', XP mg h → (∀ b o, h.get? b = some o → h'.get? b = some o) → XP mg h')
    (hdef : defOf q r.name = some (d, kwd)) (hp : r.prog.theDef r.name = some (d.params, d.body, d.scope)) (hk : kwWritten? d.params.kwonlyargs d.params.kw_defaults = some kwd) (hRf : ∀ s, Xt s = true → RecFacts r.records s.heap) (hwr : (!r.writes || r.records.isEmpty) = true)
    (k1 : r.wellSaid = true) (ok : (chainsOk q && opensWell r.prog && (frees r.toRowW && r.within.isEmpty)) = true) (hb : r.prog.bare) (hw : r.toRowW.promised)
    (call : Mine.WalkC q loose XP YP r.toRowW d kwd) : r.Holds := by
  refine ⟨k1, hw, Mine.open_C (r := r.toRowW) (run := fun f vs => _root_.PySem.call f vs) (tree := fun vs => do match ← nsGet mainNs r.name with
      | some f => do ret (← _root_.PySem.call f vs)
      | none => unsupported "claim.caller:no-such-global") left hY hX hXk hRf hwr ok hb hw
    (fun vs w s mg f Q E hg hf h => Mine.wpC_bind (Mine.wpC_of (wpAny_nsGet hg (by rw [hf]; exact Mine.wpC_bind (Mine.wpC_mono h (fun _ _ x => Mine.wpC_pure x) fun _ _ x => x)))))
    (fun w s hg G n hn => ?_) fun w s₀ s₁ mg mb G Y args vs as hpre hlay L low => ?_⟩
  · obtain rfl : n = r.name := by split at hn <;> simp_all
    exact pinned_of_view hg G hdef hp hk
  · refine ob_EEEEEEEAAAA (G.fn hdef) fun a o pm cd doc dV kV h1 h2 h3 h4 h5 => ?_
    exact ⟨.ref a, h1, call w s₀ s₁ mg mb G Y a (defOf_name hdef ▸ h1) args vs as hpre hlay L⟩
end Mine
namespace Mine
open PySem
noncomputable section
def kc (s : Str) : Nat := List.rec (motive := fun _ => Nat) 0 (fun c _ n => Nat.mul (Nat.pow 2 c) (Nat.succ (Nat.mul 2 n))) s.cps.toList
inductive BI where
  | len | isinst | ord | chr | sorted | min | all | abs | tInt | tBool | tStr | tBytes | tTuple | tList | tBytearray | tRange | tZip
inductive V where
  | none
  | bool (b : Bool)
  | int (i : Int)
  | str (s : List Nat)
  | byt (b : List Nat)
  | tup (l : List V)
  | obj (i : Nat)
  | ref (a : Addr)
  | bi (b : BI)
inductive MO where
  | list (l : List V)
  | dict (es : List (V × V))
  | inst (C : Addr) (fs : List (Nat × V))
  | barr (b : List Nat)
  | ps (c k : Nat)
structure MEnv where
  sc : List (Str × NameKind)
  vars : List (Nat × V)
inductive Fl where
  | next
  | ret (v : V)
inductive RF (S α : Type) where
  | ok (a : α) (s : S)
  | exc (C : Addr) (s : S)
  | bad
structure ES (S : Type) where
  e : MEnv
  s : S
structure FI where
  ps : List Str
  sc : List (Str × NameKind)
  body : List Stmt
  dflt : List V
  pure : Bool
structure CI where
  init : Addr
  meths : List (Nat × Addr)
  attrs : List Nat
  exc : Bool
structure Prg where
  glob : Nat → Option V
  fn : Addr → Option FI
  cls : Addr → Option CI
  lst : Addr → Option (List V)
structure Dm (S : Type) where
  look : S → Nat → Option MO
  set : S → Nat → MO → S
  len : S → Nat
  push : S → MO → Option S
  nil : S
  ar : Operator → Int → Int → Option Int
  lt : Int → Int → Option Bool
  eq : Int → Int → Option Bool
  eqb : List Nat → List Nat → Option Bool
  nat : Int → Option Nat
  ix : List V → Int → Option V
  cutb : List Nat → Option Int → Option Int → Option (List Nat)
  fit : List Nat → Bool
  lit : Int → Bool
  raw : List Nat → Bool
  blen : List Nat → Option Int
  bix : List Nat → Int → Option Nat
structure SemF (S : Type) where
  ev : MEnv → S → Expr → RF S V
  ex : ES S → List Stmt → RF (ES S) Fl
  cl : Addr → List V → S → RF S V
variable {S T α β γ : Type}
def bt (c : Bool) (a d : α) : α := Bool.rec (motive := fun _ => α) d a c
def gd (c : Bool) (r : RF S α) : RF S α := Bool.rec (motive := fun _ => RF S α) .bad r c
def rb (r : RF S α) (f : α → S → RF S β) : RF S β := RF.rec (motive := fun _ => RF S β) f (fun C s => .exc C s) .bad r
def re (e : MEnv) (r : RF S α) (f : α → S → RF (ES S) β) : RF (ES S) β := RF.rec (motive := fun _ => RF (ES S) β) f (fun C s => .exc C ⟨e, s⟩) .bad r
def rn (r : RF S α) (f : α → S → RF T β) : RF T β := RF.rec (motive := fun _ => RF T β) f (fun _ _ => .bad) .bad r
def rs (r : RF (ES S) Fl) (f : ES S → RF (ES S) Fl) : RF (ES S) Fl := rb r fun fl s => Fl.rec (motive := fun _ => RF (ES S) Fl) (f s) (fun v => .ok (.ret v) s) fl
def ob (s : S) (o : Option α) : RF S α := Option.rec (motive := fun _ => RF S α) .bad (fun v => .ok v s) o
def oo (d : β) (f : α → β) (o : Option α) : β := Option.rec (motive := fun _ => β) d f o
def vE (n : β) (fb : Bool → β) (fi : Int → β) (fs fy : List Nat → β) (ft : List V → β) (fo : Nat → β) (fr : Addr → β) (fu : BI → β) (v : V) : β := V.rec (motive_1 := fun _ => β) (motive_2 := fun _ => Unit) n fb fi fs fy (fun l _ => ft l) fo fr fu () (fun _ _ _ _ => ()) v
def vO (d : β) (f : Nat → β) (v : V) : β := vE d (fun _ => d) (fun _ => d) (fun _ => d) (fun _ => d) (fun _ => d) f (fun _ => d) (fun _ => d) v
def vB (d : β) (f : Bool → β) (v : V) : β := vE d f (fun _ => d) (fun _ => d) (fun _ => d) (fun _ => d) (fun _ => d) (fun _ => d) (fun _ => d) v
def vI (d : β) (f : Int → β) (v : V) : β := vE d (fun _ => d) f (fun _ => d) (fun _ => d) (fun _ => d) (fun _ => d) (fun _ => d) (fun _ => d) v
def vS (d : β) (f : List Nat → β) (v : V) : β := vE d (fun _ => d) (fun _ => d) f (fun _ => d) (fun _ => d) (fun _ => d) (fun _ => d) (fun _ => d) v
def vY (d : β) (f : List Nat → β) (v : V) : β := vE d (fun _ => d) (fun _ => d) (fun _ => d) f (fun _ => d) (fun _ => d) (fun _ => d) (fun _ => d) v
def vT (d : β) (f : List V → β) (v : V) : β := vE d (fun _ => d) (fun _ => d) (fun _ => d) (fun _ => d) f (fun _ => d) (fun _ => d) (fun _ => d) v
def vR (d : β) (f : Addr → β) (g : BI → β) (v : V) : β := vE d (fun _ => d) (fun _ => d) (fun _ => d) (fun _ => d) (fun _ => d) (fun _ => d) f g v
def vN (f d : β) (v : V) : β := vE f (fun _ => d) (fun _ => d) (fun _ => d) (fun _ => d) (fun _ => d) (fun _ => d) (fun _ => d) (fun _ => d) v
def oL (d : β) (f : List V → β) (o : Option MO) : β := oo d (fun o => MO.rec (motive := fun _ => β) f (fun _ => d) (fun _ _ => d) (fun _ => d) (fun _ _ => d) o) o
def oD (d : β) (f : List (V × V) → β) (o : Option MO) : β := oo d (fun o => MO.rec (motive := fun _ => β) (fun _ => d) f (fun _ _ => d) (fun _ => d) (fun _ _ => d) o) o
def oI (d : β) (f : Addr → List (Nat × V) → β) (o : Option MO) : β := oo d (fun o => MO.rec (motive := fun _ => β) (fun _ => d) (fun _ => d) f (fun _ => d) (fun _ _ => d) o) o
def oY (d : β) (f : List Nat → β) (o : Option MO) : β := oo d (fun o => MO.rec (motive := fun _ => β) (fun _ => d) (fun _ => d) (fun _ _ => d) f (fun _ _ => d) o) o
def vG (v : V) : Bool := V.rec (motive_1 := fun _ => Bool) (motive_2 := fun _ => Bool) true (fun _ => true) (fun _ => true) (fun _ => true) (fun _ => true) (fun _ h => h) (fun _ => false) (fun _ => true) (fun _ => true) true (fun _ _ h k => bt h k false) v
def vGL (l : List V) : Bool := List.rec (motive := fun _ => Bool) true (fun v _ k => bt (vG v) k false) l
def lenF (l : List α) : Nat := List.rec (motive := fun _ => Nat) Nat.zero (fun _ _ n => Nat.succ n) l
def smallF (l : List α) : Bool := Nat.ble (lenF l) 999999
def luk (l : List (Nat × α)) (x : Nat) : Option α := List.rec (motive := fun _ => Option α) none (fun p _ ih => bt (Nat.beq p.1 x) (some p.2) ih) l
def put (l : List (Nat × α)) (x : Nat) (v : α) : List (Nat × α) := List.rec (motive := fun _ => List (Nat × α)) [(x, v)] (fun p r ih => bt (Nat.beq p.1 x) ((p.1, v) :: r) (p :: ih)) l
def lukS (l : List (Str × α)) (x : Nat) : Option α := List.rec (motive := fun _ => Option α) none (fun p _ ih => bt (Nat.beq (kc p.1) x) (some p.2) ih) l
def nth (l : List α) : Nat → Option α := List.rec (motive := fun _ => Nat → Option α) (fun _ => none) (fun a _ ih n => Nat.rec (motive := fun _ => Option α) (some a) (fun n _ => ih n) n) l
def setN (l : List α) (v : α) : Nat → List α := List.rec (motive := fun _ => Nat → List α) (fun _ => []) (fun a r ih n => Nat.rec (motive := fun _ => List α) (v :: r) (fun n _ => a :: ih n) n) l
def app (l m : List α) : List α := List.rec (motive := fun _ => List α) m (fun a _ ih => a :: ih) l
def eqL (a : List Nat) : List Nat → Bool := List.rec (motive := fun _ => List Nat → Bool) (fun b => List.rec (motive := fun _ => Bool) true (fun _ _ _ => false) b) (fun x _ ih b => List.rec (motive := fun _ => Bool) false (fun y b _ => bt (Nat.beq x y) (ih b) false) b) a
def leL (a : List Nat) : List Nat → Bool := List.rec (motive := fun _ => List Nat → Bool) (fun _ => true) (fun x _ ih b => List.rec (motive := fun _ => Bool) false (fun y b _ => bt (Nat.beq x y) (ih b) (Nat.ble x y)) b) a
def allF (f : α → Bool) (l : List α) : Bool := List.rec (motive := fun _ => Bool) true (fun a _ ih => bt (f a) ih false) l
def anyF (f : α → Bool) (l : List α) : Bool := List.rec (motive := fun _ => Bool) false (fun a _ ih => bt (f a) true ih) l
def mapF (f : α → β) (l : List α) : List β := List.rec (motive := fun _ => List β) [] (fun a _ ih => f a :: ih) l
def mapO (f : α → Option β) (l : List α) : Option (List β) := List.rec (motive := fun _ => Option (List β)) (some []) (fun a _ ih => oo none (fun b => oo none (fun r => some (b :: r)) ih) (f a)) l
def tl1 (l : List α) : List α := List.rec (motive := fun _ => List α) [] (fun _ r _ => r) l
def dropF (n : Nat) (l : List α) : List α := Nat.rec (motive := fun _ => List α) l (fun _ r => tl1 r) n
def takeF (l : List α) : Nat → List α := List.rec (motive := fun _ => Nat → List α) (fun _ => []) (fun a _ ih n => Nat.rec (motive := fun _ => List α) [] (fun n _ => a :: ih n) n) l
def insS (a : List Nat) (l : List (List Nat)) : List (List Nat) := List.rec (motive := fun _ => List (List Nat)) [a] (fun b r ih => bt (leL a b) (a :: b :: r) (b :: ih)) l
def sortS (l : List (List Nat)) : List (List Nat) := List.rec (motive := fun _ => List (List Nat)) [] (fun a _ ih => insS a ih) l
def ascii (l : List Nat) : Bool := allF (fun c => Nat.ble c 127) l
def lower1 (c : Nat) : Nat := bt (Nat.ble 65 c) (bt (Nat.ble c 90) (Nat.add c 32) c) c
def joinL (sep : List Nat) (l : List (List Nat)) : List Nat := List.rec (motive := fun _ => List Nat) [] (fun a r ih => List.rec (motive := fun _ => List Nat) a (fun _ _ _ => app a (app sep ih)) r) l
def joinSize (k : Nat) (l : List (List Nat)) : Nat := List.rec (motive := fun _ => Nat) 0 (fun a _ n => Nat.add (Nat.add (lenF a) k) n) l
def splitF (c : Nat) (l : List Nat) : List (List Nat) := (Txt.split ⟨l.toArray⟩ ⟨#[c]⟩).map fun t => t.cps.toList
def a1 (d : β) (f : V → β) (l : List V) : β := List.rec (motive := fun _ => β) d (fun v r _ => List.rec (motive := fun _ => β) (f v) (fun _ _ _ => d) r) l
def a2 (d : β) (f : V → V → β) (l : List V) : β := List.rec (motive := fun _ => β) d (fun v r _ => a1 d (f v) r) l
def strOf (v : V) : Option (List Nat) := vS none some v
def bytOf (v : V) : Option (List Nat) := vY none some v
def boolOf (v : V) : Option Bool := vB none some v
section
variable (D : Dm S)
def pushF (s : S) (o : MO) (k : Nat → S → RF S α) : RF S α := oo .bad (fun s' => k (D.len s) s') (D.push s o)
def newLF (s : S) (l : List V) : RF S V := pushF D s (.list l) fun i s => .ok (.obj i) s
def numF (s : S) (n : Nat) : RF S V := gd (Nat.ble n 999999) (.ok (.int (Int.ofNat n)) s)
def leI (a b : Int) : Option Bool := oo none (fun c => some (not c)) (D.lt b a)
def veqL (f : V → V → Option Bool) (x : List V) : List V → Option Bool := List.rec (motive := fun _ => List V → Option Bool) (fun y => List.rec (motive := fun _ => Option Bool) (some true) (fun _ _ _ => some false) y)
  (fun a _ ih y => List.rec (motive := fun _ => Option Bool) (some false) (fun b y _ => oo none (fun p => oo none (fun q => some (bt p q false)) (ih y)) (f a b)) y) x
def veq0 (ft : List V → List V → Option Bool) (a b : V) : Option Bool := vE none (fun p => vB none (fun q => some (bt p q (not q))) b) (fun i => vI none (fun j => D.eq i j) b)
  (fun x => vS none (fun y => some (eqL x y)) b) (fun x => vY none (fun y => D.eqb x y) b) (fun l => vT none (fun m => ft l m) b) (fun _ => none) (fun _ => none) (fun _ => none) a
def veq (d : Nat) : V → V → Option Bool := Nat.rec (motive := fun _ => V → V → Option Bool) (veq0 D fun _ _ => none) (fun _ ih => veq0 D fun x y => veqL ih x y) d
def eqF (a b : V) (s : S) : Option Bool := vO (veq D 12 a b) (fun i => vO none (fun j => oL none (fun x => oL none (fun y => bt (Nat.beq (lenF x) (lenF y)) (veqL (veq D 12) x y) (some false)) (D.look s j)) (D.look s i)) b) a
def keyEq (a b : V) : Option Bool := vE none (fun _ => none) (fun i => vI none (fun j => D.eq i j) b) (fun x => vS none (fun y => some (eqL x y)) b) (fun _ => none) (fun _ => none) (fun _ => none) (fun _ => none) (fun _ => none) a
def getK (es : List (V × V)) (x : V) : Option (Option V) := List.rec (motive := fun _ => Option (Option V)) (some none) (fun p _ ih => oo none (fun c => bt c (some (some p.2)) ih) (keyEq D p.1 x)) es
def hasK (es : List (V × V)) (x : V) : Option Bool := oo none (fun o => some (oo false (fun _ => true) o)) (getK D es x)
def isKey (v : V) : Bool := vE false (fun _ => false) (fun _ => true) (fun _ => true) (fun _ => false) (fun _ => false) (fun _ => false) (fun _ => false) (fun _ => false) v
def putK (es : List (V × V)) (x v : V) : Option (List (V × V)) := bt (isKey x) (oo none (fun c => bt c none (some (app es [(x, v)]))) (hasK D es x)) none
def inL (f : V → V → Option Bool) (x : V) (l : List V) : Option Bool := List.rec (motive := fun _ => Option Bool) (some false) (fun b _ ih => oo none (fun p => oo none (fun q => some (bt p true q)) ih) (f b x)) l
def inF (a b : V) (s : S) : Option Bool := bt (isKey a) (vE none (fun _ => none) (fun _ => none)
  (fun y => vS none (fun x => List.rec (motive := fun _ => Option Bool) none (fun c r _ => List.rec (motive := fun _ => Option Bool) (some (anyF (fun d => Nat.beq d c) y)) (fun _ _ _ => none) r) x) a) (fun _ => none)
  (fun l => inL (keyEq D) a l) (fun o => oL (oD none (fun es => hasK D es a) (D.look s o)) (fun l => inL (keyEq D) a l) (D.look s o)) (fun _ => none) (fun _ => none) b) none
def isNone (v : V) : Option Bool := vE (some true) (fun _ => none) (fun _ => some false) (fun _ => some false) (fun _ => some false) (fun _ => some false) (fun _ => some false) (fun _ => none) (fun _ => none) v
def on (f : α → β) (o : Option α) : Option β := oo none (fun a => some (f a)) o
def ltF (a b : V) : Option Bool := vI none (fun i => vI none (fun j => D.lt i j) b) a
def leF (a b : V) : Option Bool := vE none (fun _ => none) (fun i => vI none (fun j => leI D i j) b) (fun x => vS none (fun y => some (leL x y)) b) (fun _ => none) (fun _ => none) (fun _ => none) (fun _ => none) (fun _ => none) a
structure CO (S : Type) where
  f : V → V → S → Option Bool
def cO (op : CmpOp) : CO S := CmpOp.rec (motive := fun _ => CO S) ⟨fun a b s => eqF D a b s⟩ ⟨fun a b s => on not (eqF D a b s)⟩
  ⟨fun a b _ => ltF D a b⟩ ⟨fun a b _ => leF D a b⟩ ⟨fun a b _ => ltF D b a⟩ ⟨fun a b _ => vI none (fun i => vI none (fun j => leI D j i) b) a⟩
  ⟨fun a b _ => vN (isNone a) none b⟩ ⟨fun a b _ => vN (on not (isNone a)) none b⟩ ⟨fun a b s => inF D a b s⟩ ⟨fun a b s => on not (inF D a b s)⟩ op
def isAdd (op : Operator) : Bool := Operator.rec (motive := fun _ => Bool) true false false false false false false false false false false false false op
def binF (op : Operator) (a b : V) (s : S) : RF S V := vE .bad (fun _ => .bad) (fun i => vI .bad (fun j => ob s (on .int (D.ar op i j))) b)
  (fun x => vS .bad (fun y => gd (isAdd op) (gd (Nat.ble (Nat.add (lenF x) (lenF y)) 99999) (.ok (.str (app x y)) s))) b)
  (fun x => vY .bad (fun y => gd (isAdd op) (gd (D.fit (app x y)) (.ok (.byt (app x y)) s))) b)
  (fun x => vT .bad (fun y => gd (isAdd op) (gd (Nat.ble (Nat.add (lenF x) (lenF y)) 99999) (.ok (.tup (app x y)) s))) b) (fun _ => .bad) (fun _ => .bad) (fun _ => .bad) a
def ixF (a b : V) (s : S) : RF S V := vE .bad (fun _ => .bad) (fun _ => .bad)
  (fun x => vI .bad (fun i => oo .bad (fun n => oo .bad (fun c => .ok (.str [c]) s) (nth x n)) (D.nat i)) b)
  (fun x => vI .bad (fun i => oo .bad (fun c => .ok (.int (Int.ofNat c)) s) (D.bix x i)) b)
  (fun l => vI .bad (fun i => ob s (D.ix l i)) b)
  (fun o => oL (oD .bad (fun es => vS .bad (fun x => oo .bad (fun o => ob s o) (getK D es (.str x))) b) (D.look s o)) (fun l => vI .bad (fun i => oo .bad (fun n => ob s (nth l n)) (D.nat i)) b) (D.look s o)) (fun _ => .bad) (fun _ => .bad) a
def endI (o : Option V) : Option (Option Int) := oo (some none) (fun v => vI none (fun i => some (some i)) v) o
variable (P : Prg)
def cutT (l : List V) (a b : Option Int) (s : S) : RF S V := oo .bad (fun i => oo .bad (fun x => oo .bad (fun y => gd (Nat.ble 1 x) (gd (Nat.ble x y) (gd (Nat.ble y (lenF l)) (gd (smallF l) (.ok (.tup (takeF (dropF x l) (Nat.sub y x))) s))))) (oo (some (lenF l)) D.nat b)) (D.nat i)) a
def cutF (o : V) (a b : Option V) (s : S) : RF S V := oo .bad (fun a => oo .bad (fun b => vE .bad (fun _ => .bad) (fun _ => .bad) (fun _ => .bad)
  (fun x => ob s (on .byt (D.cutb x a b))) (fun l => cutT D l a b s) (fun _ => .bad)
  (fun r => oo .bad (fun l => oo (oo .bad (fun j => oo .bad (fun n => gd (smallF l) (newLF D s (takeF l n))) (D.nat j)) b) (fun _ => .bad) a) (P.lst r)) (fun _ => .bad) o) (endI b)) (endI a)
def is4 (a b c d : Bool) (v : V) (s : S) : RF S V := vE .bad (fun _ => .bad) (fun _ => .ok (.bool a) s) (fun _ => .ok (.bool b) s) (fun _ => .ok (.bool c) s) (fun _ => .ok (.bool d) s) (fun _ => .bad) (fun _ => .bad) (fun _ => .bad) v
def bIsi (t : BI) (v : V) (s : S) : RF S V := BI.rec (motive := fun _ => RF S V) .bad .bad .bad .bad .bad .bad .bad .bad (is4 true false false false v s) (is4 false false false false v s) (is4 false true false false v s) (is4 false false true false v s) (is4 false false false true v s) .bad .bad .bad .bad t
def bLen (v : V) (s : S) : RF S V := vE .bad (fun _ => .bad) (fun _ => .bad) (fun l => numF s (lenF l)) (fun l => ob s (on .int (D.blen l))) (fun l => numF s (lenF l))
  (fun i => oL (oD .bad (fun es => numF s (lenF es)) (D.look s i)) (fun l => numF s (lenF l)) (D.look s i)) (fun r => oo .bad (fun l => numF s (lenF l)) (P.lst r)) (fun _ => .bad) v
def oneI (l : List V) : Bool := a1 false (fun v => vI false (fun _ => true) v) l
def bSorted (v : V) (s : S) : RF S V := vO .bad (fun i => oL .bad (fun l => gd (Nat.ble (lenF l) 63) (bt (oneI l) (newLF D s l) (oo .bad (fun ss => newLF D s (mapF .str (sortS ss))) (mapO strOf l)))) (D.look s i)) v
def bAll (v : V) (s : S) : RF S V := vO .bad (fun i => oL .bad (fun l => oo .bad (fun bs => .ok (.bool (allF (fun b => b) bs)) s) (mapO boolOf l)) (D.look s i)) v
def byteI (v : V) : Option Nat := vI none (fun i => oo none (fun n => bt (Nat.ble n 255) (some n) none) (D.nat i)) v
def bBytes (v : V) (s : S) : RF S V := vE .bad (fun _ => .bad) (fun _ => .bad) (fun _ => .bad) (fun b => gd (D.fit b) (.ok (.byt b) s)) (fun _ => .bad)
  (fun i => oY (oL .bad (fun l => oo .bad (fun b => gd (D.raw b) (gd (smallF l) (.ok (.byt b) s))) (mapO (byteI D) l)) (D.look s i)) (fun b => gd (D.raw b) (gd (smallF b) (.ok (.byt b) s))) (D.look s i)) (fun _ => .bad) (fun _ => .bad) v
def bTuple (v : V) (s : S) : RF S V := vE .bad (fun _ => .bad) (fun _ => .bad) (fun _ => .bad) (fun _ => .bad) (fun l => .ok (.tup l) s) (fun i => oL .bad (fun l => gd (smallF l) (.ok (.tup l) s)) (D.look s i)) (fun _ => .bad) (fun _ => .bad) v
def bList (v : V) (s : S) : RF S V := vE .bad (fun _ => .bad) (fun _ => .bad) (fun _ => .bad) (fun _ => .bad) (fun l => gd (smallF l) (newLF D s l)) (fun i => oD .bad (fun es => gd (smallF es) (newLF D s (mapF (fun p => p.1) es))) (D.look s i)) (fun _ => .bad) (fun _ => .bad) v
structure BF (S : Type) where
  f : List V → S → RF S V
def cBI (id : BI) : BF S := BI.rec (motive := fun _ => BF S)
  ⟨fun vs s => a1 .bad (fun v => bLen D P v s) vs⟩
  ⟨fun vs s => a2 .bad (fun v t => vR .bad (fun _ => .bad) (fun t => bIsi t v s) t) vs⟩
  ⟨fun vs s => a1 .bad (fun v => vS .bad (fun x => List.rec (motive := fun _ => RF S V) .bad (fun c r _ => List.rec (motive := fun _ => RF S V) (gd (Nat.ble c 1999999) (.ok (.int (Int.ofNat c)) s)) (fun _ _ _ => .bad) r) x) v) vs⟩
  ⟨fun vs s => a1 .bad (fun v => vI .bad (fun i => oo .bad (fun n => gd (Nat.ble n 1114111) (.ok (.str [n]) s)) (D.nat i)) v) vs⟩
  ⟨fun vs s => a1 .bad (fun v => bSorted D v s) vs⟩
  ⟨fun vs s => a2 .bad (fun v w => vI .bad (fun i => vI .bad (fun j => oo .bad (fun c => .ok (.int (bt c j i)) s) (D.lt j i)) w) v) vs⟩
  ⟨fun vs s => a1 .bad (fun v => bAll D v s) vs⟩
  ⟨fun vs s => a1 .bad (fun v => vI .bad (fun i => gd (D.lit i) (gd (D.lit (Int.ofNat i.natAbs)) (.ok (.int (Int.ofNat i.natAbs)) s))) v) vs⟩
  ⟨fun vs s => a1 .bad (fun v => vI .bad (fun i => .ok (.int i) s) v) vs⟩
  ⟨fun _ _ => .bad⟩ ⟨fun _ _ => .bad⟩
  ⟨fun vs s => a1 .bad (fun v => bBytes D v s) vs⟩
  ⟨fun vs s => a1 .bad (fun v => bTuple D v s) vs⟩
  ⟨fun vs s => a1 .bad (fun v => bList D v s) vs⟩
  ⟨fun vs s => List.rec (motive := fun _ => RF S V) (pushF D s (.barr []) fun i s => .ok (.obj i) s) (fun _ _ _ => .bad) vs⟩
  ⟨fun _ _ => .bad⟩ ⟨fun _ _ => .bad⟩ id
def hasAttr (C : Addr) (x : Nat) : Bool := oo false (fun c => anyF (fun y => Nat.beq y x) c.attrs) (P.cls C)
def isExc (C : Addr) : Bool := oo false (fun c => c.exc) (P.cls C)
def methT (C : Addr) (x : Nat) : Option Addr := oo none (fun c => luk c.meths x) (P.cls C)
def attrF (v : V) (x : Nat) (s : S) : RF S V := vO .bad (fun i => oI .bad (fun C fs => gd (hasAttr P C x) (ob s (luk fs x))) (D.look s i)) v
def setA (o : V) (x : Nat) (v : V) (s : S) : RF S V := vO .bad (fun i => oI .bad (fun C fs => gd (hasAttr P C x) (gd (smallF fs) (.ok .none (D.set s i (.inst C (put fs x v)))))) (D.look s i)) o
def setI (o i v : V) (s : S) : RF S V := vO .bad (fun j => oL (oD .bad (fun es => gd (smallF es) (oo .bad (fun es => .ok .none (D.set s j (.dict es))) (putK D es i v))) (D.look s j))
  (fun l => vI .bad (fun n => oo .bad (fun n => gd (Nat.ble (Nat.succ n) (lenF l)) (.ok .none (D.set s j (.list (setN l v n))))) (D.nat n)) i) (D.look s j)) o
def mSplit (x : List Nat) (vs : List V) (s : S) : RF S V := a1 .bad (fun v => vS .bad (fun y => List.rec (motive := fun _ => RF S V) .bad (fun c r _ => List.rec (motive := fun _ => RF S V) (gd (smallF x) (newLF D s (mapF .str (splitF c x)))) (fun _ _ _ => .bad) r) y) v) vs
def mFind (x : List Nat) (vs : List V) (s : S) : RF S V := a1 .bad (fun v => vS .bad (fun y => List.rec (motive := fun _ => RF S V) .bad (fun c r _ => List.rec (motive := fun _ => RF S V) (bt (anyF (fun d => Nat.beq d c) x) .bad (gd (D.lit (-1)) (.ok (.int (-1)) s))) (fun _ _ _ => .bad) r) y) v) vs
def mLower (x : List Nat) (vs : List V) (s : S) : RF S V := List.rec (motive := fun _ => RF S V) (gd (ascii x) (gd (smallF x) (.ok (.str (mapF lower1 x)) s))) (fun _ _ _ => .bad) vs
def mJoin (x : List Nat) (vs : List V) (s : S) : RF S V := a1 .bad (fun v => vO .bad (fun i => oL .bad (fun l => oo .bad (fun ss => gd (Nat.ble (joinSize (lenF x) ss) 999999) (.ok (.str (joinL x ss)) s)) (mapO strOf l)) (D.look s i)) v) vs
def mBjoin (x : List Nat) (vs : List V) (s : S) : RF S V := a1 .bad (fun v => vO .bad (fun i => oL .bad (fun l => oo .bad (fun ss => List.rec (motive := fun _ => RF S V) (gd (D.fit (joinL [] ss)) (.ok (.byt (joinL [] ss)) s)) (fun _ _ _ => .bad) x) (mapO bytOf l)) (D.look s i)) v) vs
def mApp (i : Nat) (vs : List V) (s : S) : RF S V := a1 .bad (fun v => oL .bad (fun l => gd (smallF l) (.ok .none (D.set s i (.list (app l [v]))))) (D.look s i)) vs
def mBapp (i : Nat) (vs : List V) (s : S) : RF S V := a1 .bad (fun v => oo .bad (fun n => oY .bad (fun b => gd (smallF b) (.ok .none (D.set s i (.barr (app b [n]))))) (D.look s i)) (byteI D v)) vs
def mBext (i : Nat) (vs : List V) (s : S) : RF S V := a1 .bad (fun v => vY .bad (fun c => gd (D.raw c) (oY .bad (fun b => gd (smallF b) (gd (smallF c) (.ok .none (D.set s i (.barr (app b c)))))) (D.look s i))) v) vs
def kAppend : Nat := kc (Str.ofString "append")
def kExtend : Nat := kc (Str.ofString "extend")
def kSplit : Nat := kc (Str.ofString "split")
def kFind : Nat := kc (Str.ofString "find")
def kLower : Nat := kc (Str.ofString "lower")
def kJoin : Nat := kc (Str.ofString "join")
def kDebug : Nat := kc (Str.ofString "__debug__")
def kClassd : Nat := kc (Str.ofString "__classdict__")
def methF (ih : SemF S) (ov : V) (x : Nat) (s : S) (k : (List V → S → RF S V) → RF S V) : RF S V := vE .bad (fun _ => .bad) (fun _ => .bad)
  (fun y => bt (Nat.beq x kSplit) (k (mSplit D y)) (bt (Nat.beq x kFind) (k (mFind D y)) (bt (Nat.beq x kLower) (k (mLower y)) (bt (Nat.beq x kJoin) (k (mJoin D y)) .bad))))
  (fun y => gd (Nat.beq x kJoin) (k (mBjoin D y))) (fun _ => .bad)
  (fun i => oo .bad (fun o => MO.rec (motive := fun _ => RF S V) (fun _ => gd (Nat.beq x kAppend) (k (mApp D i))) (fun _ => .bad)
    (fun C fs => oo (oo .bad (fun a => k fun vs s => ih.cl a (.obj i :: vs) s) (methT P C x)) (fun _ => .bad) (luk fs x))
    (fun _ => bt (Nat.beq x kAppend) (k (mBapp D i)) (gd (Nat.beq x kExtend) (k (mBext D i)))) (fun _ _ => .bad) o) (D.look s i)) (fun _ => .bad) (fun _ => .bad) ov
def isCal (fv : V) : Bool := vR false (fun a => oo (oo false (fun c => not c.exc) (P.cls a)) (fun _ => true) (P.fn a)) (fun _ => true) fv
def callF (ih : SemF S) (fv : V) (vs : List V) (s : S) : RF S V := vR .bad
  (fun a => oo (oo .bad (fun c => gd (not c.exc) (pushF D s (.inst a []) fun i s => rb (ih.cl c.init (.obj i :: vs) s) fun v s => vN (.ok (.obj i) s) .bad v)) (P.cls a)) (fun _ => ih.cl a vs s) (P.fn a))
  (fun b => (cBI D P b).f vs s) fv
end
end
end Mine
namespace Mine
open PySem
noncomputable section
variable {S T α β γ : Type}
structure CE (S : Type) where
  run : SemF S → MEnv → S → RF S V
structure CS (S : Type) where
  run : SemF S → ES S → RF (ES S) Fl
def bad1 : CE S := ⟨fun _ _ _ => .bad⟩
def bad2 : CS S := ⟨fun _ _ => .bad⟩
def kE (c : Bool) (r : CE S) : CE S := Bool.rec (motive := fun _ => CE S) bad1 r c
def kS (c : Bool) (r : CS S) : CS S := Bool.rec (motive := fun _ => CS S) bad2 r c
def isGI (o : Option NameKind) : Bool := oo false (fun k => NameKind.rec (motive := fun _ => Bool) false false false false true k) o
def isLo (o : Option NameKind) : Bool := oo false (fun k => NameKind.rec (motive := fun _ => Bool) true false false false false k) o
section
variable (D : Dm S) (P : Prg)
def evL (es : List Expr) (ih : SemF S) (env : MEnv) : S → (List V → S → RF S α) → RF S α := List.rec (motive := fun _ => S → (List V → S → RF S α) → RF S α) (fun s k => k [] s)
  (fun e _ go s k => rb (ih.ev env s e) fun v s => go s fun vs s => k (v :: vs) s) es
def bopF (op : BoolOp) (es : List Expr) (ih : SemF S) (env : MEnv) : S → RF S V := List.rec (motive := fun _ => S → RF S V) (fun _ => .bad)
  (fun e r go s => rb (ih.ev env s e) fun v s => vB .bad (fun b => List.rec (motive := fun _ => RF S V) (.ok (.bool b) s) (fun _ _ _ => BoolOp.rec (motive := fun _ => RF S V) (bt b (go s) (.ok (.bool false) s)) (bt b (.ok (.bool true) s) (go s)) op) r) v) es
inductive Src where
  | v (v : V)
  | range (n : Nat)
def itF (src : Src) (s : S) (i : Nat) : Option (Option V) := Src.rec (motive := fun _ => Option (Option V))
  (fun v => vE none (fun _ => none) (fun _ => none) (fun x => bt (ascii x) (some (on (fun c => .str [c]) (nth x i))) none) (fun x => bt (D.raw x) (some (on (fun c => .int (Int.ofNat c)) (nth x i))) none)
    (fun l => some (nth l i)) (fun o => oL none (fun l => some (nth l i)) (D.look s o)) (fun _ => none) (fun _ => none) v)
  (fun n => bt (Nat.ble i 999999) (some (bt (Nat.ble (Nat.succ i) n) (some (.int (Int.ofNat i))) none)) none) src
def turns : Nat := 2000
def xk (e : Expr) : Nat := Expr.casesOn (motive_1 := fun _ => Nat) e (fun _ _ _ => 0) (fun _ _ _ => 1) (fun _ _ _ _ => 2) (fun _ _ _ => 3) (fun _ _ _ _ => 4) (fun _ _ _ _ => 5) (fun _ _ _ => 6) (fun _ _ _ => 7) (fun _ _ _ _ => 8) (fun _ _ _ _ => 9) (fun _ _ _ _ _ => 10) (fun _ _ _ _ => 11)
  (fun _ _ => 12) (fun _ _ => 13) (fun _ _ => 14) (fun _ _ _ _ => 15) (fun _ _ _ _ => 16) (fun _ _ _ _ => 17) (fun _ _ => 18) (fun _ _ _ => 19) (fun _ _ _ => 20) (fun _ _ _ => 21) (fun _ _ => 22) (fun _ _ => 23) (fun _ _ => 24) (fun _ _ _ => 25) (fun _ _ _ _ => 26)
def noStar (e : Expr) : Bool := not (Nat.beq (xk e) 22)
def notSet (e : Expr) : Bool := not (Nat.beq (xk e) 7)
def isName (e : Expr) : Bool := Nat.beq (xk e) 23
def isLc (e : Expr) : Bool := Nat.beq (xk e) 8
def noComp (e : Expr) : Bool := bt (Nat.ble 8 (xk e)) (not (Nat.ble (xk e) 10)) true
def namesT (t : Expr) : Option (List Str) := match t with
  | .Name x _ => some [x]
  | .Tuple es _ _ => mapO (fun e => match e with
    | .Name x _ => some x
    | _ => none) es
  | _ => none
def locals (sc : List (Str × NameKind)) (xs : List Str) : Bool := allF (fun x => isLo (lukS sc (kc x))) xs
def putL (xs : List Str) : List V → List (Nat × V) → Option (List (Nat × V)) := List.rec (motive := fun _ => List V → List (Nat × V) → Option (List (Nat × V))) (fun vs vars => List.rec (motive := fun _ => Option (List (Nat × V))) (some vars) (fun _ _ _ => none) vs)
  (fun x _ go vs vars => List.rec (motive := fun _ => Option (List (Nat × V))) none (fun v vs _ => go vs (put vars (kc x) v)) vs) xs
structure TT where
  f : V → List (Nat × V) → Option (List (Nat × V))
  ok : List (Str × NameKind) → Bool
def cT (t : Expr) : TT := match t with
  | .Name x _ => ⟨fun v vars => some (put vars (kc x) v), fun sc => isLo (lukS sc (kc x))⟩
  | .Tuple es _ _ => oo ⟨fun _ _ => none, fun _ => false⟩ (fun xs => ⟨fun v vars => vT none (fun vs => putL xs vs vars) v, fun sc => locals sc xs⟩) (namesT t)
  | _ => ⟨fun _ _ => none, fun _ => false⟩
def capt (env : MEnv) (sc : List (Str × NameKind)) : Option (List (Nat × V)) := List.rec (motive := fun _ => Option (List (Nat × V))) (some [])
  (fun p _ ih => NameKind.rec (motive := fun _ => Option (List (Nat × V))) (bt (isLo (lukS sc (kc p.1))) ih none) none
    (oo none (fun k => oo none (fun k' => NameKind.rec (motive := fun _ => Option (List (Nat × V))) none none (bt (NameKind.rec (motive := fun _ => Bool) false true true false false k') (oo none (fun v => oo none (fun r => some ((kc p.1, v) :: r)) ih) (luk env.vars (kc p.1))) none) none none k) (lukS env.sc (kc p.1))) (lukS sc (kc p.1)))
    ih ih p.2) sc
def tstV (es : List Expr) (ih : SemF S) (env : MEnv) : S → RF S Bool := List.rec (motive := fun _ => S → RF S Bool) (fun s => .ok true s)
  (fun e _ go s => rb (ih.ev env s e) fun v s => vB .bad (fun b => bt b (go s) (.ok false s)) v) es
def setD (i : Nat) (kv vv : V) (s : S) : RF S V := oD .bad (fun es => gd (smallF es) (oo .bad (fun es => .ok .none (D.set s i (.dict es))) (putK D es kv vv))) (D.look s i)
def addL (elt : Expr) (i : Nat) (ih : SemF S) (env : MEnv) (s : S) : RF S V := rb (ih.ev env s elt) fun y s => mApp D i [y] s
def addD (k v : Expr) (i : Nat) (ih : SemF S) (env : MEnv) (s : S) : RF S V := rb (ih.ev env s k) fun kv s => rb (ih.ev env s v) fun vv s => setD D i kv vv s
def compF (ih : SemF S) (sc : List (Str × NameKind)) (t : TT) (ifs : List Expr) (add : MEnv → S → RF S V) (src : V) (k : Nat) : Nat → List (Nat × V) → S → RF S V := Nat.rec (motive := fun _ => Nat → List (Nat × V) → S → RF S V) (fun _ _ _ => .bad)
  (fun _ go i vars s => oo .bad (fun o => oo (.ok .none s) (fun v => oo .bad (fun vars =>
    rn (tstV ifs ih ⟨sc, vars⟩ s) fun c s => bt c (rn (add ⟨sc, vars⟩ s) fun _ s => go (Nat.succ i) vars s) (go (Nat.succ i) vars s)) (t.f v vars)) o) (itF D (.v src) s i)) k
def noSuper (e : Expr) : Bool := match e with
  | .Call (.Name _ _) [] _ _ => false
  | _ => true
def cConst (c : Const) : CE S := match c with
  | .none => ⟨fun _ _ s => .ok .none s⟩
  | .bool b => ⟨fun _ _ s => .ok (.bool b) s⟩
  | .int i => kE (D.lit i) ⟨fun _ _ s => .ok (.int i) s⟩
  | .str x => ⟨fun _ _ s => .ok (.str x.cps.toList) s⟩
  | .bytes b => ⟨fun _ _ s => .ok (.byt (b.map UInt8.toNat)) s⟩
  | _ => bad1
def cName (x : Str) : CE S := kE (not (bt (Nat.beq (kc x) kDebug) true (Nat.beq (kc x) kClassd))) ⟨fun _ env s => oo (bt (isGI (lukS env.sc (kc x))) (ob s (P.glob (kc x))) .bad) (fun v => .ok v s) (luk env.vars (kc x))⟩
def cCall (f : Expr) (as : List Expr) (p : Pos) : CE S := match f with
  | .Name x q => kE (allF noStar as) ⟨fun ih env s => rb (ih.ev env s (.Name x q)) fun fv s => gd (isCal P fv) (evL as ih env s fun vs s => callF D P ih fv vs s)⟩
  | .Attribute o x q => kE (bt (noSuper o) (bt (Nat.beq q.endLine p.line) (bt (Nat.ble (lenF as) 29) (allF noStar as) false) false) false) ⟨fun ih env s => rb (ih.ev env s o) fun ov s => methF D P ih ov (kc x) s fun f => evL as ih env s f⟩
  | _ => bad1
def cCmp (a : Expr) (ops : List CmpOp) (bs : List Expr) : CE S := match ops, bs with
  | [op], [b] => kE (notSet b) ⟨fun ih env s => rb (ih.ev env s a) fun x s => rb (ih.ev env s b) fun y s => ob s (on .bool ((cO D op).f x y s))⟩
  | [op, op'], [b, c] => kE (notSet c) ⟨fun ih env s => rb (ih.ev env s a) fun x s => rb (ih.ev env s b) fun y s => oo .bad (fun r => bt r (rb (ih.ev env s c) fun z s => ob s (on .bool ((cO D op').f y z s))) (.ok (.bool false) s)) ((cO D op).f x y s)⟩
  | _, _ => bad1
def evO (o : Option Expr) (ih : SemF S) (env : MEnv) (s : S) (k : Option V → S → RF S α) : RF S α := oo (k none s) (fun e => rb (ih.ev env s e) fun v s => k (some v) s) o
def cSub (o i : Expr) : CE S := match i with
  | .Slice a b .none _ => ⟨fun ih env s => rb (ih.ev env s o) fun x s => evO a ih env s fun u s => evO b ih env s fun w s => cutF D P x u w s⟩
  | .Slice _ _ (.some _) _ => bad1
  | i => ⟨fun ih env s => rb (ih.ev env s o) fun x s => rb (ih.ev env s i) fun y s => ixF D x y s⟩
def cDict (ks : List (Option Expr)) (vs : List Expr) : CE S := match ks, vs with
  | [], [] => ⟨fun _ _ s => pushF D s (.dict []) fun i s => .ok (.obj i) s⟩
  | [some k], [v] => ⟨fun ih env s => pushF D s (.dict []) fun i s => rb (ih.ev env s k) fun kv s => rb (ih.ev env s v) fun vv s => rb (setD D i kv vv s) fun _ s => .ok (.obj i) s⟩
  | _, _ => bad1
def plainSc (sc : Scope) : Bool := match sc with
  | ⟨.function, _, false, false, _⟩ => true
  | _ => false
def cComp (it : Expr) (sc : Scope) (t : Expr) (ifs : List Expr) (o : MO) (add : Nat → SemF S → MEnv → S → RF S V) : CE S := kE (bt (notSet it) (bt (plainSc sc) ((cT t).ok sc.names) false) false) ⟨fun ih env s => oo .bad (fun vars => rb (ih.ev env s it) fun src s => oo .bad (fun _ => pushF D s o fun i s => rb (compF D ih sc.names (cT t) ifs (add i ih) src turns 0 vars s) fun _ s => .ok (.obj i) s) (itF D (.v src) s 0)) (capt env sc.names)⟩
def oneGen (gens : List Comprehension) : Option (Expr × Expr × List Expr) := match gens with
  | [⟨t, it, ifs, .ofNat 0⟩] => some (t, it, ifs)
  | _ => none
def cLc (elt : Expr) (gens : List Comprehension) (sc : Scope) : CE S := oo bad1 (fun g => cComp D g.2.1 sc g.1 g.2.2 (.list []) (addL D elt)) (oneGen gens)
def cDc (k v : Expr) (gens : List Comprehension) (sc : Scope) : CE S := oo bad1 (fun g => cComp D g.2.1 sc g.1 g.2.2 (.dict []) (addD D k v)) (oneGen gens)
def cE (e : Expr) : CE S := match e with
  | .Constant c _ _ => cConst D c
  | .Name x _ => cName P x
  | .Attribute o x _ => kE (noSuper o) ⟨fun ih env s => rb (ih.ev env s o) fun v s => attrF D P v (kc x) s⟩
  | .Call f as [] p => cCall D P f as p
  | .BinOp a op b _ => ⟨fun ih env s => rb (ih.ev env s a) fun x s => rb (ih.ev env s b) fun y s => binF D op x y s⟩
  | .UnaryOp .USub a _ => ⟨fun ih env s => rb (ih.ev env s a) fun x s => vI .bad (fun i => ob s (on .int (D.ar .Sub 0 i))) x⟩
  | .UnaryOp .Not a _ => ⟨fun ih env s => rb (ih.ev env s a) fun x s => vB .bad (fun b => .ok (.bool (not b)) s) x⟩
  | .BoolOp op es _ => ⟨fun ih env s => bopF op es ih env s⟩
  | .Compare a ops bs _ => cCmp D a ops bs
  | .IfExp t a b _ => ⟨fun ih env s => rb (ih.ev env s t) fun x s => vB .bad (fun c => bt c (ih.ev env s a) (ih.ev env s b)) x⟩
  | .Subscript o i _ => cSub D P o i
  | .Tuple es _ _ => kE (allF noStar es) ⟨fun ih env s => evL es ih env s fun vs s => gd (smallF vs) (.ok (.tup vs) s)⟩
  | .List es _ => kE (allF noStar es) ⟨fun ih env s => evL es ih env s fun vs s => gd (smallF vs) (newLF D s vs)⟩
  | .Dict ks vs _ => cDict D ks vs
  | .ListComp elt gens sc _ => cLc D elt gens sc
  | .DictComp k v gens sc _ => cDc D k v gens sc
  | _ => bad1
end
end
end Mine
namespace Mine
open PySem
noncomputable section
variable {S T α β γ : Type}
section
variable (D : Dm S) (P : Prg)
def rtE (x : Stmt) : Option Expr := match x with
  | .Return e _ => e
  | _ => none
def asE (x : Stmt) : Option (List Expr × Expr) := match x with
  | .Assign ts e _ => some (ts, e)
  | _ => none
def cnE (e : Expr) : Option Const := match e with
  | .Constant c _ _ => some c
  | _ => none
def nmE (e : Expr) : Option (Str × Pos) := match e with
  | .Name x p => some (x, p)
  | _ => none
def l1 (d : β) (f : α → β) (l : List α) : β := List.rec (motive := fun _ => β) d (fun a r _ => List.rec (motive := fun _ => β) (f a) (fun _ _ _ => d) r) l
def tupE (e : Expr) : Option (List Expr) := match e with
  | .Tuple es _ _ => some es
  | _ => none
def blE (e : Expr) : Option Expr := match e with
  | .BinOp l _ _ _ => some l
  | _ => none
def l2 (d : β) (f : α → α → β) (l : List α) : β := List.rec (motive := fun _ => β) d (fun a r _ => l1 d (f a) r) l
def notConst (e : Expr) : Bool := bt (Nat.beq (xk e) 16) true (oo false (fun l => oo false (fun x => not (Nat.beq (kc x.1) kDebug)) (nmE l)) (blE e))
def asgOk (t e : Expr) : Bool := oo (noComp e) (fun vs => l2 false (fun a b => oo false (fun ts => l2 false (fun u v => oo false (fun x => oo false (fun y => bt (Nat.beq x.2.line y.2.line) (bt (Nat.beq (kc x.1) (kc y.1)) false (bt (noStar a) (bt (noStar b) (notConst b) false) false)) false) (nmE v)) (nmE u)) ts) (tupE t)) vs) (tupE e)
def bindF (t : TT) (v : V) (x : ES S) : RF (ES S) Fl := bt (t.ok x.e.sc) (oo .bad (fun vars => .ok .next ⟨⟨x.e.sc, vars⟩, x.s⟩) (t.f v x.e.vars)) .bad
def asL (v : V) (s : S) : V := vO v (fun i => oL v (fun l => .tup l) (D.look s i)) v
def whlF (ih : SemF S) (t : Expr) (b : List Stmt) (n : Nat) : ES S → RF (ES S) Fl := Nat.rec (motive := fun _ => ES S → RF (ES S) Fl) (fun _ => .bad)
  (fun _ go x => rn (ih.ev x.e x.s t) fun v s => vB .bad (fun c => bt c (rs (ih.ex ⟨x.e, s⟩ b) go) (.ok .next ⟨x.e, s⟩)) v) n
def forF (ih : SemF S) (t : TT) (b : List Stmt) (src : Src) (k : Nat) : Nat → ES S → RF (ES S) Fl := Nat.rec (motive := fun _ => Nat → ES S → RF (ES S) Fl) (fun _ _ => .bad)
  (fun _ go i x => oo .bad (fun o => oo (.ok .next x) (fun v => rs (bindF t v x) fun x => rs (ih.ex x b) fun x => go (Nat.succ i) x) o) (itF D src x.s i)) k
def zipL (ih : SemF S) (sc : List (Str × NameKind)) (x y : Nat) (c : Expr) (s : S) (l : List V) : List Nat → Bool := List.rec (motive := fun _ => List Nat → Bool) (fun k => List.rec (motive := fun _ => Bool) true (fun _ _ _ => false) k)
  (fun v _ go k => List.rec (motive := fun _ => Bool) false (fun u k _ => RF.rec (motive := fun _ => Bool) (fun r _ => vB false (fun b => bt b false (go k)) r) (fun _ _ => false) false (ih.ev ⟨sc, [(x, v), (y, .str [u])]⟩ s c)) k) l
def ifE (x : Stmt) : Option Expr := match x with
  | .If c _ [] _ => some c
  | _ => none
def zipT (t : Expr) (b : List Stmt) : Option (Str × Str × Expr) := oo none (fun ts => l2 none (fun u v => oo none (fun x => oo none (fun y => l1 none (fun s => oo none (fun c => some (x.1, y.1, c)) (ifE s)) b) (nmE v)) (nmE u)) ts) (tupE t)
def gz (c : Bool) (r : RF (ES S) Fl) : RF (ES S) Fl := bt c r .bad
def noOne (vars : List (Nat × V)) (x : Nat) : Bool := oo true (fun _ => false) (luk vars x)
def isR (fv : V) : Bool := vR false (fun _ => false) (fun b => BI.rec (motive := fun _ => Bool) false false false false false false false false false false false false false false false true false b) fv
def isZ (fv : V) : Bool := vR false (fun _ => false) (fun b => BI.rec (motive := fun _ => Bool) false false false false false false false false false false false false false false false false true b) fv
def cFor (t it : Expr) (b : List Stmt) : CS S := match it with
  | .Call (.Name f q) [e] [] _ => kS (noStar e) ⟨fun ih x => re x.e (ih.ev x.e x.s (.Name f q)) fun fv s => bt (isR fv) (re x.e (ih.ev x.e s e) fun v s => vI .bad (fun i => oo .bad (fun n => forF D ih (cT t) b (.range n) turns 0 ⟨x.e, s⟩) (D.nat i)) v) .bad⟩
  | .Call (.Name f q) [e, e'] [] _ => oo bad2 (fun g => kS (bt (noStar e) (noStar e') false) ⟨fun ih z => re z.e (ih.ev z.e z.s (.Name f q)) fun fv s => bt (isZ fv) (re z.e (ih.ev z.e s e) fun v s => re z.e (ih.ev z.e s e') fun w s => vT .bad (fun l => vS .bad (fun k =>
        gz (bt (ascii k) (bt (vGL l) (bt (Nat.beq (kc g.1) (kc g.2.1)) false (bt (locals z.e.sc [g.1, g.2.1]) (bt (noOne z.e.vars (kc g.1)) (bt (noOne z.e.vars (kc g.2.1)) (zipL ih z.e.sc (kc g.1) (kc g.2.1) g.2.2 D.nil l k) false) false) false)) false) false) (.ok .next ⟨z.e, s⟩)) w) v) .bad⟩) (zipT t b)
  | .Call (.Name f q) [] [] p => ⟨fun ih x => re x.e (ih.ev x.e x.s (.Call (.Name f q) [] [] p)) fun v s => forF D ih (cT t) b (.v v) turns 0 ⟨x.e, s⟩⟩
  | .Name f q => ⟨fun ih x => re x.e (ih.ev x.e x.s (.Name f q)) fun v s => forF D ih (cT t) b (.v v) turns 0 ⟨x.e, s⟩⟩
  | .Attribute o f q => ⟨fun ih x => re x.e (ih.ev x.e x.s (.Attribute o f q)) fun v s => forF D ih (cT t) b (.v v) turns 0 ⟨x.e, s⟩⟩
  | .Call (.Attribute o f q) as [] p => ⟨fun ih x => re x.e (ih.ev x.e x.s (.Call (.Attribute o f q) as [] p)) fun v s => forF D ih (cT t) b (.v v) turns 0 ⟨x.e, s⟩⟩
  | _ => bad2
def atsF (os : List Expr) (ih : SemF S) (env : MEnv) : List V → S → RF (ES S) Fl := List.rec (motive := fun _ => List V → S → RF (ES S) Fl) (fun vs s => List.rec (motive := fun _ => RF (ES S) Fl) (.ok .next ⟨env, s⟩) (fun _ _ _ => .bad) vs)
  (fun o _ go vs s => List.rec (motive := fun _ => RF (ES S) Fl) .bad (fun v vs _ => (match o with
    | .Attribute o x _ => re env (ih.ev env s o) fun ov s => re env (setA D P ov (kc x) v s) fun _ s => go vs s
    | _ => .bad)) vs) os
def plF (x : ES S) (h : List Stmt) : RF (ES S) Fl := l1 .bad (fun s => oo
  (oo .bad (fun a => l1 .bad (fun t => oo .bad (fun y => oo .bad (fun c => Const.rec (motive := fun _ => RF (ES S) Fl) (bindF (cT (.Name y.1 y.2)) .none x) (fun _ => .bad) (fun _ => .bad) (fun _ => .bad) (fun _ _ => .bad) (fun _ => .bad) (fun _ => .bad) .bad c) (cnE a.2)) (nmE t)) a.1) (asE s))
  (fun e => oo .bad (fun c => Const.rec (motive := fun _ => RF (ES S) Fl) (.ok (.ret .none) x) (fun b => .ok (.ret (.bool b)) x) (fun _ => .bad) (fun _ => .bad) (fun _ _ => .bad) (fun _ => .bad) (fun _ => .bad) .bad c) (cnE e)) (rtE s)) h
def isT1 (vs : List V) : Bool := List.rec (motive := fun _ => Bool) false (fun v r _ => vS false (fun _ => List.rec (motive := fun _ => Bool) true (fun v r _ => vI false (fun _ => List.rec (motive := fun _ => Bool) true (fun _ _ _ => false) r) v) r) v) vs
def cRaise (e : Option Expr) : CS S := match e with
  | some (.Call (.Name f q) as [] _) => kS (allF noStar as) ⟨fun ih x => re x.e (rb (ih.ev x.e x.s (.Name f q)) fun fv s => vR .bad (fun C => gd (isExc P C) (evL as ih x.e s fun vs s => gd (isT1 vs) (.ok (V.ref C) s))) (fun _ => .bad) fv) fun v s => vR .bad (fun C => .exc C ⟨x.e, s⟩) (fun _ => .bad) v⟩
  | _ => bad2
def asg (t e : Expr) : CS S := match t with
  | .Name x q => bt (isLc e) ⟨fun ih z => re z.e ((cE D P e).run ih z.e z.s) fun v s => bindF (cT (.Name x q)) v ⟨z.e, s⟩⟩ (kS (noComp e) ⟨fun ih z => re z.e (ih.ev z.e z.s e) fun v s => bindF (cT (.Name x q)) v ⟨z.e, s⟩⟩)
  | .Tuple os k q => bt (isName (oo e (fun x => x) (nth os 0))) (kS (asgOk t e) ⟨fun ih z => re z.e (ih.ev z.e z.s e) fun v s => bindF (cT t) (asL D v s) ⟨z.e, s⟩⟩)
      (kS (bt (noComp e) (bt (Nat.ble 1 (lenF os)) (allF noStar os) false) false) ⟨fun ih z => re z.e (ih.ev z.e z.s e) fun v s => vT .bad (fun vs => bt (Nat.beq (lenF vs) (lenF os)) (atsF D P os ih z.e vs s) .bad) v⟩)
  | .Attribute o x _ => ⟨fun ih z => re z.e (ih.ev z.e z.s e) fun v s => re z.e (ih.ev z.e s o) fun ov s => re z.e (setA D P ov (kc x) v s) fun _ s => .ok .next ⟨z.e, s⟩⟩
  | .Subscript o i _ => ⟨fun ih z => re z.e (ih.ev z.e z.s e) fun v s => re z.e (ih.ev z.e s o) fun ov s => re z.e (ih.ev z.e s i) fun iv s => re z.e (setI D ov iv v s) fun _ s => .ok .next ⟨z.e, s⟩⟩
  | _ => bad2
def cS (x : Stmt) : CS S := match x with
  | .Expr e _ => kS (noComp e) ⟨fun ih z => re z.e (ih.ev z.e z.s e) fun _ s => .ok .next ⟨z.e, s⟩⟩
  | .Return (some e) _ => ⟨fun ih z => re z.e (ih.ev z.e z.s e) fun v s => .ok (.ret v) ⟨z.e, s⟩⟩
  | .Return .none _ => ⟨fun _ z => .ok (.ret .none) z⟩
  | .Assign [t] e _ => asg D P t e
  | .If t a b _ => ⟨fun ih z => re z.e (ih.ev z.e z.s t) fun v s => vB .bad (fun c => bt c (ih.ex ⟨z.e, s⟩ a) (ih.ex ⟨z.e, s⟩ b)) v⟩
  | .While t b [] _ => ⟨fun ih z => whlF ih t b 200 z⟩
  | .For t it b [] _ => cFor D t it b
  | .Raise e .none _ => cRaise P e
  | .Try b [.ExceptHandler (some (.Name c q)) .none h _] [] [] _ => ⟨fun ih z => RF.rec (motive := fun _ => RF (ES S) Fl) (fun fl z => .ok fl z) (fun C z => rn ((cName P c).run ih z.e z.s) fun v _ => vR .bad (fun E => bt (Nat.beq C E) (bt (isExc P C) (plF z h) .bad) .bad) (fun _ => .bad) v) .bad (ih.ex z b)⟩
  | .Try b [.ExceptHandler (some (.Name _ _)) (some _) _ _] [] [] _ => ⟨fun ih z => rn (ih.ex z b) fun fl z => .ok fl z⟩
  | _ => bad2
def cB (b : List Stmt) : CS S := List.rec (motive := fun _ => CS S) ⟨fun _ z => .ok .next z⟩ (fun x _ go => ⟨fun ih z => rs ((cS D P x).run ih z) fun z => go.run ih z⟩) b
def bpF (ps : List Str) (d : List V) : List V → Option (List (Nat × V)) := List.rec (motive := fun _ => List V → Option (List (Nat × V))) (fun vs => List.rec (motive := fun _ => Option (List (Nat × V))) (some []) (fun _ _ _ => none) vs)
  (fun x xs go vs => List.rec (motive := fun _ => Option (List (Nat × V))) (List.rec (motive := fun _ => Option (List (Nat × V))) (a1 none (fun v => some [(kc x, v)]) d) (fun _ _ _ => none) xs) (fun v vs _ => on (fun r => (kc x, v) :: r) (go vs)) vs) ps
def outF (r : RF (ES S) Fl) : RF S V := RF.rec (motive := fun _ => RF S V) (fun fl z => .ok (Fl.rec (motive := fun _ => V) .none (fun v => v) fl) z.s) (fun C z => .exc C z.s) .bad r
def outP (s : S) (r : RF (ES S) Fl) : RF S V := RF.rec (motive := fun _ => RF S V) (fun fl _ => Fl.rec (motive := fun _ => RF S V) (.ok .none s) (fun v => gd (vG v) (.ok v s)) fl) (fun C _ => .exc C s) .bad r
def fnF (ih : SemF S) (a : Addr) (vs : List V) (s : S) : RF S V := oo .bad (fun fi => oo .bad (fun vars => bt fi.pure (gd (vGL vs) (outP s (ih.ex ⟨⟨fi.sc, vars⟩, D.nil⟩ fi.body))) (outF (ih.ex ⟨⟨fi.sc, vars⟩, s⟩ fi.body))) (bpF fi.ps fi.dflt vs)) (P.fn a)
variable (orc : Addr → List V → S → Option (RF S V))
def semS (ih : SemF S) : SemF S := ⟨fun env s e => (cE D P e).run ih env s, fun z b => (cB D P b).run ih z, fun a vs s => oo (fnF D P ih a vs s) (fun r => r) (orc a vs s)⟩
def sem (n : Nat) : SemF S := Nat.rec (motive := fun _ => SemF S) ⟨fun _ _ _ => .bad, fun _ _ => .bad, fun _ _ _ => .bad⟩ (fun _ ih => semS D P orc ih) n
end
end
end Mine
namespace Mine
open PySem PyProof.Rows PySem.W
noncomputable section
structure Mp where
  f : Int → Int
  tok : Nat → List Nat
  jar : Nat → Nat → MO
def BI.val (b : BI) : Value := BI.rec (motive := fun _ => Value) (.builtin "len") (.builtin "isinstance") (.builtin "ord") (.builtin "chr") (.builtin "sorted") (.builtin "min") (.builtin "all") (.builtin "abs")
  (.type "int") (.type "bool") (.type "str") (.type "bytes") (.type "tuple") (.type "list") (.type "bytearray") (.type "range") (.type "zip") b
abbrev Io := List (Addr × Option Addr)
def Pl (ι : Io) (i : Nat) (a : Addr) (d : Option Addr) : Prop := ι[i]? = some (a, d)
def Own (ι : Io) (x : Addr) : Prop := ∃ i a d, Pl ι i a d ∧ (x = a ∨ d = some x)
def toB (b : List Nat) : Array UInt8 := (b.map UInt8.ofNat).toArray
def Bytes (b : List Nat) : Prop := ∀ x ∈ b, x < 256
section
variable (p : Mp) (h : Heap) (ι : Io)
def VR (v : V) : Value → Prop := V.rec (motive_1 := fun _ => Value → Prop) (motive_2 := fun _ => List Value → Prop)
  (fun w => w = .none) (fun b w => w = .bool b) (fun i w => ∃ t, w = .int (p.f i) t) (fun s w => ∃ t, w = .str ⟨s.toArray⟩ t)
  (fun b w => (∃ t, w = .bytes (toB (b.flatMap p.tok)) t) ∧ Bytes (b.flatMap p.tok)) (fun _ r w => ∃ a ws, w = .ref a ∧ IsTup h a ws.toArray ∧ r ws)
  (fun i w => ∃ a d, Pl ι i a d ∧ w = .ref a) (fun a w => w = .ref a) (fun b w => w = b.val)
  (fun ws => ws = []) (fun _ _ r q ws => List.rec (motive := fun _ => Prop) False (fun w u _ => r w ∧ q u) ws) v
def VRL (l : List V) : List Value → Prop := V.rec_1 (motive_1 := fun _ => Value → Prop) (motive_2 := fun _ => List Value → Prop)
  (fun w => w = .none) (fun b w => w = .bool b) (fun i w => ∃ t, w = .int (p.f i) t) (fun s w => ∃ t, w = .str ⟨s.toArray⟩ t)
  (fun b w => (∃ t, w = .bytes (toB (b.flatMap p.tok)) t) ∧ Bytes (b.flatMap p.tok)) (fun _ r w => ∃ a ws, w = .ref a ∧ IsTup h a ws.toArray ∧ r ws)
  (fun i w => ∃ a d, Pl ι i a d ∧ w = .ref a) (fun a w => w = .ref a) (fun b w => w = b.val)
  (fun ws => ws = []) (fun _ _ r q ws => List.rec (motive := fun _ => Prop) False (fun w u _ => r w ∧ q u) ws) l
def DR {K : Type} (κ : V → Option K) (es : List (V × V)) : List (K × Value) → Prop := List.rec (motive := fun _ => List (K × Value) → Prop) (fun l => l = [])
  (fun e _ q l => List.rec (motive := fun _ => Prop) False (fun kv r _ => κ e.1 = some kv.1 ∧ VR p h ι e.2 kv.2 ∧ q r) l) es
def κs (v : V) : Option Str := vS none (fun s => some ⟨s.toArray⟩) v
def κi (v : V) : Option Int := vI none (fun i => some (p.f i)) v
def FR (fs : List (Nat × V)) : List DictEntry → Prop := List.rec (motive := fun _ => List DictEntry → Prop) (fun l => l = [])
  (fun e _ q l => List.rec (motive := fun _ => Prop) False (fun d r _ => (∃ X t, d.key = .str X t ∧ kc X = e.1) ∧ VR p h ι e.2 d.val ∧ q r) l) fs
end
def OR0 (prog : Program) (w : World) (p : Mp) (h : Heap) (ι : Io) (a : Addr) (d : Option Addr) (jar : Nat → Nat → Prop) (o : MO) : Prop := MO.rec (motive := fun _ => Prop)
  (fun l => d = none ∧ ∃ n ws, h.get? a = some { cls := .type "list", data := .seq (List.toArray ws) n } ∧ VRL p h ι l ws)
  (fun es => d = none ∧ ((∃ kvs, h.DictOf (strKind prog w) a kvs ∧ DR p h ι κs es kvs) ∨ (∃ kvs, h.DictOf (intKind prog w) a kvs ∧ DR p h ι (κi p) es kvs)))
  (fun C fs => ∃ b, d = some b ∧ h.get? a = some { cls := .ref C, dict := some b, data := .plain } ∧ ∃ n ds, h.get? b = some { cls := .type "dict", data := .dict (List.toArray ds) n } ∧ FR p h ι fs ds)
  (fun b => d = none ∧ h.get? a = some { cls := .type "bytearray", data := .bytearray (toB b) 0 } ∧ Bytes b) jar o
def idp : Mp := ⟨fun i => i, fun c => [c], fun _ _ => .barr []⟩
def OR (prog : Program) (w : World) (p : Mp) (h : Heap) (ι : Io) (a : Addr) (d : Option Addr) (o : MO) : Prop := OR0 prog w p h ι a d (fun c k => OR0 prog w idp h ι a d (fun _ _ => False) (p.jar c k)) o
def Frm (base : Heap) (ι : Io) (h : Heap) (env : Env) : Prop :=
  env.scope.kind ≠ .module ∧ ∃ L o es ep, env.frame = some L ∧ base.get? L = none ∧ h.get? L = some o ∧ o.data = .dict es ep ∧ ¬ Own ι L
def fadr (envs : List Env) : List Addr := envs.filterMap (·.frame)
structure Cst (S : Type) where
  D : Dm S
  p : Mp
  P : Prg
  K : Frag
  prog : Program
  w : World
  base : Heap
  s0 : Shared
abbrev Cst.M {S : Type} (C : Cst S) : Model := model C.prog C.w
structure Fr where
  A : Around
  envs : List Env
structure Wd (S : Type) where
  ι : Io
  σ : S
  h : Heap
  tk : Nat
def Cst.sh {S : Type} (C : Cst S) (h : Heap) (tk : Nat) : Shared := { C.s0 with heap := h, toks := tk }
abbrev Cst.st {S : Type} (C : Cst S) (W : Wd S) : Shared := C.sh W.h W.tk
structure St {S : Type} (C : Cst S) (envs : List Env) (ι : Io) (σ : S) (h : Heap) : Prop where
  stays : C.base.StaysIn h
  frs : ∀ env ∈ envs, Frm C.base ι h env
  len : ι.length = C.D.len σ
  objs : ∀ i mo, C.D.look σ i = some mo → ∃ a d, Pl ι i a d ∧ OR C.prog C.w C.p h ι a d mo
  all : ∀ i a d, Pl ι i a d → ∃ mo, OR C.prog C.w C.p h ι a d mo
  apart : ∀ i j a d b c x, Pl ι i a d → Pl ι j b c → (x = a ∨ d = some x) → (x = b ∨ c = some x) → i = j
  fresh : ∀ a, Own ι a → C.base.get? a = none
  sysm : C.base.get? sysModules ≠ none
structure Lat (X : List Addr) (envs : List Env) (ι ι' : Io) (h h' : Heap) : Prop where
  ext : ∀ i a d, Pl ι i a d → ∃ d', Pl ι' i a d' ∧ (d = none ∨ d' = d)
  new : ∀ a, Own ι' a → ¬ Own ι a → h.get? a = none
  keep : ∀ b o, h.get? b = some o → ¬ Own ι b → b ∉ X → b ∉ fadr envs → h'.get? b = some o
  frk : ∀ b o, h.get? b = some o → b ∈ fadr envs → ¬ Own ι b → b ∉ X → ∃ sl, h'.get? b = some { o with slots := sl }
  dom : ∀ b o, h.get? b = some o → b ∉ X → ∃ o', h'.get? b = some o'
  xs : ∀ a ∈ X, ¬ Own ι' a
section
variable {S : Type} {C : Cst S} {envs : List Env} {ι ι' ι₁ ι₂ ι₃ : Io} {σ : S} {h h' h₁ h₂ h₃ : Heap} {X : List Addr} {p : Mp} {i : Nat} {a b : Addr} {d : Option Addr}
theorem own_of (e : Pl ι i a d) : Own ι a := ⟨i, a, d, e, .inl rfl⟩
theorem own_of2 (e : Pl ι i a (some b)) : Own ι b := ⟨i, a, _, e, .inr rfl⟩
theorem Lat.mono (l : Lat X envs ι ι' h h') (m : Own ι a) : Own ι' a := by
  refine ob_EEEA m fun i b d e q => ?_
  refine ob_EA (l.ext i b d e) fun d' e' c => ?_
  rcases q with q | q
  · exact ⟨i, b, d', e', .inl q⟩
  · exact ⟨i, b, d', e', .inr (c.elim (fun c => by rw [c] at q; injection q) fun c => c.trans q)⟩
theorem Lat.refl : Lat [] envs ι ι h h := ⟨fun _ _ d e => ⟨d, e, .inr rfl⟩, fun _ m n => absurd m n, fun _ _ e _ _ _ => e, fun _ o e _ _ _ => ⟨o.slots, e⟩, fun _ o e _ => ⟨o, e⟩, fun _ m => nomatch m⟩
theorem Lat.trans (x : Lat X envs ι₁ ι₂ h₁ h₂) (y : Lat X envs ι₂ ι₃ h₂ h₃) : Lat X envs ι₁ ι₃ h₁ h₃ :=
  have nin : ∀ b o, h₁.get? b = some o → ¬ Own ι₁ b → ¬ Own ι₂ b := fun b o e n m => nomatch e.symm.trans (x.new b m n)
  { ext := fun i a d e => ob_EA (x.ext i a d e) fun d' e' c => ob_EA (y.ext i a d' e') fun d'' e'' c' => ⟨d'', e'', c.elim .inl fun c => c ▸ c'⟩
    new := fun a m n => by
      cases e : h₁.get? a with
      | none => rfl
      | some o =>
        refine ob_E (x.dom a o e fun mx => y.xs a mx m) fun _u e' => ?_
        exact nomatch e'.symm.trans (y.new a m fun q => nin a o e n q)
    keep := fun b o e n nx nf => y.keep b o (x.keep b o e n nx nf) (nin b o e n) nx nf
    frk := fun b o e f n nx => ob_E (x.frk b o e f n nx) fun _u e' => ob_E (y.frk b _ e' f (nin b o e n) nx) fun sl' e'' => ⟨sl', e''⟩
    dom := fun b o e nx => ob_E (x.dom b o e nx) fun o' e' => y.dom b o' e' nx
    xs := y.xs }
theorem Lat.weaken {Y : List Addr} (x : Lat [] envs ι ι' h h') (xs : ∀ a ∈ Y, ¬ Own ι' a) : Lat Y envs ι ι' h h' where
  ext := x.ext
  new := x.new
  keep := fun b o e n _ nf => x.keep b o e n (fun m => nomatch m) nf
  frk := fun b o e f n _ => x.frk b o e f n fun m => nomatch m
  dom := fun b o e _ => x.dom b o e fun m => nomatch m
  xs := xs
structure Odd (o : Obj) : Prop where
  tup : o.cls ≠ .type "tuple"
  frm : o.cls ≠ .type "frame"
  fld : ∀ vs, o.data ≠ .fields vs
  cel : ∀ c, o.data ≠ .cell c
theorem Odd.of {o : Obj} (t : String) (c : o.cls = .type t) (h1 : decide (t = "tuple") = false) (h2 : decide (t = "frame") = false) (h3 : ∀ vs, o.data ≠ .fields vs) (h4 : ∀ c, o.data ≠ .cell c) : Odd o :=
  ⟨fun q => of_decide_eq_false h1 (Value.type.inj (c.symm.trans q)), fun q => of_decide_eq_false h2 (Value.type.inj (c.symm.trans q)), h3, h4⟩
theorem OR0.odd {J : Nat → Nat → Prop} {prog : Program} {w : World} {mo : MO} (O : OR0 prog w p h ι a d J mo) (hj : ∀ c k, J c k → ∀ x, (x = a ∨ d = some x) → ∃ o, h.get? x = some o ∧ Odd o) : ∀ x, (x = a ∨ d = some x) → ∃ o, h.get? x = some o ∧ Odd o := by
  have one : d = none → (∃ o, h.get? a = some o ∧ Odd o) → ∀ x, (x = a ∨ d = some x) → ∃ o, h.get? x = some o ∧ Odd o := fun e g x q => q.elim (fun q => q ▸ g) fun q => nomatch e.symm.trans q
  cases mo with
  | list l => exact ob_AEEA (O) fun e n ws g _u => one e ⟨_, g, .of "list" rfl rfl rfl (fun _ q => nomatch q) fun _ q => nomatch q⟩
  | dict es =>
    exact one O.1 (O.2.elim (fun ⟨_, ⟨o, es, ep, g, x, y, _⟩, _⟩ => ⟨o, g, .of "dict" x.1 rfl rfl (fun _ q => nomatch y.symm.trans q) fun _ q => nomatch y.symm.trans q⟩)
      fun ⟨_, ⟨o, es, ep, g, x, y, _⟩, _⟩ => ⟨o, g, .of "dict" x.1 rfl rfl (fun _ q => nomatch y.symm.trans q) fun _ q => nomatch y.symm.trans q⟩)
  | inst C fs =>
    refine ob_EAAEEA O fun b e g n ds g' _u => ?_
    have o1 : Odd { cls := .ref C, dict := some b, data := .plain } := ⟨fun q => (nomatch q), fun q => (nomatch q), fun _ q => (nomatch q), fun _ q => (nomatch q)⟩
    have o2 : Odd { cls := .type "dict", data := .dict (List.toArray ds) n } := .of "dict" rfl rfl rfl (fun _ q => nomatch q) fun _ q => nomatch q
    exact fun x q => q.elim (fun q => q ▸ ⟨_, g, o1⟩) fun q => Option.some.inj (e.symm.trans q) ▸ ⟨_, g', o2⟩
  | barr b => exact ob_AA (O) fun e g _u => one e ⟨_, g, .of "bytearray" rfl rfl rfl (fun _ q => nomatch q) fun _ q => nomatch q⟩
  | ps c k => exact hj c k O
theorem St.odd (T : St C envs ι σ h) {x : Addr} (m : Own ι x) : ∃ o, h.get? x = some o ∧ Odd o := by
  refine ob_EEEA m fun i a d e q => ?_
  refine ob_E (T.all i a d e) fun mo O => ?_
  exact OR0.odd O (fun c k O => OR0.odd O fun _ _ f => f.elim) x q
theorem St.frame_mem (T : St C envs ι σ h) {b : Addr} (m : b ∈ fadr envs) : ∃ o es ep, h.get? b = some o ∧ o.data = .dict es ep ∧ ¬ Own ι b ∧ C.base.get? b = none := by
  refine ob_EA (List.mem_filterMap.mp m) fun env he hf => ?_
  refine ob_AEEEEAAAA (T.frs env he) fun _u L o es ep h1 h2 h3 h4 h5 => ?_
  have z0 := h1.symm.trans hf; injection z0 with z1; subst z1
  exact ⟨o, es, ep, h3, h4, h5, h2⟩
theorem St.stay (T : St C envs ι σ h) (l : Lat X envs ι ι' h h') {o : Obj} (e : h.get? a = some o) (nx : a ∉ X) (no : ¬ Odd o) (nd : ∀ es ep, o.data ≠ .dict es ep) : h'.get? a = some o :=
  l.keep a o e (fun m => ob_EA (T.odd m) fun o' e' q => no (Option.some.inj (e'.symm.trans e) ▸ q)) nx fun m => ob_EEEAA (T.frame_mem m) fun o' es ep e' d' _u => nd es ep (Option.some.inj (e'.symm.trans e) ▸ d')
theorem St.tup_keep (T : St C envs ι σ h) (l : Lat X envs ι ι' h h') {ws : Array Value} (t : IsTup h a ws) (nx : a ∉ X) : IsTup h' a ws := by
  refine ob_EAAE t fun o e c n d => ?_
  exact ⟨o, T.stay l e nx (fun q => q.tup c) (by rw [d]; exact nofun), c, n, d⟩
end
def NoTup (X : List Addr) (h : Heap) : Prop := ∀ a ∈ X, ∀ ws, ¬ IsTup h a ws
theorem NoTup.nil {h : Heap} : NoTup [] h := fun _ m => nomatch m
section
variable {S : Type} {C : Cst S} {envs : List Env} {ι ι' : Io} {σ : S} {h h' : Heap} {X : List Addr} {p : Mp}
theorem VR.mono (T : St C envs ι σ h) (l : Lat X envs ι ι' h h') (nx : NoTup X h) : ∀ (v : V) {x : Value}, VR p h ι v x → VR p h' ι' v x :=
  V.rec (motive_1 := fun v => ∀ {x}, VR p h ι v x → VR p h' ι' v x) (motive_2 := fun vs => ∀ {ws}, VRL p h ι vs ws → VRL p h' ι' vs ws)
    (fun r => r) (fun _ _ r => r) (fun _ _ r => r) (fun _ _ r => r) (fun _ _ r => r) (fun _ q _ q1 => ob_EEAA q1 fun a ws e t r => ⟨a, ws, e, T.tup_keep l t fun m => nx a m _ t, q r⟩)
    (fun i _ q1 => ob_EEA q1 fun a d e q => ob_EA (l.ext i a d e) fun d' e' _u => ⟨a, d', e', q⟩) (fun _ _ r => r) (fun _ _ r => r) (fun r => r)
    fun _ _ q1 q2 ws r => by
      cases ws with
      | nil => exact r
      | cons w u => exact ⟨q1 r.1, q2 r.2⟩
theorem VRL.mono (T : St C envs ι σ h) (l : Lat X envs ι ι' h h') (nx : NoTup X h) (vs : List V) : ∀ {ws : List Value}, VRL p h ι vs ws → VRL p h' ι' vs ws := by
  induction vs with
  | nil => exact fun r => r
  | cons v vs ih =>
    intro ws r
    cases ws with
    | nil => exact r
    | cons w u => exact ⟨VR.mono T l nx v r.1, ih r.2⟩
theorem DR.mono (T : St C envs ι σ h) (l : Lat X envs ι ι' h h') (nx : NoTup X h) {K : Type} {κ : V → Option K} (es : List (V × V)) : ∀ {kvs : List (K × Value)}, DR p h ι κ es kvs → DR p h' ι' κ es kvs := by
  induction es with
  | nil => exact fun r => r
  | cons v vs ih =>
    intro ws r
    cases ws with
    | nil => exact r
    | cons w u => exact ⟨r.1, VR.mono T l nx _ r.2.1, ih r.2.2⟩
theorem FR.mono (T : St C envs ι σ h) (l : Lat X envs ι ι' h h') (nx : NoTup X h) (es : List (Nat × V)) : ∀ {ds : List DictEntry}, FR p h ι es ds → FR p h' ι' es ds := by
  induction es with
  | nil => exact fun r => r
  | cons v vs ih =>
    intro ws r
    cases ws with
    | nil => exact r
    | cons w u => exact ⟨r.1, VR.mono T l nx _ r.2.1, ih r.2.2⟩
theorem OR0.mono (T : St C envs ι σ h) (l : Lat X envs ι ι' h h') (nx : NoTup X h) {prog : Program} {w : World} {a : Addr} {d : Option Addr} {J J' : Nat → Nat → Prop} (hJ : ∀ c k, J c k → J' c k) (k : ∀ x, (x = a ∨ d = some x) → h'.get? x = h.get? x) {mo : MO} (O : OR0 prog w p h ι a d J mo) : OR0 prog w p h' ι' a d J' mo := by
  have ka := k a (.inl rfl)
  cases mo with
  | list l' => exact ob_AEEA (O) fun e n ws g r => ⟨e, n, ws, ka.trans g, VRL.mono T l nx _ r⟩
  | dict es =>
    exact ⟨O.1, O.2.elim (fun q1 => ob_EA q1 fun kvs D r => .inl ⟨kvs, D.at fun o q => ka.trans q, DR.mono T l nx _ r⟩) fun q1 => ob_EA q1 fun kvs D r => .inr ⟨kvs, D.at fun o q => ka.trans q, DR.mono T l nx _ r⟩⟩
  | inst C fs => exact ob_EAAEEA (O) fun b e g n ds g' r => ⟨b, e, ka.trans g, n, ds, (k b (.inr e)).trans g', FR.mono T l nx _ r⟩
  | barr b => exact ⟨O.1, ka.trans O.2.1, O.2.2⟩
  | ps c k => exact hJ c k O
theorem OR.mono (T : St C envs ι σ h) (l : Lat X envs ι ι' h h') (nx : NoTup X h) {prog : Program} {w : World} {a : Addr} {d : Option Addr} (k : ∀ x, (x = a ∨ d = some x) → h'.get? x = h.get? x) {mo : MO} (O : OR prog w p h ι a d mo) : OR prog w p h' ι' a d mo :=
  OR0.mono T l nx (fun _ _ O => OR0.mono T l nx (fun _ _ f => f) k O) k O
end
end
end Mine
namespace Mine
open PySem PyProof.Rows PySem.W
noncomputable section
def XF (h₀ h : Heap) (e C : Addr) : Prop := h₀.get? e = none ∧ ∃ a0, h.TracedW h₀ e (.ref C) a0
def Kp (h h' : Heap) : Prop := ∀ b o, h.get? b = some o → h'.get? b = some o
def Dom (h h' : Heap) : Prop := ∀ b o, h.get? b = some o → ∃ o', h'.get? b = some o'
theorem Dom.down {h h' : Heap} (l : Dom h h') {b : Addr} (q : h'.get? b = none) : h.get? b = none := by
  cases e : h.get? b with
  | none => rfl
  | some o => refine ob_E (l b o e) fun o' e' => ?_; exact nomatch q.symm.trans e'
theorem XF.from {h₀ h h' : Heap} (l : Dom h₀ h) {e C : Addr} (x : XF h h' e C) : XF h₀ h' e C := by
  refine ob_AEEEEEEAAAAA x fun a a0 oe vs T oT ts h1 h2 h3 h4 h5 h6 => ?_
  exact ⟨l.down a, a0, oe, vs, T, oT, ts, h1, h2, h3, h4, l.down h5, h6⟩
structure DmOk {S : Type} (D : Dm S) (p : Mp) : Prop where
  nil : (∀ i, D.look D.nil i = none) ∧ D.len D.nil = 0
  push : ∀ {s o s'}, D.push s o = some s' → D.len s' = Nat.succ (D.len s) ∧ ∀ i mo, D.look s' i = some mo → (i = D.len s ∧ mo = o) ∨ D.look s i = some mo
  set : ∀ {s i o}, D.len (D.set s i o) = D.len s ∧ ∀ j mo, D.look (D.set s i o) j = some mo → (j = i ∧ mo = o) ∨ (j ≠ i ∧ D.look s j = some mo)
  num : ∀ n : Nat, n < 2000000 → p.f (Int.ofNat n) = Int.ofNat n
  ar : ∀ {op a b c} (prog w A s) {Q : Value → Shared → Prop} {E t u}, D.ar op a b = some c → (∀ k v, Q (.int (p.f c) v) { s with toks := k }) → wpAny (model prog w) A (binaryOp op (.int (p.f a) t) (.int (p.f b) u)) Q E s
  neg : ∀ {a c}, D.ar .Sub 0 a = some c → p.f c = - p.f a
  lt : ∀ {a b r}, D.lt a b = some r → decide (p.f a < p.f b) = r
  eq : ∀ {a b r}, D.eq a b = some r → decide (p.f a = p.f b) = r
  eqb : ∀ {x y r}, D.eqb x y = some r → decide (x.flatMap p.tok = y.flatMap p.tok) = r
  nat : ∀ {i n}, D.nat i = some n → p.f i = Int.ofNat n ∧ n < 1000000
  ix : ∀ {l i v}, D.ix l i = some v → ∃ n u, p.f i = Int.ofNat n ∧ n < 1000000 ∧ nth l n = some u ∧ ∀ h ι x, VR p h ι u x → VR p h ι v x
  cutb : ∀ {x a b y}, D.cutb x a b = some y → ∃ i j, (∀ z, a = some z → p.f z = Int.ofNat i) ∧ (a = none → i = 0) ∧ (∀ z, b = some z → p.f z = Int.ofNat j) ∧ (b = none → j = (x.flatMap p.tok).length) ∧
    i ≤ j ∧ j ≤ (x.flatMap p.tok).length ∧ (x.flatMap p.tok).length < 1000000 ∧ y.flatMap p.tok = ((x.flatMap p.tok).drop i).take (j - i)
  fit : ∀ {x}, D.fit x = true → (x.flatMap p.tok).length < 100000
  lit : ∀ {i}, D.lit i = true → p.f i = i
  tokb : ∀ c, c < 256 → p.tok c = [c]
  raw : ∀ {x}, D.raw x = true → x.flatMap p.tok = x
  blen : ∀ {x c}, D.blen x = some c → (∃ n, p.f c = Int.ofNat n ∧ (x.flatMap p.tok).length = n) ∧ (x.flatMap p.tok).length < 1000000
  bix : ∀ {x i c}, D.bix x i = some c → ∃ n, p.f i = Int.ofNat n ∧ (x.flatMap p.tok)[n]? = some c ∧ (x.flatMap p.tok).length < 1000000
section
variable {S : Type} {C : Cst S} {envs : List Env} {ι ι' : Io} {σ : S} {h h' : Heap} {X : List Addr} {p : Mp} {i : Nat} {a b : Addr} {d c : Option Addr}
theorem Pl.app (e : Pl ι i a d) (x : Io) : Pl (ι ++ x) i a d := by
  unfold Pl
  rw [List.getElem?_append_left (List.getElem?_eq_some_iff.mp e).1]; exact e
theorem Pl.new : Pl (ι ++ [(a, d)]) ι.length a d := List.getElem?_concat_length
theorem Pl.cases (e : Pl (ι ++ [(a, d)]) i b c) : Pl ι i b c ∨ (i = ι.length ∧ b = a ∧ c = d) := by
  rcases Nat.lt_trichotomy i ι.length with q | q | q
  · exact .inl ((List.getElem?_append_left q).symm.trans e)
  · subst q; have z0 := Pl.new.symm.trans e; injection z0 with z1; injection z1 with z2 z3; subst z2; subst z3; exact .inr ⟨rfl, rfl, rfl⟩
  · exact nomatch (List.getElem?_eq_none (by rw [List.length_append]; exact q)).symm.trans e
theorem Pl.fn {a' : Addr} {d' : Option Addr} (x : Pl ι i a d) (y : Pl ι i a' d') : a = a' ∧ d = d' := by have z0 := x.symm.trans y; injection z0 with z1; injection z1 with z2 z3; subst z2; subst z3; exact ⟨rfl, rfl⟩
theorem get_fresh (h : Heap) : h.get? h.objs.size = none := by
  cases e : h.get? h.objs.size with
  | none => rfl
  | some o => exact absurd (Heap.lt_size e) (Nat.lt_irrefl _)
theorem Lat.of_keeps (k : Kp h h') : Lat [] envs ι ι h h' :=
  ⟨fun _ _ d e => ⟨d, e, .inr rfl⟩, fun _ m n => absurd m n, fun b o e _ _ _ => k b o e, fun b o e _ _ _ => ⟨o.slots, k b o e⟩, fun b o e _ => ⟨o, k b o e⟩, fun _ m => nomatch m⟩
theorem Frm.keeps (k : Kp h h') {env : Env} (F : Frm C.base ι h env) : Frm C.base ι h' env := by
  refine ob_AEEEEAAAA F fun a L o es ep b c d e f => ?_
  exact ⟨a, L, o, es, ep, b, c, k _ _ d, e, f⟩
theorem St.same (T : St C envs ι σ h) (k : Kp h h') (e : Pl ι i a d) : ∀ x, (x = a ∨ d = some x) → h'.get? x = h.get? x := fun x q => by
  refine ob_EA (T.odd ⟨i, a, d, e, q⟩) fun o e' _u => ?_
  rw [e']; exact k x o e'
theorem St.keeps (T : St C envs ι σ h) (k : Kp h h') : St C envs ι σ h' where
  stays := fun b o e => k b o (T.stays b o e)
  frs := fun env m => (T.frs env m).keeps k
  len := T.len
  objs := fun i mo e => by
    refine ob_EEA (T.objs i mo e) fun a d e' O => ?_
    exact ⟨a, d, e', O.mono T (Lat.of_keeps k) NoTup.nil (T.same k e')⟩
  all := fun i a d e => by
    refine ob_E (T.all i a d e) fun mo O => ?_
    exact ⟨mo, O.mono T (Lat.of_keeps k) NoTup.nil (T.same k e)⟩
  apart := T.apart
  fresh := T.fresh
  sysm := T.sysm
theorem St.own_none (T : St C envs ι σ h) (fr : h.get? a = none) : ¬ Own ι a := fun m => by refine ob_EA (T.odd m) fun o e _u => ?_; exact nomatch fr.symm.trans e
theorem Lat.more (k : Kp h h') (fr : ∀ x, (x = a ∨ d = some x) → h.get? x = none) : Lat [] envs ι (ι ++ [(a, d)]) h h' :=
  ⟨fun _ _ d e => ⟨d, e.app _, .inr rfl⟩, fun x m n => by
    refine ob_EEEA m fun i b c e q => ?_
    rcases e.cases with e | ⟨_, rfl, rfl⟩
    · exact absurd ⟨i, b, c, e, q⟩ n
    · exact fr x q, fun b o e _ _ _ => k b o e, fun b o e _ _ _ => ⟨o.slots, k b o e⟩, fun b o e _ => ⟨o, k b o e⟩, fun _ m => nomatch m⟩
theorem St.more (ok : DmOk C.D C.p) (T : St C envs ι σ h) {mo : MO} {σ' : S} (k : Kp h h') (fr : ∀ x, (x = a ∨ d = some x) → h.get? x = none) (e : C.D.push σ mo = some σ') (O : OR C.prog C.w C.p h' (ι ++ [(a, d)]) a d mo) : St C envs (ι ++ [(a, d)]) σ' h' := by
  have T' := T.keeps k
  refine ob_A (ok.push e) fun el ep => ?_
  have no : ∀ i b c x, Pl ι i b c → (x = a ∨ d = some x) → (x = b ∨ c = some x) → False := fun i b c x e q q' => T.own_none (fr x q) ⟨i, b, c, e, q'⟩
  refine ⟨T'.stays, fun env m => ?_, by rw [List.length_append, T.len, el]; rfl, fun i mo' e => ?_, fun i b c e => ?_, fun i j b c b' c' x e e' q q' => ?_, fun b m => ?_, T.sysm⟩
  · refine ob_AEEEEAAAA (T'.frs env m) fun x L o' es ep b c d1 e f => ?_
    refine ⟨x, L, o', es, ep, b, c, d1, e, fun q1 => ob_EEEA q1 fun i b' c' e' q => ?_⟩
    rcases e'.cases with e' | ⟨_, rfl, rfl⟩
    · exact f ⟨i, b', c', e', q⟩
    · refine ob_AEEEEAAAA (T.frs env m) fun _u L' o₁ _u _u b' _u d' _u _u => ?_
      have z0 := b.symm.trans b'; injection z0 with z1; subst z1
      exact nomatch (fr L q).symm.trans d'
  · rcases ep i mo' e with ⟨rfl, rfl⟩ | e
    · exact ⟨a, d, T.len ▸ .new, O⟩
    · refine ob_EEA (T.objs i mo' e) fun b c e' O' => ?_
      exact ⟨b, c, e'.app _, O'.mono T (Lat.more k fr) NoTup.nil (T.same k e')⟩
  · rcases e.cases with e | ⟨_, rfl, rfl⟩
    · refine ob_E (T.all i b c e) fun mo' O' => ?_
      exact ⟨mo', O'.mono T (Lat.more k fr) NoTup.nil (T.same k e)⟩
    · exact ⟨mo, O⟩
  · rcases e.cases with e | ⟨h1, g1, g2⟩ <;> rcases e'.cases with e' | ⟨h2, g3, g4⟩
    · exact T.apart i j b c b' c' x e e' q q'
    · exact (no _ _ _ x e (g3 ▸ g4 ▸ q') q).elim
    · exact (no _ _ _ x e' (g1 ▸ g2 ▸ q) q').elim
    · rw [h1, h2]
  · refine ob_EEEA m fun i b' c' e' q => ?_
    rcases e'.cases with e' | ⟨_, rfl, rfl⟩
    · exact T.fresh b ⟨i, b', c', e', q⟩
    · cases e : C.base.get? b with
      | none => rfl
      | some o => exact nomatch (fr b q).symm.trans (T.stays _ _ e)
theorem Lat.upd (e : Pl ι i a d) (hb : b = a ∨ d = some b) (hs : Heap.SameBut b h h') (hd : ∃ o, h'.get? b = some o) : Lat [] envs ι ι h h' := by
  have ne : ∀ c, ¬ Own ι c → c ≠ b := fun c n q => n (q ▸ ⟨i, a, d, e, hb⟩)
  refine ⟨fun _ _ d e => ⟨d, e, .inr rfl⟩, fun _ m n => absurd m n, fun c o e' n _ _ => (hs.2 c (ne c n)).trans e', fun c o e' _ n _ => ⟨o.slots, (hs.2 c (ne c n)).trans e'⟩, fun c o e' _ => ?_, fun _ m => nomatch m⟩
  by_cases q : c = b
  · exact q ▸ hd
  · exact ⟨o, (hs.2 c q).trans e'⟩
theorem St.upd (ok : DmOk C.D C.p) (T : St C envs ι σ h) {mo : MO} (e : Pl ι i a d) (hb : b = a ∨ d = some b) (hs : Heap.SameBut b h h') (hd : ∃ o, h'.get? b = some o) (O : OR C.prog C.w C.p h' ι a d mo) : St C envs ι (C.D.set σ i mo) h' := by
  have hm : Own ι b := ⟨i, a, d, e, hb⟩
  have other : ∀ j b' c', j ≠ i → Pl ι j b' c' → ∀ x, (x = b' ∨ c' = some x) → h'.get? x = h.get? x := fun j b' c' n e' x q => hs.2 x fun z => n (T.apart j i b' c' a d x e' e q (z ▸ hb))
  refine ob_A (ok.set (s := σ) (i := i) (o := mo)) fun el ep => ?_
  refine ⟨fun c o e' => (hs.2 c (fun q => ?_)).trans (T.stays c o e'), fun env m => ?_, el ▸ T.len, fun j mj ej => ?_, fun j b' c' e' => ?_, T.apart, T.fresh, T.sysm⟩
  · exact nomatch (T.fresh c (q ▸ hm)).symm.trans e'
  · refine ob_AEEEEAAAA (T.frs env m) fun z L o es ep b' c d' e' f => ?_
    exact ⟨z, L, o, es, ep, b', c, (hs.2 L fun q => f (q ▸ hm)).trans d', e', f⟩
  · rcases ep j mj ej with ⟨rfl, rfl⟩ | ⟨n, ej⟩
    · exact ⟨a, d, e, O⟩
    · refine ob_EEA (T.objs j mj ej) fun a' d' e' O' => ?_
      exact ⟨a', d', e', O'.mono T (Lat.upd e hb hs hd) NoTup.nil (other j a' d' n e')⟩
  · by_cases n : j = i
    · subst n; refine ob_A (e.fn e') fun z1 z2 => ?_; subst z1; subst z2; exact ⟨mo, O⟩
    · refine ob_E (T.all j b' c' e') fun mj O' => ?_
      exact ⟨mj, O'.mono T (Lat.upd e hb hs hd) NoTup.nil (other j b' c' n e')⟩
end
section
variable {S : Type} (C : Cst S) (F : Fr)
abbrev Sat (W : Wd S) : Prop := St C F.envs W.ι W.σ W.h
structure Fut (X : List Addr) (W W' : Wd S) : Prop where
  S0 : Sat C F W
  S1 : Sat C F W'
  L : Lat X F.envs W.ι W'.ι W.h W'.h
abbrev Rl (S α β : Type) := Wd S → α → β → Prop
def Ens (W : Wd S) {α β : Type} (r : RF S α) (R : Rl S α β) (Q : β → Shared → Prop) (E : Value → Shared → Prop) : Prop := RF.rec (motive := fun _ => Prop)
  (fun v σ => ∀ W' x, W'.σ = σ → Fut C F [] W W' → R W' v x → Q x (C.st W'))
  (fun X σ => ∀ W' e, W'.σ = σ → Fut C F [] W W' → XF W.h W'.h e X → E (.ref e) (C.st W')) False r
structure Run (W : Wd S) {α β : Type} (t : Sem β) (r : RF S α) (R : Rl S α β) : Prop where
  go : Sat C F W → ∀ Q E, Ens C F W r R Q E → wpC C.M F.A t Q E (C.st W)
def VV : Rl S V Value := fun W => VR C.p W.h W.ι
def VVL : Rl S (List V) (List Value) := fun W => VRL C.p W.h W.ι
end
section
variable {S : Type} {C : Cst S} {F : Fr} {W W' W'' : Wd S} {α β γ δ ε : Type} {t : Sem β} {k : β → Sem δ} {r : RF S α} {f : α → S → RF S γ} {R : Rl S α β} {R' : Rl S γ δ} {X : List Addr}
theorem Fut.trans (x : Fut C F X W W') (y : Fut C F X W' W'') : Fut C F X W W'' := ⟨x.S0, y.S1, x.L.trans y.L⟩
theorem Fut.refl (T : Sat C F W) : Fut C F [] W W := ⟨T, T, .refl⟩
theorem Fut.dom (x : Fut C F [] W W') : Dom W.h W'.h := fun b o e => x.L.dom b o e fun m => nomatch m
theorem VV.mono {v : V} {y : Value} (r : VV C W v y) (x : Fut C F [] W W') : VV C W' v y := VR.mono x.S0 x.L NoTup.nil v r
theorem VVL.mono {v : List V} {y : List Value} (r : VVL C W v y) (x : Fut C F [] W W') : VVL C W' v y := VRL.mono x.S0 x.L NoTup.nil v r
theorem Ens.later {Q : β → Shared → Prop} {E : Value → Shared → Prop} (x : Fut C F [] W W') (p : Ens C F W r R Q E) : Ens C F W' r R Q E := by
  cases r with
  | bad => exact p
  | ok u σ => exact fun W2 y e z => p W2 y e (x.trans z)
  | exc C σ => exact fun W2 y e z q => p W2 y e (x.trans z) (q.from x.dom)
theorem Run.bind (h : Run C F W t r R) (K : ∀ W' v y, Fut C F [] W W' → R W' v y → Run C F W' (k y) (f v W'.σ) R') : Run C F W (t >>= k) (rb r f) R' := ⟨fun T Q E p => by
  refine wpC_bind (h.go T _ E ?_)
  cases r with
  | bad => exact p
  | exc C σ => exact p
  | ok v σ => exact fun W1 x e z x1 => (K W1 v x z x1).go z.S1 Q E (Ens.later z (by subst e; exact p))⟩
theorem Run.bad : Run C F W t (.bad : RF S α) R := ⟨fun _ _ _ p => p.elim⟩
theorem Run.of {u : Sem β} (e : t = u) (h : Run C F W u r R) : Run C F W t r R := e ▸ h
theorem Run.to {r' : RF S α} (h : Run C F W t r R) (e : r = r') : Run C F W t r' R := e ▸ h
theorem Run.sat (h : Sat C F W → Run C F W t r R) : Run C F W t r R := ⟨fun T => (h T).go T⟩
theorem Run.rel {α' : Type} {R' : Rl S α' β} {v : α} {v' : α'} {σ : S} (h : Run C F W t (.ok v σ) R) (g : ∀ W' y, W'.σ = σ → Fut C F [] W W' → R W' v y → R' W' v' y) : Run C F W t (.ok v' σ) R' := ⟨fun T Q E p => h.go T Q E fun W' x e z q => p W' x e z (g W' x e z q)⟩
theorem Run.holding {vs : List Value} (h : Run C F W t r R) : Run C F W (holding vs t) r R := ⟨fun T Q E p => wpC_holding (h.go T Q E p)⟩
theorem Run.operate {vs : List Value} {t : Sem Value} {R : Rl S α Value} (h : Run C F W t r R) : Run C F W (operate vs t) r R := ⟨fun T Q E p => wpC_operate (h.go T Q E p)⟩
theorem Run.stand {p : Pos} {k : Unit → Sem β} (h : Run C F W (k ()) r R) : Run C F W (standAt p >>= k) r R := ⟨fun T Q E q => wpC_bind (wpC_standAt (h.go T Q E q))⟩
theorem Run.pre {t : Sem ε} {k : ε → Sem β} (a : ε) (e : t = pure a) (h : Run C F W (k a) r R) : Run C F W (t >>= k) r R := ⟨fun T Q E q => by rw [e]; exact wpC_bind (wpC_pure (h.go T Q E q))⟩
theorem Run.pure {v : α} {y : β} (q : R W v y) : Run C F W (pure y) (.ok v W.σ) R := ⟨fun T Q E p => wpC_pure (p W y rfl (.refl T) q)⟩
theorem Run.lib {v : α} (h : Sat C F W → ∀ (Q : β → Shared → Prop) E, (∀ y tk, R { W with tk := tk } v y → Q y (C.sh W.h tk)) → wpAny C.M F.A t Q E (C.st W)) : Run C F W t (.ok v W.σ) R := ⟨fun T Q E p =>
  wpC_of (h T Q E fun y tk q => p { W with tk := tk } y rfl ⟨T, T, .refl⟩ q)⟩
theorem Run.grow {v : α} (h : Sat C F W → ∀ (Q : β → Shared → Prop) E, (∀ y h' tk, Kp W.h h' → R { W with h := h', tk := tk } v y → Q y (C.sh h' tk)) → wpAny C.M F.A t Q E (C.st W)) : Run C F W t (.ok v W.σ) R := ⟨fun T Q E p =>
  wpC_of (h T Q E fun y h' tk kp q => p { W with h := h', tk := tk } y rfl ⟨T, T.keeps kp, .of_keeps kp⟩ q)⟩
theorem Run.lib1 {t : Sem ε} {k : ε → Sem β} (h : ∀ (Q : ε → Shared → Prop) E, (∀ y tk, Run C F { W with tk := tk } (k y) r R → Q y (C.sh W.h tk)) → wpAny C.M F.A t Q E (C.st W)) (K : ∀ y tk, Run C F { W with tk := tk } (k y) r R) : Run C F W (t >>= k) r R := ⟨fun T Q E p =>
  wpC_bind (wpC_of (h (fun y s' => wpC C.M F.A (k y) Q E s') E fun y tk _ => (K y tk).go T Q E (by
    cases r with
    | bad => exact p
    | ok u σ => exact fun W2 y e z => p W2 y e ⟨T, z.S1, z.L⟩
    | exc C σ => exact fun W2 y e z => p W2 y e ⟨T, z.S1, z.L⟩)))⟩
theorem Run.gd {c : Bool} (h : c = true → Run C F W t r R) : Run C F W t (gd c r) R := by
  cases c with
  | false => exact .bad
  | true => exact h rfl
theorem Run.bt {c : Bool} {r' : RF S α} (h : c = true → Run C F W t r R) (h' : c = false → Run C F W t r' R) : Run C F W t (bt c r r') R := by
  cases c with
  | false => exact h' rfl
  | true => exact h rfl
theorem Run.oo {o : Option γ} {f : γ → RF S α} (h : ∀ v, o = some v → Run C F W t (f v) R) : Run C F W t (oo .bad f o) R := by
  cases o with
  | none => exact .bad
  | some v => exact h v rfl
theorem Run.ob {o : Option α} {σ : S} (h : ∀ v, o = some v → Run C F W t (.ok v σ) R) : Run C F W t (ob σ o) R := by
  cases o with
  | none => exact .bad
  | some v => exact h v rfl
section
variable {k : Value → Sem β} {v : V} {x : Value} {n : RF S α} {fb : Bool → RF S α} {fi : Int → RF S α} {fs fy : List Nat → RF S α} {ft : List V → RF S α} {fo : Nat → RF S α} {fr : Addr → RF S α} {fu : BI → RF S α}
theorem Run.xE (ra : VV C W v x) (hn : Run C F W (k .none) n R) (hb : ∀ b, Run C F W (k (.bool b)) (fb b) R) (hi : ∀ i t, Run C F W (k (.int (C.p.f i) t)) (fi i) R) (hs : ∀ s t, Run C F W (k (.str ⟨s.toArray⟩ t)) (fs s) R)
    (hy : ∀ b t, Bytes (b.flatMap C.p.tok) → Run C F W (k (.bytes (toB (b.flatMap C.p.tok)) t)) (fy b) R) (ht : ∀ l a ws, IsTup W.h a ws.toArray → VVL C W l ws → Run C F W (k (.ref a)) (ft l) R)
    (ho : ∀ i a d, Pl W.ι i a d → Run C F W (k (.ref a)) (fo i) R) (hr : ∀ a, Run C F W (k (.ref a)) (fr a) R) (hu : ∀ b, Run C F W (k b.val) (fu b) R) : Run C F W (k x) (vE n fb fi fs fy ft fo fr fu v) R := by
  cases v with
  | none => rw [show x = _ from ra]; exact hn
  | bool b => rw [show x = _ from ra]; exact hb b
  | int i => refine ob_E ra fun t z1 => ?_; subst z1; exact hi i t
  | str s => refine ob_E ra fun t z1 => ?_; subst z1; exact hs s t
  | byt b => refine ob_A ra fun z1 hb => ?_; obtain ⟨t, rfl⟩ := z1; exact hy b t hb
  | tup l => refine ob_EEAA ra fun a ws z1 t r => ?_; subst z1; exact ht l a ws t r
  | obj i => refine ob_EEA ra fun a d e z1 => ?_; subst z1; exact ho i a d e
  | ref a => rw [show x = _ from ra]; exact hr a
  | bi b => rw [show x = _ from ra]; exact hu b
theorem Run.xI (ra : VV C W v x) (hi : ∀ i t, Run C F W (k (.int (C.p.f i) t)) (fi i) R) : Run C F W (k x) (vI .bad fi v) R := .xE ra .bad (fun _ => .bad) hi (fun _ _ => .bad) (fun _ _ _ => .bad) (fun _ _ _ _ _ => .bad) (fun _ _ _ _ => .bad) (fun _ => .bad) fun _ => .bad
theorem Run.xB (ra : VV C W v x) (hb : ∀ b, Run C F W (k (.bool b)) (fb b) R) : Run C F W (k x) (vB .bad fb v) R := .xE ra .bad hb (fun _ _ => .bad) (fun _ _ => .bad) (fun _ _ _ => .bad) (fun _ _ _ _ _ => .bad) (fun _ _ _ _ => .bad) (fun _ => .bad) fun _ => .bad
theorem Run.xS (ra : VV C W v x) (hs : ∀ s t, Run C F W (k (.str ⟨s.toArray⟩ t)) (fs s) R) : Run C F W (k x) (vS .bad fs v) R := .xE ra .bad (fun _ => .bad) (fun _ _ => .bad) hs (fun _ _ _ => .bad) (fun _ _ _ _ _ => .bad) (fun _ _ _ _ => .bad) (fun _ => .bad) fun _ => .bad
theorem Run.xY (ra : VV C W v x) (hy : ∀ b t, Bytes (b.flatMap C.p.tok) → Run C F W (k (.bytes (toB (b.flatMap C.p.tok)) t)) (fy b) R) : Run C F W (k x) (vY .bad fy v) R := .xE ra .bad (fun _ => .bad) (fun _ _ => .bad) (fun _ _ => .bad) hy (fun _ _ _ _ _ => .bad) (fun _ _ _ _ => .bad) (fun _ => .bad) fun _ => .bad
theorem Run.xT (ra : VV C W v x) (ht : ∀ l a ws, IsTup W.h a ws.toArray → VVL C W l ws → Run C F W (k (.ref a)) (ft l) R) : Run C F W (k x) (vT .bad ft v) R := .xE ra .bad (fun _ => .bad) (fun _ _ => .bad) (fun _ _ => .bad) (fun _ _ _ => .bad) ht (fun _ _ _ _ => .bad) (fun _ => .bad) fun _ => .bad
theorem Run.xO (ra : VV C W v x) (ho : ∀ i a d, Pl W.ι i a d → Run C F W (k (.ref a)) (fo i) R) : Run C F W (k x) (vO .bad fo v) R := .xE ra .bad (fun _ => .bad) (fun _ _ => .bad) (fun _ _ => .bad) (fun _ _ _ => .bad) (fun _ _ _ _ _ => .bad) ho (fun _ => .bad) fun _ => .bad
theorem Run.xR (ra : VV C W v x) (hr : ∀ a, Run C F W (k (.ref a)) (fr a) R) (hu : ∀ b, Run C F W (k b.val) (fu b) R) : Run C F W (k x) (vR .bad fr fu v) R := .xE ra .bad (fun _ => .bad) (fun _ _ => .bad) (fun _ _ => .bad) (fun _ _ _ => .bad) (fun _ _ _ _ _ => .bad) (fun _ _ _ _ => .bad) hr hu
theorem Run.xN (ra : VV C W v x) (hn : Run C F W (k .none) n R) : Run C F W (k x) (vN n .bad v) R := .xE ra hn (fun _ => .bad) (fun _ _ => .bad) (fun _ _ => .bad) (fun _ _ _ => .bad) (fun _ _ _ _ _ => .bad) (fun _ _ _ _ => .bad) (fun _ => .bad) fun _ => .bad
variable {i : Nat} {a : Addr} {d : Option Addr}
theorem Run.oL {f : List V → RF S α} {r : RF S α} (pl : Pl W.ι i a d) (h : ∀ l ws, Pl W.ι i a none → W.h.IsList a ws.toArray → VVL C W l ws → Run C F W t (f l) R) (h' : Run C F W t r R) : Run C F W t (oL r f (C.D.look W.σ i)) R := .sat fun T => by
  cases e : C.D.look W.σ i with
  | none => exact h'
  | some o =>
    cases o with
    | list l =>
      refine ob_EEAAEEA (T.objs i _ e) fun a' d' e' z1 n ws g q => ?_; subst z1
      refine ob_A (e'.fn pl) fun z1 z2 => ?_; subst z1; subst z2
      exact h l ws pl ⟨_, g, rfl, n, rfl⟩ q
    | _ => exact h'
theorem Run.oD {f : List (V × V) → RF S α} (pl : Pl W.ι i a d) (h : ∀ es, Pl W.ι i a none → OR C.prog C.w C.p W.h W.ι a none (.dict es) → (a == sysModules) = false → Run C F W t (f es) R) : Run C F W t (oD .bad f (C.D.look W.σ i)) R := .sat fun T => by
  cases e : C.D.look W.σ i with
  | none => exact .bad
  | some o =>
    cases o with
    | dict es =>
      refine ob_EEA (T.objs i _ e) fun a' d' e' O => ?_
      refine ob_A (e'.fn pl) fun z1 z2 => ?_; subst z1; subst z2
      have z0 := O.1; subst z0
      exact h es pl O (beq_eq_false_iff_ne.mpr fun q => T.sysm (q ▸ T.fresh a' (own_of e')))
    | _ => exact .bad
theorem Run.oI {f : Addr → List (Nat × V) → RF S α} (pl : Pl W.ι i a d) (h : ∀ X fs b n ds, Pl W.ι i a (some b) → W.h.get? a = some { cls := .ref X, dict := some b, data := .plain } → W.h.get? b = some { cls := .type "dict", data := .dict (List.toArray ds) n } → FR C.p W.h W.ι fs ds → Run C F W t (f X fs) R) : Run C F W t (oI .bad f (C.D.look W.σ i)) R := .sat fun T => by
  cases e : C.D.look W.σ i with
  | none => exact .bad
  | some o =>
    cases o with
    | inst X fs =>
      refine ob_EEAEAAEEA (T.objs i _ e) fun a' d' e' b z1 g n ds g' q => ?_; subst z1
      refine ob_A (e'.fn pl) fun z1 z2 => ?_; subst z1; subst z2
      exact h X fs b n ds pl g g' q
    | _ => exact .bad
theorem Run.oY {f : List Nat → RF S α} {r : RF S α} (pl : Pl W.ι i a d) (h : ∀ b, Pl W.ι i a none → W.h.get? a = some { cls := .type "bytearray", data := .bytearray (toB b) 0 } → Bytes b → Run C F W t (f b) R) (h' : Run C F W t r R) : Run C F W t (oY r f (C.D.look W.σ i)) R := .sat fun T => by
  cases e : C.D.look W.σ i with
  | none => exact h'
  | some o =>
    cases o with
    | barr b =>
      refine ob_EEAAA (T.objs i _ e) fun a' d' e' z1 g q => ?_; subst z1
      refine ob_A (e'.fn pl) fun z1 z2 => ?_; subst z1; subst z2
      exact h b pl g q
    | _ => exact h'
end
theorem Run.on {o : Option γ} {f : γ → α} {σ : S} (h : ∀ v, o = some v → Run C F W t (.ok (f v) σ) R) : Run C F W t (Mine.ob σ (Mine.on f o)) R := by
  cases o with
  | none => exact .bad
  | some v => exact h v rfl
theorem Run.a1 {k : List Value → Sem β} {f : V → RF S α} {l : List V} {ws : List Value} (ra : VVL C W l ws) (h : ∀ v x, VV C W v x → Run C F W (k [x]) (f v) R) : Run C F W (k ws) (a1 .bad f l) R := by
  rcases l with _ | ⟨v, _ | _⟩
  · exact .bad
  · rcases ws with _ | ⟨x, _ | _⟩
    · exact ra.elim
    · exact h v x ra.1
    · have z0 := ra.2; injection z0
  · exact .bad
theorem Run.a2 {k : List Value → Sem β} {f : V → V → RF S α} {l : List V} {ws : List Value} (ra : VVL C W l ws) (h : ∀ v w x y, VV C W v x → VV C W w y → Run C F W (k [x, y]) (f v w) R) : Run C F W (k ws) (a2 .bad f l) R := by
  rcases l with _ | ⟨v, _ | ⟨w, _ | _⟩⟩
  · exact .bad
  · exact .bad
  · rcases ws with _ | ⟨x, _ | ⟨y, _ | _⟩⟩
    · exact ra.elim
    · exact ra.2.elim
    · exact h v w x y ra.1 ra.2.1
    · have z0 := ra.2.2; injection z0
  · exact .bad
end
end
end Mine
namespace Mine
open PySem PyProof.Rows PySem.W
noncomputable section
section
variable {α β : Type} {r : β} {v : V} {o : Option α} {m : Option MO} {c : Bool}
theorem vI_some {f : Int → Option β} (e : vI none f v = some r) : ∃ i, v = .int i ∧ f i = some r := by cases v <;> first | exact ⟨_, rfl, e⟩ | injection e
theorem vB_some {f : Bool → Option β} (e : vB none f v = some r) : ∃ i, v = .bool i ∧ f i = some r := by cases v <;> first | exact ⟨_, rfl, e⟩ | injection e
theorem vS_some {f : List Nat → Option β} (e : vS none f v = some r) : ∃ i, v = .str i ∧ f i = some r := by cases v <;> first | exact ⟨_, rfl, e⟩ | injection e
theorem vY_some {f : List Nat → Option β} (e : vY none f v = some r) : ∃ i, v = .byt i ∧ f i = some r := by cases v <;> first | exact ⟨_, rfl, e⟩ | injection e
theorem vT_some {f : List V → Option β} (e : vT none f v = some r) : ∃ i, v = .tup i ∧ f i = some r := by cases v <;> first | exact ⟨_, rfl, e⟩ | injection e
theorem vO_some {f : Nat → Option β} (e : vO none f v = some r) : ∃ i, v = .obj i ∧ f i = some r := by cases v <;> first | exact ⟨_, rfl, e⟩ | injection e
theorem oo_some {f : α → Option β} (e : oo none f o = some r) : ∃ a, o = some a ∧ f a = some r := by cases o with | none => injection e | some a => exact ⟨a, rfl, e⟩
theorem on_some {f : α → β} (e : on f o = some r) : ∃ a, o = some a ∧ f a = r := by cases o with | none => injection e | some a => exact ⟨a, rfl, Option.some.inj e⟩
theorem bt_some {o : Option β} (e : bt c o none = some r) : c = true ∧ o = some r := by cases c with | false => injection e | true => exact ⟨rfl, e⟩
theorem oL_some {f : List V → Option β} {d : Option β} (e : oL d f m = some r) : (∃ l, m = some (.list l) ∧ f l = some r) ∨ d = some r := by rcases m with _ | m; exact .inr e; cases m <;> first | exact .inl ⟨_, rfl, e⟩ | exact .inr e
theorem oD_some {f : List (V × V) → Option β} (e : oD none f m = some r) : ∃ l, m = some (.dict l) ∧ f l = some r := by rcases m with _ | m; injection e; cases m <;> first | exact ⟨_, rfl, e⟩ | injection e
end
theorem nbeq {a b : Nat} : Nat.beq a b = decide (a = b) := by rw [Bool.eq_iff_iff, Nat.beq_eq, decide_eq_true_eq]
theorem eqL_eq (a : List Nat) : ∀ b, eqL a b = decide (a = b) := by
  induction a with
  | nil => intro b; cases b <;> rfl
  | cons x a ih =>
    intro b
    cases b with
    | nil => rfl
    | cons y b =>
      show bt (Nat.beq x y) (eqL a b) false = _
      rw [ih, nbeq]
      by_cases q : x = y
      · subst q; rw [decide_eq_true rfl]; exact decide_eq_decide.mpr ⟨fun z => z ▸ rfl, fun z => (List.cons.inj z).2⟩
      · rw [decide_eq_false q]; exact (decide_eq_false fun z => q (List.cons.inj z).1).symm
theorem arr_inj {a b : List Nat} (e : a.toArray = b.toArray) : a = b := congrArg Array.toList e
theorem str_beq' (a b : List Nat) : ((⟨a.toArray⟩ : Str) == ⟨b.toArray⟩) = eqL a b := by
  rw [← PySem.SeqAt.str_beq, eqL_eq]
  by_cases h : a = b
  · subst h; rw [decide_eq_true rfl]; exact beq_self_eq_true _
  · rw [decide_eq_false h]; exact beq_eq_false_iff_ne.mpr h
theorem toB_inj {a : List Nat} (ha : Bytes a) : ∀ {b : List Nat}, Bytes b → a.map UInt8.ofNat = b.map UInt8.ofNat → a = b := by
  induction a with
  | nil => intro b _ e; cases b with | nil => rfl | cons _ _ => injection e
  | cons x a ih =>
    intro b hb e
    cases b with
    | nil => injection e
    | cons y b =>
      refine ob_A (List.cons.inj e) fun e1 e2 => ?_
      have e1 := congrArg UInt8.toNat e1
      rw [UInt8.toNat_ofNat', UInt8.toNat_ofNat', Nat.mod_eq_of_lt (ha x (.head _)), Nat.mod_eq_of_lt (hb y (.head _))] at e1
      rw [e1, ih (fun c m => ha c (.tail _ m)) (fun c m => hb c (.tail _ m)) e2]
theorem toB_beq {a b : List Nat} (ha : Bytes a) (hb : Bytes b) : ((toB a).toList == (toB b).toList) = decide (a = b) := by
  by_cases h : a = b
  · subst h; rw [decide_eq_true rfl]; exact beq_self_eq_true _
  · rw [decide_eq_false h]; exact beq_eq_false_iff_ne.mpr fun e => h (toB_inj ha hb e)
section
variable {A : Around} {s : Shared}
structure Cmp (A : Around) (s : Shared) (x y : Value) (b : Bool) : Prop where
  eq : SeqAt.EqAt A s x y b
  rc : SeqAt.RcAt A s x y b
  ne : SeqAt.RcNeAt A s x y (!b)
  same : x = y → b = true
theorem Cmp.bytes (a b : Array UInt8) (t u : Tok) : Cmp A s (.bytes a t) (.bytes b u) (a.toList == b.toList) where
  eq := by
    intro prog w E Q h
    unfold eqBool
    refine wpAny_holding ?_
    refine wpAny_ite_split (fun hab => ?_) (fun hab => ?_)
    · have e : a = b := by have := eq_of_beq hab; injection this
      subst e
      exact wpAny_bind (wpAny_rule (wpAny_pure (by rw [beq_self_eq_true] at h; exact h)))
    · exact wpAny_bind (richCompare_gives (typeIs_bytes s a t) (typeIs_bytes s b u) FB.slot_bytes_eq FB.entry_bytes_eq (FB.args_bytes_eq_2 _ _) (gives_bytes_eq a b t u) (by simp [Made.takes]) (wpAny_truthy_bool h))
  rc := fun prog w E Q h => eq_bytes h
  ne := fun prog w E Q h => ne_bytes h
  same := fun e => by injection e with z1 z2; subst z1; subst z2; exact beq_self_eq_true _
variable {S : Type} {D : Dm S} {p : Mp} {ι : Io}
theorem VRL.length {h : Heap} {l : List V} : ∀ {ws : List Value}, VRL p h ι l ws → ws.length = l.length := by
  induction l with
  | nil => intro ws r; rw [show ws = [] from r]; rfl
  | cons v l ih => intro ws r; cases ws with | nil => exact r.elim | cons w u => exact congrArg Nat.succ (ih r.2)
theorem veqL_at {f : V → V → Option Bool} (k : ∀ v v' x y c, f v v' = some c → VR p s.heap ι v x → VR p s.heap ι v' y → Cmp A s x y c) (l : List V) : ∀ {l' : List V} {ws ws' : List Value} {b : Bool}, veqL f l l' = some b → VRL p s.heap ι l ws → VRL p s.heap ι l' ws' →
    (∃ e : Nat → Bool, (∀ j (h1 : j < ws.length) (h2 : j < ws'.length), SeqAt.EqAt A s ws[j] ws'[j] (e j)) ∧ b = ((List.range (min ws.length ws'.length)).all e && ws.length == ws'.length)) ∧ (ws = ws' → b = true) := by
  induction l with
  | nil =>
    intro l' ws ws' b e r r'
    have z0 := (show ws = [] from r); subst z0
    cases l' with
    | nil => (have z0 := (show ws' = [] from r'); subst z0); injection e with z1; subst z1; exact ⟨⟨fun _ => true, (fun j h1 => absurd h1 (Nat.not_lt_zero _)), rfl⟩, fun _ => rfl⟩
    | cons v l' => cases ws' with
      | nil => exact r'.elim
      | cons w u => (injection e with z1; subst z1); exact ⟨⟨fun _ => true, (fun j h1 => absurd h1 (Nat.not_lt_zero _)), rfl⟩, fun q => nomatch q⟩
  | cons v l ih =>
    intro l' ws ws' b e r r'
    cases ws with
    | nil => exact r.elim
    | cons w u =>
    cases l' with
    | nil => (have z0 := (show ws' = [] from r'); subst z0); injection e with z1; subst z1; exact ⟨⟨fun _ => true, (fun j h1 h2 => absurd h2 (Nat.not_lt_zero _)), rfl⟩, fun q => nomatch q⟩
    | cons v' l' => cases ws' with
      | nil => exact r'.elim
      | cons w' u' =>
        refine ob_EA (oo_some e) fun c e1 e => ?_
        refine ob_EA (oo_some e) fun d e2 e => ?_
        have c1 := k v v' w w' c e1 r.1 r'.1
        refine ob_A (ih e2 r.2 r'.2) fun z1 hs => ?_; refine ob_EA z1 fun g hj hb => ?_
        injection e with z1; subst z1
        refine ⟨⟨fun j => Nat.casesOn j c g, fun j z1 z2 => ?_, ?_⟩, fun q => ?_⟩
        · cases j with
          | zero => exact c1.eq
          | succ j => exact hj j (Nat.lt_of_succ_lt_succ z1) (Nat.lt_of_succ_lt_succ z2)
        · rw [hb]
          simp only [List.length_cons, Nat.add_min_add_right]
          rw [List.range_succ_eq_map, List.all_cons, List.all_map]
          have : (u.length + 1 == u'.length + 1) = (u.length == u'.length) := by simp
          rw [this, Bool.and_assoc]
          cases c <;> rfl
        · refine ob_A (List.cons.inj q) fun q1 q2 => ?_
          rw [c1.same q1, hs q2]; rfl
theorem veq0_at (ok : DmOk D p) {ft : List V → List V → Option Bool} {v v' : V} {x y : Value} {b : Bool} (e : veq0 D ft v v' = some b) (r : VR p s.heap ι v x) (r' : VR p s.heap ι v' y)
    (ht : ∀ l l', v = .tup l → v' = .tup l' → ft l l' = some b → Cmp A s x y b) : Cmp A s x y b := by
  cases v with
  | bool a =>
    refine ob_EA (vB_some e) fun c z1 e => ?_; subst z1
    injection e with z1; subst z1
    have z0 := (show x = _ from r); subst z0; have z0 := (show y = _ from r'); subst z0
    rw [show bt a c (not c) = (a == c) by cases a <;> cases c <;> rfl]
    exact ⟨SeqAt.EqAt.bool_bool a c, SeqAt.RcAt.bool_bool a c, SeqAt.RcNeAt.bool_bool a c, fun q => by injection q with z1; subst z1; exact beq_self_eq_true _⟩
  | int a =>
    refine ob_EA (vI_some e) fun c z1 e => ?_; subst z1
    refine ob_E r fun t z2 => ?_; subst z2; refine ob_E r' fun u z1 => ?_; subst z1
    rw [← ok.eq e]
    exact ⟨SeqAt.EqAt.int_int _ t _ u, SeqAt.RcAt.int_int _ t _ u, SeqAt.RcNeAt.int_int _ t _ u, fun q => decide_eq_true (Value.int.inj q).1⟩
  | str a =>
    refine ob_EA (vS_some e) fun c z1 e => ?_; subst z1
    refine ob_E r fun t z2 => ?_; subst z2; refine ob_E r' fun u z1 => ?_; subst z1
    injection e with z1; subst z1
    have := str_beq' a c
    rw [← this]
    exact ⟨SeqAt.EqAt.str_str _ t _ u, SeqAt.RcAt.str_str _ t _ u, SeqAt.RcNeAt.str_str _ t _ u, fun q => by rw [(Value.str.inj q).1]; exact beq_self_eq_true _⟩
  | byt a =>
    refine ob_EA (vY_some e) fun c z1 e => ?_; subst z1
    refine ob_A r fun z2 ha => ?_; obtain ⟨t, rfl⟩ := z2; refine ob_A r' fun z1 hc => ?_; obtain ⟨u, rfl⟩ := z1
    rw [← ok.eqb e, ← toB_beq ha hc]
    exact .bytes ..
  | tup l =>
    refine ob_EA (vT_some e) fun l' z1 e => ?_; subst z1
    exact ht l l' rfl rfl e
  | _ => injection e
theorem tup_same {h : Heap} {a : Addr} {ws ws' : List Value} (ht : IsTup h a ws.toArray) (ht' : IsTup h a ws'.toArray) : ws = ws' := by
  refine ob_EAAE ht fun o ho _u n hd => ?_; refine ob_EAAE ht' fun o' ho' _u n' hd' => ?_
  have z0 := ho.symm.trans ho'; injection z0 with z1; subst z1
  injection hd.symm.trans hd' with h1
  exact congrArg Array.toList h1
theorem veq_at (ok : DmOk D p) (d : Nat) : ∀ (A : Around) (v v' : V) (x y : Value) (b : Bool), veq D d v v' = some b → VR p s.heap ι v x → VR p s.heap ι v' y → A.units + d < cLine → Cmp A s x y b := by
  induction d with
  | zero => exact fun A v v' x y b e r r' u => veq0_at ok e r r' fun _ _ _ _ q => nomatch q
  | succ d ih =>
    refine fun A v v' x y b e r r' u => veq0_at ok e r r' fun l l' h1 h2 e' => ?_
    subst h1 h2
    refine ob_EEAA r fun a ws z2 ht q => ?_; subst z2; refine ob_EEAA r' fun a' ws' z1 ht' q' => ?_; subst z1
    obtain ⟨⟨f, hj, hb⟩, hs⟩ := veqL_at (A := A.in1) (s := s) (fun v v' x y c ec rx ry => ih A.in1 v v' x y c ec rx ry (by rw [units_in1, Nat.add_right_comm]; exact u)) l e' q q'
    have u1 : A.units < cLine := Nat.lt_of_le_of_lt (Nat.le_add_right _ _) u
    have rc : SeqAt.RcAt A s (.ref a) (.ref a') b := by rw [hb]; exact SeqAt.RcAt.tuples (e := f) ht ht' u1 hj
    have sm : a = a' → b = true := fun n => hs (tup_same (n ▸ ht) ht')
    refine ⟨?_, rc, by rw [hb]; exact SeqAt.RcNeAt.tuples (e := f) ht ht' u1 hj, fun n => sm (Value.ref.inj n)⟩
    by_cases n : a = a'
    · rw [sm n, n]; exact SeqAt.EqAt.same _
    · exact .of_refs n rc
end
end
end Mine
namespace Mine
open PySem PyProof.Rows PySem.W
noncomputable section
def vk (x y : Value) : Bool := match x, y with
  | .int i _, .int j _ => decide (j = i)
  | .str s _, .str t _ => t == s
  | _, _ => false
section
variable {S : Type} {D : Dm S} {p : Mp} {ι : Io} {A : Around} {s : Shared} {h : Heap}
theorem isKey_cases {a : V} (e : isKey a = true) : (∃ i, a = .int i) ∨ ∃ x, a = .str x := by cases a <;> first | exact .inl ⟨_, rfl⟩ | exact .inr ⟨_, rfl⟩ | injection e
theorem key_at (ok : DmOk D p) {v a : V} {x y : Value} {c : Bool} (ha : isKey a = true) (e : keyEq D v a = some c) (rv : VR p s.heap ι v y) (ra : VR p s.heap ι a x) : SeqAt.EqAt A s y x c ∧ vk x y = c := by
  rcases isKey_cases ha with ⟨i, rfl⟩ | ⟨k, rfl⟩
  · obtain ⟨t, rfl⟩ := ra
    cases v with
    | int j =>
      obtain ⟨u, rfl⟩ := rv
      rw [← ok.eq (show D.eq j i = some c from e)]
      exact ⟨SeqAt.EqAt.int_int _ u _ t, rfl⟩
    | _ => injection e
  · obtain ⟨t, rfl⟩ := ra
    cases v with
    | str j =>
      obtain ⟨u, rfl⟩ := rv
      rw [← Option.some.inj (show some (eqL j k) = some c from e), ← str_beq']
      exact ⟨SeqAt.EqAt.str_str _ u _ t, rfl⟩
    | _ => injection e
theorem inL_at (ok : DmOk D p) {a : V} {x : Value} (ha : isKey a = true) (ra : VR p s.heap ι a x) (l : List V) : ∀ {ws : List Value} {c : Bool}, inL (keyEq D) a l = some c → VRL p s.heap ι l ws → (∀ y ∈ ws, SeqAt.EqAt A s y x (vk x y)) ∧ ws.any (vk x) = c := by
  induction l with
  | nil => intro ws c e r; have z0 := (show ws = [] from r); subst z0; injection e with z1; subst z1; exact ⟨fun _ m => (nomatch m), rfl⟩
  | cons v l ih =>
    intro ws c e r
    cases ws with
    | nil => exact r.elim
    | cons w u =>
      refine ob_EA (oo_some e) fun c1 e1 e => ?_
      refine ob_EA (oo_some e) fun c2 e2 e => ?_
      refine ob_A (key_at (A := A) ok ha e1 r.1 ra) fun k1 k2 => ?_
      refine ob_A (ih e2 r.2) fun i1 i2 => ?_
      refine ⟨fun y m => ?_, ?_⟩
      · cases m with
        | head => exact k2 ▸ k1
        | tail _ m => exact i1 y m
      · rw [List.any_cons, k2, i2]; injection e with z1; subst z1; cases c1 <;> rfl
def KOk {K : Type} [DecidableEq K] (D : Dm S) (κ : V → Option K) : Prop := ∀ a b x y c, κ a = some x → κ b = some y → keyEq D a b = some c → c = decide (x = y)
theorem kok_s : KOk D κs := fun a b x y c h1 h2 e => by
  refine ob_EA (vS_some h1) fun i z2 h1 => ?_; subst z2; refine ob_EA (vS_some h2) fun j z1 h2 => ?_; subst z1
  injection h1 with z1; subst z1; injection h2 with z1; subst z1
  rw [← Option.some.inj (show some (eqL i j) = some c from e), eqL_eq]
  exact decide_eq_decide.mpr ⟨fun q => q ▸ rfl, fun q => arr_inj (congrArg Str.cps q)⟩
theorem kok_i (ok : DmOk D p) : KOk D (κi p) := fun a b x y c h1 h2 e => by
  refine ob_EA (vI_some h1) fun i z2 h1 => ?_; subst z2; refine ob_EA (vI_some h2) fun j z1 h2 => ?_; subst z1
  injection h1 with z1; subst z1; injection h2 with z1; subst z1
  exact (ok.eq (show D.eq i j = some c from e)).symm
section
variable {K : Type} [DecidableEq K] {κ : V → Option K} {x : V} {k : K}
theorem DR.get (kk : KOk D κ) (hx : κ x = some k) (es : List (V × V)) : ∀ {kvs : List (K × Value)} {o : Option V}, DR p h ι κ es kvs → getK D es x = some o → (o = none → valueAt kvs k = none) ∧ ∀ v, o = some v → ∃ y, valueAt kvs k = some y ∧ VR p h ι v y := by
  induction es with
  | nil => intro kvs o r e; have z0 := (show kvs = [] from r); subst z0; injection e with z1; subst z1; exact ⟨fun _ => rfl, fun _ q => nomatch q⟩
  | cons e0 es ih =>
    intro kvs o r e
    cases kvs with
    | nil => exact r.elim
    | cons kv kvs =>
      refine ob_EA (oo_some e) fun c e1 e => ?_
      have hc := kk _ _ _ _ _ r.1 hx e1
      cases c with
      | true =>
        injection e with z1; subst z1
        have q := of_decide_eq_true hc.symm
        refine ⟨fun q => (nomatch q), fun v q' => ?_⟩
        injection q' with z1; subst z1
        exact ⟨kv.2, by unfold valueAt; rw [List.find?_cons, show (decide (kv.1 = k)) = true from hc.symm]; rfl, r.2.1⟩
      | false =>
        have := ih r.2.2 e
        have hv : valueAt (kv :: kvs) k = valueAt kvs k := by unfold valueAt; rw [List.find?_cons, show (decide (kv.1 = k)) = false from hc.symm]
        rw [hv]; exact this
theorem DR.app {y : Value} {v : V} (hx : κ x = some k) (hv : VR p h ι v y) (es : List (V × V)) : ∀ {kvs : List (K × Value)}, DR p h ι κ es kvs → DR p h ι κ (app es [(x, v)]) (kvs ++ [(k, y)]) := by
  induction es with
  | nil => intro kvs r; have z0 := (show kvs = [] from r); subst z0; exact ⟨hx, hv, rfl⟩
  | cons e0 es ih =>
    intro kvs r
    cases kvs with
    | nil => exact r.elim
    | cons kv kvs => exact ⟨r.1, r.2.1, ih r.2.2⟩
theorem DR.len (es : List (V × V)) : ∀ {kvs : List (K × Value)}, DR p h ι κ es kvs → kvs.length = lenF es := by
  induction es with
  | nil => intro kvs r; have z0 := (show kvs = [] from r); subst z0; rfl
  | cons e0 es ih =>
    intro kvs r
    cases kvs with
    | nil => exact r.elim
    | cons kv kvs => exact congrArg Nat.succ (ih r.2.2)
theorem stored_new {kvs : List (K × Value)} {y : Value} (e : valueAt kvs k = none) : stored kvs k y = kvs ++ [(k, y)] := by
  unfold stored
  have : (kvs.any fun kv => kv.1 = k) = false := by
    unfold valueAt at e
    rw [Option.map_eq_none_iff, List.find?_eq_none] at e
    rw [List.any_eq_false]
    exact e
  rw [this]; rfl
end
theorem dict_flip {K K' : Type} [DecidableEq K] [DecidableEq K'] {prog : Program} {w : World} {knd : KeyKind prog w K} {knd' : KeyKind prog w K'} {h : Heap} {a : Addr} (D : h.DictOf knd a []) : h.DictOf knd' a [] := by
  refine ob_EEEAAAAA D fun o es ep ho x hd hk hp hn => ?_
  have : es = #[] := Array.eq_empty_of_size_eq_zero (Array.length_toList.symm.trans hp.length)
  subst this
  exact ⟨o, #[], ep, ho, x, hd, (fun e m => by cases (Array.mem_def.mp m)), .nil, .nil⟩
variable {prog : Program} {w : World} {a : Addr} {d : Option Addr} {es : List (V × V)}
theorem dict_str (O : OR prog w p h ι a d (.dict es)) {x : List Nat} {o : Option V} (e : getK D es (.str x) = some o) : ∃ kvs, h.DictOf (strKind prog w) a kvs ∧ DR p h ι κs es kvs := by
  rcases O.2 with O | ⟨kvs, Dd, r⟩
  · exact O
  · cases es with
    | nil => (have z0 := (show kvs = [] from r); subst z0); exact ⟨[], dict_flip Dd, rfl⟩
    | cons kv es =>
      cases kvs with
      | nil => exact r.elim
      | cons _ _ => obtain ⟨k, v⟩ := kv; refine ob_EA (vI_some r.1) fun i z1 _u => ?_; subst z1; injection e
theorem dict_int (O : OR prog w p h ι a d (.dict es)) {x : Int} {o : Option V} (e : getK D es (.int x) = some o) : ∃ kvs, h.DictOf (intKind prog w) a kvs ∧ DR p h ι (κi p) es kvs := by
  rcases O.2 with ⟨kvs, Dd, r⟩ | O
  · cases es with
    | nil => (have z0 := (show kvs = [] from r); subst z0); exact ⟨[], dict_flip Dd, rfl⟩
    | cons kv es =>
      cases kvs with
      | nil => exact r.elim
      | cons _ _ => obtain ⟨k, v⟩ := kv; refine ob_EA (vS_some r.1) fun i z1 _u => ?_; subst z1; injection e
  · exact O
end
section
variable {S : Type} {C : Cst S} {F : Fr} {W : Wd S} {a b : V} {x y : Value} {c : Bool} {P : Prop}
theorem Sat.list (T : Sat C F W) {i : Nat} {l : List V} (e : C.D.look W.σ i = some (.list l)) (r : VV C W (.obj i) x) (k : ∀ a ws, x = .ref a → Pl W.ι i a none → W.h.IsList a ws.toArray → VVL C W l ws → P) : P := by
  refine ob_EEAAEEA (T.objs i _ e) fun a d e' z1 n ws g q => ?_; subst z1
  refine ob_EEA r fun a' d' e2 z1 => ?_; subst z1
  refine ob_A (e'.fn e2) fun z1 _u => ?_; subst z1
  exact k a ws rfl e' ⟨_, g, rfl, n, rfl⟩ q
theorem Sat.dict (T : Sat C F W) {i : Nat} {es : List (V × V)} (e : C.D.look W.σ i = some (.dict es)) (r : VV C W (.obj i) x) (k : ∀ a, x = .ref a → Pl W.ι i a none → OR C.prog C.w C.p W.h W.ι a none (.dict es) → (a == sysModules) = false → P) : P := by
  refine ob_EEA (T.objs i _ e) fun a d e' O => ?_
  refine ob_EEA r fun a' d' e2 z1 => ?_; subst z1
  refine ob_A (e'.fn e2) fun z1 _u => ?_; subst z1
  have z0 := O.1; subst z0
  refine k a rfl e' O (beq_eq_false_iff_ne.mpr fun q => T.sysm (q ▸ T.fresh a (own_of e')))
theorem Sat.has (ok : DmOk C.D C.p) {es : List (V × V)} {l : Addr} (O : OR C.prog C.w C.p W.h W.ι l none (.dict es)) (ha : isKey a = true) (ra : VV C W a x) (e : hasK C.D es a = some c) (ns : (l == sysModules) = false) {Q : Value → Shared → Prop} {E : Value → Shared → Prop} :
    ((∀ tk, Q (.bool c) (C.sh W.h tk)) → wpAny C.M F.A (compareOp .In x (.ref l)) Q E (C.st W)) ∧ ((∀ tk, Q (.bool (!c)) (C.sh W.h tk)) → wpAny C.M F.A (compareOp .NotIn x (.ref l)) Q E (C.st W)) := by
  refine ob_EA (oo_some e) fun o e hc => ?_
  rcases isKey_cases ha with ⟨i, rfl⟩ | ⟨k, rfl⟩
  · refine ob_E ra fun t z1 => ?_; subst z1
    refine ob_EA (dict_int O e) fun kvs Dd r => ?_
    have g := DR.get (kok_i ok) (x := .int i) rfl es r e
    have : (valueAt kvs (C.p.f i)).isSome = c := by
      cases o with
      | none => rw [g.1 rfl]; exact Option.some.inj hc
      | some v => refine ob_EA (g.2 v rfl) fun y hy _u => ?_; rw [hy]; exact Option.some.inj hc
    subst this
    exact ⟨fun q => wpAny_in_of (intKind_is _ _ _ _) ns Dd.mapOf (q _), fun q => wpAny_notIn_of (intKind_is _ _ _ _) ns Dd.mapOf (q _)⟩
  · refine ob_E ra fun t z1 => ?_; subst z1
    refine ob_EA (dict_str O e) fun kvs Dd r => ?_
    have g := DR.get kok_s (x := .str k) rfl es r e
    have : (valueAt kvs (⟨k.toArray⟩ : Str)).isSome = c := by
      cases o with
      | none => rw [g.1 rfl]; exact Option.some.inj hc
      | some v => refine ob_EA (g.2 v rfl) fun y hy _u => ?_; rw [hy]; exact Option.some.inj hc
    subst this
    exact ⟨fun q => wpAny_in_of (strKind_is _ _ _ _) ns Dd.mapOf (q _), fun q => wpAny_notIn_of (strKind_is _ _ _ _) ns Dd.mapOf (q _)⟩
theorem any_nat (l : List Nat) (c : Nat) : anyF (fun d => Nat.beq d c) l = decide (c ∈ l) := by
  induction l with
  | nil => rfl
  | cons a r ih =>
    show bt (Nat.beq a c) true (anyF _ r) = _
    rw [ih, nbeq]
    by_cases q : a = c
    · subst q; rw [decide_eq_true rfl]; exact (decide_eq_true (.head _)).symm
    · rw [decide_eq_false q]; exact decide_eq_decide.mpr ⟨.tail _, fun m => (List.mem_cons.mp m).elim (fun z => absurd z.symm q) id⟩
theorem in_at (ok : DmOk C.D C.p) (T : Sat C F W) (ra : VV C W a x) (rb : VV C W b y) (e : inF C.D a b W.σ = some c) {Q : Value → Shared → Prop} {E : Value → Shared → Prop} :
    ((∀ tk, Q (.bool c) (C.sh W.h tk)) → wpAny C.M F.A (compareOp .In x y) Q E (C.st W)) ∧ ((∀ tk, Q (.bool (!c)) (C.sh W.h tk)) → wpAny C.M F.A (compareOp .NotIn x y) Q E (C.st W)) := by
  refine ob_A (bt_some e) fun ha e => ?_
  cases b with
  | str l =>
    refine ob_EA (vS_some e) fun k z1 e => ?_; subst z1
    rcases k with _ | ⟨k, _ | _⟩
    · injection e
    · refine ob_E ra fun t z2 => ?_; subst z2; refine ob_E rb fun u z1 => ?_; subst z1
      have q : (!(Builtin.Str.occurrences (⟨l.toArray⟩ : Str) ⟨[k].toArray⟩ 0 (⟨l.toArray⟩ : Str).length 1).isEmpty) = c := by
        rw [← Option.some.inj (show some (anyF (fun d => Nat.beq d k) l) = some c from e), any_nat]
        exact (PySem.StrLaws.found_one ⟨l.toArray⟩ k).trans (decide_eq_decide.mpr Iff.rfl)
      exact ⟨fun h => in_str (by rw [q]; exact h W.tk), fun h => notIn_str (by rw [q]; exact h W.tk)⟩
    · injection e
  | tup l =>
    refine ob_EEAA rb fun t ws z1 ht r => ?_; subst z1
    refine ob_A (inL_at (A := F.A.in1) (s := C.st W) ok ha ra l e r) fun i1 i2 => ?_
    have q : ws.toArray.any (vk x) = c := by rw [← Array.any_toList]; exact i2
    exact ⟨fun h => SeqAt.in_tupleAt _ ht (fun y m => i1 y (Array.mem_def.mp m)) (by rw [q]; exact h W.tk), fun h => SeqAt.notIn_tupleAt _ ht (fun y m => i1 y (Array.mem_def.mp m)) (by rw [q]; exact h W.tk)⟩
  | obj o =>
    rcases oL_some e with ⟨l, hl, e⟩ | e
    · refine T.list hl rb fun t ws hy _ L r => ?_
      subst hy
      refine ob_A (inL_at (A := F.A.in1) (s := C.st W) ok ha ra l e r) fun i1 i2 => ?_
      have q : ws.toArray.any (vk x) = c := by rw [← Array.any_toList]; exact i2
      exact ⟨fun h => SeqAt.in_listAt _ L (fun y m => i1 y (Array.mem_def.mp m)) (by rw [q]; exact h W.tk), fun h => SeqAt.notIn_listAt _ L (fun y m => i1 y (Array.mem_def.mp m)) (by rw [q]; exact h W.tk)⟩
    · refine ob_EA (oD_some e) fun es hl e => ?_
      refine T.dict hl rb fun t hy _ O ns => ?_
      subst hy
      exact Sat.has ok O ha ra e ns
  | _ => injection e
theorem eq_at (ok : DmOk C.D C.p) (T : Sat C F W) (hu : F.A.units + 13 < cLine) (ra : VV C W a x) (rb : VV C W b y) (e : eqF C.D a b W.σ = some c) {Q : Value → Shared → Prop} {E : Value → Shared → Prop} :
    (Q (.bool c) (C.sh W.h W.tk) → wpAny C.M F.A (compareOp .Eq x y) Q E (C.st W)) ∧ (Q (.bool (!c)) (C.sh W.h W.tk) → wpAny C.M F.A (compareOp .NotEq x y) Q E (C.st W)) := by
  have plain : veq C.D 12 a b = some c → _ := fun e => have := veq_at (s := C.st W) (ι := W.ι) ok 12 F.A _ _ _ _ _ e ra rb (Nat.lt_of_succ_lt hu); (⟨this.rc C.prog C.w E Q, this.ne C.prog C.w E Q⟩ : (Q (.bool c) (C.sh W.h W.tk) → wpAny C.M F.A (compareOp .Eq x y) Q E (C.st W)) ∧ (Q (.bool (!c)) (C.sh W.h W.tk) → wpAny C.M F.A (compareOp .NotEq x y) Q E (C.st W)))
  cases a with
  | obj i =>
    refine ob_EA (vO_some (v := b) e) fun j z1 e => ?_; subst z1
    rcases oL_some e with ⟨l, hl, e⟩ | e
    · rcases oL_some e with ⟨l', hl', e⟩ | e
      · refine T.list hl ra fun a1 ws h1 _ L1 r1 => T.list hl' rb fun a2 ws' h2 _ L2 r2 => ?_
        subst h1 h2
        have u1 : F.A.units < cLine := Nat.lt_of_le_of_lt (Nat.le_add_right _ _) hu
        have len : ∀ l : List V, lenF l = l.length := fun l => by induction l with | nil => rfl | cons _ _ ih => exact congrArg Nat.succ ih
        cases q : Nat.beq (lenF l) (lenF l') with
        | false =>
          rw [q] at e
          injection e with z1; subst z1
          have hs : (ws.toArray.size != ws'.toArray.size) = true := by
            rw [List.size_toArray, List.size_toArray, r1.length, r2.length, ← len, ← len]
            exact bne_iff_ne.mpr (Nat.ne_of_beq_eq_false q)
          exact ⟨SeqAt.RcAt.lists_lengths L1 L2 hs u1 C.prog C.w E Q, SeqAt.RcNeAt.lists_lengths L1 L2 hs u1 C.prog C.w E Q⟩
        | true =>
          rw [q] at e
          have hs : ws.length = ws'.length := by rw [r1.length, r2.length, ← len, ← len]; exact Nat.eq_of_beq_eq_true q
          obtain ⟨⟨f, hj, hb⟩, _⟩ := veqL_at (A := F.A.in1) (s := C.st W) (fun v v' x y c ec rx ry => veq_at ok 12 F.A.in1 v v' x y c ec rx ry (by rw [units_in1, Nat.add_right_comm]; exact hu)) l e r1 r2
          have hb' : c = (List.range ws.toArray.size).all f := by
            rw [hb, ← hs, Nat.min_self, beq_self_eq_true, Bool.and_true]; rfl
          subst hb'
          exact ⟨SeqAt.RcAt.lists L1 L2 hs u1 hj C.prog C.w E Q, SeqAt.RcNeAt.lists L1 L2 hs u1 hj C.prog C.w E Q⟩
      · injection e
    · injection e
  | _ => exact plain e
theorem isNone_at {v : V} (ra : VV C W v x) (e : isNone v = some c) : (x == Value.none) = c := by
  cases v with
  | none => (injection e with z1; subst z1); have z0 := (show x = _ from ra); subst z0; rfl
  | int i => (injection e with z1; subst z1); refine ob_E ra fun _u z1 => ?_; subst z1; rfl
  | str i => (injection e with z1; subst z1); refine ob_E ra fun _u z1 => ?_; subst z1; rfl
  | byt i => (injection e with z1; subst z1); refine ob_A ra fun z1 _u => ?_; obtain ⟨_, rfl⟩ := z1; rfl
  | tup l => (injection e with z1; subst z1); refine ob_EEA ra fun _u _u z1 _u => ?_; subst z1; rfl
  | obj l => (injection e with z1; subst z1); refine ob_EEA ra fun _u _u _u z1 => ?_; subst z1; rfl
  | _ => injection e
theorem vN_some {α : Type} {f : Option α} {r : α} {v : V} (e : vN f none v = some r) : v = .none ∧ f = some r := by cases v <;> first | exact ⟨rfl, e⟩ | injection e
theorem leL_eq (a : List Nat) : ∀ b, leL a b = !decide (b < a) := by
  induction a with
  | nil => intro b; exact (congrArg not (decide_eq_false (List.not_lt_nil b))).symm
  | cons x a ih =>
    intro b
    cases b with
    | nil => exact (congrArg not (decide_eq_true (List.nil_lt_cons x a))).symm
    | cons y b =>
      show bt (Nat.beq x y) (leL a b) (Nat.ble x y) = _
      rw [ih, nbeq]
      by_cases q : x = y
      · subst q; rw [decide_eq_true rfl]; exact congrArg not (decide_eq_decide.mpr ⟨fun z => List.cons_lt_cons_iff.mpr (.inr ⟨rfl, z⟩), fun z => (List.cons_lt_cons_iff.mp z).elim (fun z => absurd z (Nat.lt_irrefl _)) (·.2)⟩)
      · rw [decide_eq_false q]
        show Nat.ble x y = _
        by_cases g : x ≤ y
        · rw [Nat.ble_eq.mpr g]; exact (congrArg not (decide_eq_false fun z => (List.cons_lt_cons_iff.mp z).elim (fun z => absurd g (Nat.not_le.mpr z)) fun z => q z.1.symm)).symm
        · rw [show Nat.ble x y = false from Bool.eq_false_iff.mpr fun z => g (Nat.ble_eq.mp z)]; exact (congrArg not (decide_eq_true (List.cons_lt_cons_iff.mpr (.inl (Nat.not_le.mp g))))).symm
theorem leI_at (ok : DmOk C.D C.p) {i j : Int} (e : leI C.D i j = some c) : decide (C.p.f i ≤ C.p.f j) = c := by
  refine ob_EA (oo_some e) fun r e h => ?_
  rw [← Option.some.inj h, ← ok.lt e]
  by_cases q : C.p.f j < C.p.f i
  · rw [decide_eq_true q]; exact decide_eq_false (Int.not_le.mpr q)
  · rw [decide_eq_false q]; exact decide_eq_true (Int.not_lt.mp q)
theorem cmp_run (ok : DmOk C.D C.p) (hu : F.A.units + 13 < cLine) (op : CmpOp) (ra : VV C W a x) (rb : VV C W b y) : Run C F W (compareOp op x y) (ob W.σ (on .bool ((cO C.D op).f a b W.σ))) (VV C) := by
  refine .ob fun v e0 => ?_
  refine ob_EA (on_some e0) fun c e z1 => ?_; subst z1
  clear e0
  refine .lib fun T Q E p => ?_
  have p1 : ∀ tk, Q (.bool c) (C.sh W.h tk) := fun tk => p (.bool c) tk rfl
  have p0 := p1 W.tk
  cases op with
  | Eq => exact (eq_at ok T hu ra rb e).1 p0
  | NotEq => refine ob_EA (on_some (o := eqF C.D a b W.σ) e) fun d e' z1 => ?_; subst z1; exact (eq_at ok T hu ra rb e').2 p0
  | Lt =>
    refine ob_EA (vI_some (v := a) e) fun i z2 e => ?_; subst z2; refine ob_EA (vI_some (v := b) e) fun j z1 e => ?_; subst z1
    refine ob_E ra fun t z2 => ?_; subst z2; refine ob_E rb fun u z1 => ?_; subst z1
    exact PyProof.Rows.lt_int (by rw [ok.lt e]; exact p0)
  | LtE =>
    cases a with
    | int i =>
      refine ob_EA (vI_some (v := b) e) fun j z1 e => ?_; subst z1
      refine ob_E ra fun t z2 => ?_; subst z2; refine ob_E rb fun u z1 => ?_; subst z1
      exact PyProof.Rows.le_int (by rw [leI_at ok e]; exact p0)
    | str i =>
      refine ob_EA (vS_some (v := b) e) fun j z1 e => ?_; subst z1
      refine ob_E ra fun t z2 => ?_; subst z2; refine ob_E rb fun u z1 => ?_; subst z1
      rw [← Option.some.inj e, leL_eq] at p0
      exact PySem.P.le_str p0
    | _ => injection e
  | Gt =>
    refine ob_EA (vI_some (v := b) e) fun j z2 e => ?_; subst z2; refine ob_EA (vI_some (v := a) e) fun i z1 e => ?_; subst z1
    refine ob_E ra fun t z2 => ?_; subst z2; refine ob_E rb fun u z1 => ?_; subst z1
    exact PyProof.Rows.gt_int (by rw [ok.lt e]; exact p0)
  | GtE =>
    refine ob_EA (vI_some (v := a) e) fun i z2 e => ?_; subst z2; refine ob_EA (vI_some (v := b) e) fun j z1 e => ?_; subst z1
    refine ob_E ra fun t z2 => ?_; subst z2; refine ob_E rb fun u z1 => ?_; subst z1
    exact PyProof.Rows.ge_int (by rw [leI_at ok e]; exact p0)
  | Is =>
    refine ob_A (vN_some (v := b) e) fun z1 e => ?_; subst z1
    have z0 := (show y = _ from rb); subst z0
    exact is_none (by rw [isNone_at ra e]; exact p0)
  | IsNot =>
    refine ob_A (vN_some (v := b) e) fun z1 e => ?_; subst z1
    refine ob_EA (on_some e) fun d e' z1 => ?_; subst z1
    have z0 := (show y = _ from rb); subst z0
    exact isNot_none (by rw [isNone_at ra e']; exact p0)
  | In => exact (in_at ok T ra rb e).1 p1
  | NotIn => refine ob_EA (on_some (o := inF C.D a b W.σ) e) fun d e' z1 => ?_; subst z1; exact (in_at ok T ra rb e').2 p1
end
end
end Mine
namespace Mine
open PySem PyProof.Rows PySem.W
noncomputable section
theorem lenF_eq {α : Type} (l : List α) : lenF l = l.length := by induction l with | nil => rfl | cons _ _ ih => exact congrArg Nat.succ ih
theorem app_eq {α : Type} (a b : List α) : app a b = a ++ b := by induction a with | nil => rfl | cons x _ ih => exact congrArg (x :: ·) ih
theorem nth_eq {α : Type} (l : List α) : ∀ n, nth l n = l[n]? := by
  induction l with
  | nil => exact fun _ => rfl
  | cons a l ih => intro n; cases n with | zero => rfl | succ n => exact (ih n).trans List.getElem?_cons_succ.symm
theorem takeF_eq {α : Type} (l : List α) : ∀ n, takeF l n = l.take n := by
  induction l with
  | nil => exact fun n => List.take_nil.symm
  | cons a l ih => intro n; cases n with | zero => rfl | succ n => exact congrArg (a :: ·) (ih n)
theorem dropF_eq {α : Type} (n : Nat) (l : List α) : dropF n l = l.drop n := by
  induction n with
  | zero => rfl
  | succ n ih =>
    show tl1 (dropF n l) = _
    rw [ih, ← List.drop_one_eq_tail_drop]
where
  List.drop_one_eq_tail_drop {α : Type} {n : Nat} {l : List α} : tl1 (l.drop n) = l.drop (n + 1) := by rw [← List.drop_drop]; cases l.drop n <;> rfl
theorem ble_small {n : Nat} (h : Nat.ble n 999999 = true) : n < 1000000 := Nat.lt_succ_of_le (Nat.ble_eq.mp h)
theorem Bytes.append {a b : List Nat} (x : Bytes a) (y : Bytes b) : Bytes (a ++ b) := fun c m => (List.mem_append.mp m).elim (x c) (y c)
theorem toB_append (a b : List Nat) : toB a ++ toB b = toB (a ++ b) := by unfold toB; rw [List.map_append, ← List.append_toArray]
theorem toB_size (a : List Nat) : (toB a).size = a.length := by unfold toB; rw [List.size_toArray, List.length_map]
section
variable {p : Mp} {h : Heap} {ι : Io}
theorem VRL.append {m : List V} {wm : List Value} (q : VRL p h ι m wm) (l : List V) : ∀ {ws : List Value}, VRL p h ι l ws → VRL p h ι (app l m) (ws ++ wm) := by
  induction l with
  | nil => intro ws r; rw [show ws = [] from r]; exact q
  | cons v l ih => intro ws r; cases ws with | nil => exact r.elim | cons w u => exact ⟨r.1, ih r.2⟩
theorem VRL.nth (l : List V) : ∀ {ws : List Value} {i : Nat} {v : V}, VRL p h ι l ws → Mine.nth l i = some v → ∃ x, ws[i]? = some x ∧ VR p h ι v x := by
  induction l with
  | nil => intro ws i v _ e; injection e
  | cons a l ih =>
    intro ws i v r e
    cases ws with
    | nil => exact r.elim
    | cons w u => cases i with
      | zero => (injection e with z1; subst z1); exact ⟨w, rfl, r.1⟩
      | succ i => refine ob_EA (ih r.2 e) fun x hx rx => ?_; exact ⟨x, List.getElem?_cons_succ.trans hx, rx⟩
theorem VRL.drop (k : Nat) : ∀ {l : List V} {ws : List Value}, VRL p h ι l ws → VRL p h ι (l.drop k) (ws.drop k) := by
  induction k with
  | zero => exact fun r => r
  | succ k ih => intro l ws r; cases l with
    | nil => rw [show ws = [] from r]; exact rfl
    | cons v l => cases ws with | nil => exact r.elim | cons w u => exact ih r.2
theorem VRL.take (k : Nat) : ∀ {l : List V} {ws : List Value}, VRL p h ι l ws → VRL p h ι (l.take k) (ws.take k) := by
  induction k with
  | zero => exact fun _ => rfl
  | succ k ih => intro l ws r; cases l with
    | nil => rw [show ws = [] from r]; exact rfl
    | cons v l => cases ws with | nil => exact r.elim | cons w u => exact ⟨r.1, ih r.2⟩
end
section
variable {S : Type} {C : Cst S} {F : Fr} {W : Wd S} {a b : V} {x y : Value}
theorem VVL.size {l : List V} {ws : List Value} (r : VVL C W l ws) : ws.toArray.size = lenF l := by rw [List.size_toArray, VRL.length r, lenF_eq]
theorem add_tup {M : Model} {A : Around} {s : Shared} {Q : Value → Shared → Prop} {E : Value → Shared → Prop} {vs ws : List Value} {t b : Addr} (prog : Program) (w : World) (ht : IsTup s.heap t vs.toArray) (hb : IsTup s.heap b ws.toArray) (hsz : vs.length + ws.length ≤ sizeLine)
    (h : ∀ a h', Kp s.heap h' → IsTup h' a (vs ++ ws).toArray → Q (.ref a) { s with heap := h' }) :
    wpAny (model prog w) A (binaryOp .Add (.ref t) (.ref b)) Q E s := by
  have h0 : vs = [] → Q (.ref b) s := fun e => by subst e; exact h b s.heap (fun _ _ e => e) hb
  have h1 : ws = [] → Q (.ref t) s := fun e => by subst e; exact h t s.heap (fun _ _ e => e) (by rw [List.append_nil]; exact ht)
  have e : vs.toArray ++ ws.toArray = (vs ++ ws).toArray := List.append_toArray ..
  refine ob_EAAE (id ht) fun z1 ho z2 n z3 => ?_; obtain ⟨cls, dd, data, sl⟩ := z1; subst z2; subst z3
  refine ob_EAAE (id hb) fun z1 ho2 z2 n2 z3 => ?_; obtain ⟨cls2, dd2, data2, sl2⟩ := z1; subst z2; subst z3
  by_cases hv : vs = []
  · exact concat_meets ⟨_, ho, rfl⟩ ⟨_, ho2, rfl⟩ noFill_tuple_add seq_tuple_add PySem.F.slot_tuple_add PySem.F.entry_tuple_add (PySem.F.args_tuple_add_2 _ _)
      (tuple_addW0 t b vs.toArray ws.toArray n n2 dd dd2 sl sl2 (by simp [hv])) ⟨ho, ho2, h0 hv⟩
  · by_cases hw : ws = []
    · exact concat_meets ⟨_, ho, rfl⟩ ⟨_, ho2, rfl⟩ noFill_tuple_add seq_tuple_add PySem.F.slot_tuple_add PySem.F.entry_tuple_add (PySem.F.args_tuple_add_2 _ _)
        (tuple_addW1 t b vs.toArray ws.toArray n n2 dd dd2 sl sl2 (by simpa using hv) (by simp [hw])) ⟨ho, ho2, h1 hw⟩
    · refine concat_meets ⟨_, ho, rfl⟩ ⟨_, ho2, rfl⟩ noFill_tuple_add seq_tuple_add PySem.F.slot_tuple_add PySem.F.entry_tuple_add (PySem.F.args_tuple_add_2 _ _)
        (tuple_addW2 t b vs.toArray ws.toArray n n2 dd dd2 sl sl2 (by simpa using hv) (by simpa using hw) (by rw [List.size_toArray, List.size_toArray]; exact hsz)) ⟨ho, ho2, ?_⟩
      rw [e]
      exact h _ _ (fun b o e => Heap.get?_push_of_some _ e) ⟨_, Heap.get?_push_size _ rfl, rfl, _, rfl⟩
theorem isAdd_eq {op : Operator} (e : isAdd op = true) : op = .Add := by cases op <;> first | rfl | injection e
theorem bin_run (ok : DmOk C.D C.p) (op : Operator) (ra : VV C W a x) (rb : VV C W b y) : Run C F W (binaryOp op x y) (binF C.D op a b W.σ) (VV C) := by
  refine .xE (k := fun x => binaryOp op x y) ra .bad (fun _ => .bad) (fun i t => ?_) (fun i t => ?_) (fun i t ba => ?_) (fun i t ws ht la => ?_) (fun _ _ _ _ => .bad) (fun _ => .bad) fun _ => .bad
  · exact .xI (k := binaryOp op _) rb fun j u => .on fun c e => .lib fun T Q E p => ok.ar _ _ _ _ e fun k v => p _ k ⟨v, rfl⟩
  · refine .xS (k := binaryOp op _) rb fun j u => ?_
    refine .gd fun e1 => .gd fun e2 => .lib fun T Q E p => ?_
    have z0 := isAdd_eq e1; subst z0
    refine add_str (fun t' tk => p _ tk ⟨t', by rw [app_eq]; exact congrArg (fun z => Value.str ⟨z⟩ t') (List.append_toArray ..)⟩) ?_
    have := Nat.ble_eq.mp e2
    rw [lenF_eq, lenF_eq] at this
    rw [sizeLine_eq]
    exact Nat.le_trans this (by decide)
  · refine .xY (k := binaryOp op _) rb fun j u bb => .gd fun e1 => .gd fun e2 => .lib fun T Q E p => ?_
    have z0 := isAdd_eq e1; subst z0
    have f : (app i j).flatMap C.p.tok = i.flatMap C.p.tok ++ j.flatMap C.p.tok := by rw [app_eq, List.flatMap_append]
    have e2 := ok.fit e2
    rw [f, List.length_append] at e2
    exact KBy.add_bytes (by rw [toB_size, toB_size]; exact Nat.le_trans (Nat.le_of_lt e2) (by decide)) fun t' k => p _ k ⟨⟨t', by rw [toB_append, f]⟩, by rw [f]; exact ba.append bb⟩
  · refine .xT (k := binaryOp op _) rb fun j u ws' hu lb => .gd fun e1 => .gd fun e2 => .grow fun T Q E p => ?_
    have z0 := isAdd_eq e1; subst z0
    refine add_tup (M := C.M) _ _ ht hu ?_ fun c h' k t' => p _ h' W.tk k ⟨c, _, rfl, t', VRL.mono T (Lat.of_keeps k) NoTup.nil _ (VRL.append lb _ la)⟩
    have := Nat.ble_eq.mp e2
    rw [lenF_eq, lenF_eq, ← VRL.length la, ← VRL.length lb] at this
    rw [sizeLine_eq]
    exact Nat.le_trans this (by decide)
theorem seqIx {k n : Nat} (h : k < n) : PySem.seqIndex? (k : Int) n = some k := by
  have hn : ¬ ((k : Int) < 0) := by omega
  have h1 : (k : Int) < n := by omega
  have h0 : (0 : Int) ≤ k := by omega
  simp [PySem.seqIndex?, hn, h1, h]
def HasItem (s : Shared) (o : Value) : Prop := ∃ T id, s.TypeIs o T ∧ typeLookup (.type T) "__getitem__" = pure (some (.builtin id))
theorem tail_run {value slice : PySem.Expr} {o i : Value} {ops : List Value} {r : RF S V} (hT : HasItem (C.st W) o) (h : Run C F W (getItem o i) r (VV C)) (hs : subscripted slice false o i = operate ops (getItem o i)) :
    Run C F W (subscriptTail value slice o i) r (VV C) := ⟨fun T Q E p => by
  refine ob_EEA hT fun t id hT hl => ?_
  unfold subscriptTail
  refine wpC_bind (wpC_of ?_)
  rw [getitemInPython_of_ne hT.not_modules]
  refine wpAny_bind (wpAny_specialOf hT hl (wpAny_pure ?_))
  refine wpC_bind ?_
  rw [hs]
  refine wpC_operate (h.go T _ E ?_)
  cases r with
  | bad => exact p
  | exc _ _ => exact p
  | ok v σ => exact fun W' y e z q => wpC_bind (wpC_of (wpAny_letTemporaryGo (wpC_pure (p W' y e z q))))⟩
end
end
end Mine
namespace Mine
open PySem PyProof.Rows PySem.W
noncomputable section
structure ClsOk (K : Frag) (C : Addr) (ci : CI) : Prop where
  attrs : ∀ x, anyF (fun y => Nat.beq y (kc x)) ci.attrs = true → plainGet K C "" = true ∧ hasDictIn K C = true ∧ findIn K (.ref C) "__setattr__" = some (some (.builtin "object.__setattr__")) ∧ plainOver K C = true ∧ findIn K (.ref C) x = some none
  meths : ∀ x f, luk ci.meths (kc x) = some f → plainGet K C "" = true ∧ findIn K (.ref C) x = some (some (.ref f)) ∧ typeIn K (.ref f) = some (.type "function") ∧ keepIn K (.ref f) = true
  made : ci.exc = false → makesIn K C = true ∧ findIn K (.ref C) "__init__" = some (some (.ref ci.init)) ∧ typeIn K (.ref ci.init) = some (.type "function") ∧ keepIn K (.ref C) = true
structure Okay {S : Type} (C : Cst S) : Prop where
  ok : DmOk C.D C.p
  X : C.K.In C.base
  glob : ∃ mg mb, C.base.Ns mainGlobals mg ∧ C.base.Ns builtinsNs mb ∧ ∀ x v, C.P.glob (kc x) = some v → (∃ y, mg x = some y ∧ ∀ h ι, VR C.p h ι v y) ∨ (mg x = none ∧ ∃ y, mb x = some y ∧ ∀ h ι, VR C.p h ι v y)
  lim : C.base.NoLimit
  cls : ∀ a ci, C.P.cls a = some ci → ClsOk C.K a ci
  keepf : ∀ a fi, C.P.fn a = some fi → keepIn C.K (.ref a) = true
  lst : ∀ a l, C.P.lst a = some l → ∃ ws : List Value, C.base.IsList a ws.toArray ∧ ∀ h ι, VRL C.p h ι l ws
theorem fit63 {n : Nat} (h : n < 1000000) : (n : Int) < 2 ^ 63 := Int.lt_trans (Int.ofNat_lt.mpr h) (by decide)
theorem fitS {n : Nat} (h : n < 1000000) : (decide ((n : Int) < -(2 ^ 63 : Int)) || decide ((n : Int) ≥ 2 ^ 63)) = false := by
  rw [decide_eq_false (Int.not_lt.mpr (Int.le_trans (by decide) (Int.natCast_nonneg n))), decide_eq_false (Int.not_le.mpr (fit63 h))]; rfl
section
variable {S : Type} {C : Cst S} {F : Fr} {W : Wd S} {a b : V} {x y : Value}
theorem ix_run (ok : DmOk C.D C.p) {value slice : PySem.Expr} (hs : ∀ o i, subscripted slice false o i = operate [o, i] (getItem o i)) (ra : VV C W a x) (rb : VV C W b y) : Run C F W (subscriptTail value slice x y) (ixF C.D a b W.σ) (VV C) := by
  refine .xE (k := fun x => subscriptTail value slice x y) ra .bad (fun _ => .bad) (fun _ _ => .bad) (fun l t => ?_) (fun l t hb => ?_) (fun l t ws ht r => ?_) (fun i a d pl => ?_) (fun _ => .bad) fun _ => .bad
  · refine .xI (k := subscriptTail value slice _) rb fun j u => .oo fun n e => .oo fun c e2 => tail_run ⟨_, _, typeIs_str _ _ _, slot_str_getitem.lookup⟩ (.lib fun T Q E p => ?_) (hs _ _)
    refine ob_A (ok.nat e) fun e h2 => ?_
    rw [e]
    rw [nth_eq] at e2
    refine PyProof.Rows.getItem_str (c := c) (fitS h2) ?_ (p _ _ ⟨_, rfl⟩)
    show (PySem.seqIndex? (n : Int) l.toArray.size).bind _ = _
    rw [seqIx (by rw [List.size_toArray]; exact (List.getElem?_eq_some_iff.mp e2).1)]
    exact (List.getElem?_toArray ..).trans e2
  · refine .xI (k := subscriptTail value slice _) rb fun j u => .oo fun c e => tail_run ⟨_, _, typeIs_bytes _ _ _, FB.slot_bytes_getitem.lookup⟩ (.lib fun T Q E p => ?_) (hs _ _)
    refine ob_EAA (ok.bix e) fun n e e2 q0 => ?_
    rw [e]
    generalize l.flatMap C.p.tok = l at *
    refine ob_E (List.getElem?_eq_some_iff.mp e2) fun g e3 => ?_
    refine getItem_bytes (by rw [List.length_map]; exact Nat.le_trans (Nat.le_of_lt q0) (by decide)) (Int.natCast_nonneg n) (by rw [List.length_map]; exact Int.ofNat_lt.mpr g) (p _ _ ⟨W.tk, ?_⟩)
    rw [ok.num c (Nat.lt_trans (hb c (e3 ▸ List.getElem_mem g)) (by decide))]
    have : (((l.map UInt8.ofNat).getD n 0).toNat) = c := by
      rw [List.getD_eq_getElem?_getD, List.getElem?_map, e2]
      exact (UInt8.toNat_ofNat' ..).trans (Nat.mod_eq_of_lt (hb c (e3 ▸ List.getElem_mem g)))
    exact congrArg (fun z => Value.int (Int.ofNat z) W.tk) this
  · refine .xI (k := subscriptTail value slice _) rb fun j u => .ob fun v e => tail_run ⟨_, _, ht.typeIs, slot_tuple_getitem.lookup⟩ (.lib fun T Q E p => ?_) (hs _ _)
    refine ob_EEAAA (ok.ix e) fun n w e1 h2 e2 k => ?_
    refine ob_EA (VRL.nth _ r e2) fun z hz rz => ?_
    rw [e1]
    exact PyProof.Rows.getItem_tuple ht (Int.le_trans (by decide) (Int.natCast_nonneg n)) (fit63 h2) (seqIx (by rw [List.size_toArray]; exact (List.getElem?_eq_some_iff.mp hz).1)) ((List.getElem?_toArray ..).trans hz) (p z W.tk (k _ _ _ rz))
  · refine .oL pl (fun l ws pl L r => ?_) (.oD pl fun es pl O ns => ?_)
    · refine .xI (k := subscriptTail value slice _) rb fun j u => .oo fun n e => .ob fun v e2 => tail_run ⟨_, _, L.typeIs, slot_list_getitem.lookup⟩ (.lib fun T Q E p => ?_) (hs _ _)
      refine ob_A (ok.nat e) fun e h2 => ?_
      refine ob_EA (VRL.nth _ r e2) fun z hz rz => ?_
      rw [e]
      exact wpAny_getItem_list L (Int.natCast_nonneg n) (fit63 h2) ((List.getElem?_toArray ..).trans hz) (p z W.tk rz)
    · refine .xS (k := subscriptTail value slice _) rb fun j u => .oo fun o e => .ob fun v e2 => ?_
      refine ob_EA (dict_str O e) fun kvs Dd r => ?_
      refine ob_EA ((DR.get kok_s (x := .str j) rfl es r e).2 v e2) fun z hz rz => ?_
      exact tail_run ⟨_, _, Dd.typeIs, slot_dict_getitem.lookup⟩ (.lib fun T Q E p => wpAny_getItem_of (strKind_is _ _ _ _) Dd.mapOf hz (p z _ rz)) (hs _ _)
def PR (C : Cst S) : Rl S (Option V) Value := fun W a x => oo (x = .none) (fun v => VV C W v x) a
theorem PR.mono {W' : Wd S} {a : Option V} (r : PR C W a x) (z : Fut C F [] W W') : PR C W' a x := by
  cases a with
  | none => exact r
  | some v => exact VV.mono r z
theorem PR.part {a : Option V} {o : Option Int} (e : endI a = some o) (r : PR C W a x) : IsPart x (o.map C.p.f) := by
  cases a with
  | none => (injection e with z1; subst z1); rw [show x = _ from r]; exact .none
  | some v =>
    refine ob_EA (vI_some (v := v) e) fun i z1 e => ?_; subst z1
    injection e with z1; subst z1
    refine ob_E ((show VV C W (.int i) x from r)) fun t z1 => ?_; subst z1
    exact .int _ t
theorem slice_get {items : Array Value} {A : Around} {s : Shared} {Q : Value → Shared → Prop} {E : Value → Shared → Prop} {t sl : Addr} {i j : Nat} {u : Tok} {vu : Value} {hi : Option Int} (prog : Program) (w : World) (ht : IsTup s.heap t items) (hs : s.heap.IsSliceOf sl (.int (Int.ofNat i) u) vu .none) (pu : IsPart vu hi) (hb : hi.elim (items.size : Int) id = j) (h1 : 1 ≤ i) (ha : i ≤ j) (hbn : j ≤ items.size)
    (h : Q (.ref s.heap.objs.size) { s with heap := s.heap.push { cls := .type "tuple", data := .seq ((items.toList.drop i).take (j - i)).toArray } }) (hsz : items.size ≤ sizeLine) : wpAny (model prog w) A (getItem (.ref t) (.ref sl)) Q E s := by
  have hdrop : sizeOk (.seq ((items.toList.drop i).take (j - i)).toArray) := by
    show ((items.toList.drop i).take (j - i)).toArray.size ≤ sizeLine
    rw [List.size_toArray, List.length_take, List.length_drop, Array.length_toList]
    exact Nat.le_trans (Nat.min_le_right _ _) (Nat.le_trans (Nat.sub_le _ _) hsz)
  refine ob_EAA (id hs) fun os hos hcs hds => ?_
  have hTs : s.TypeIs (.ref sl) "slice" := ⟨os, hos, hcs⟩
  unfold getItem
  try with_reducible refine wpAny_holding ?_
  first | refine wpAny_bind (wpAny_pure ?_) | skip
  refine wpAny_bind (wpAny_sequenceKey ht.typeIs (by decide) ?_)
  refine wpAny_bind (wpAny_callSpecial?_slot (name := Str.ofString "__getitem__") ht.typeIs slot_tuple_getitem
    (wpAny_call_entry slot_tuple_getitem ht.typeIs entry_tuple_getitem ?_ (args_tuple_getitem _ _)))
  show wpAny _ _ (Builtin.Tuple.tupleItemsOf (.ref t) >>= _) _ _ s
  refine wpAny_bind (tupleItemsOf_ ht ?_)
  refine wpAny_bind (wpAny_typeOf hTs ?_)
  rw [if_pos (by decide)]
  have adj : Builtin.Slice.sliceAdjust (some (i : Int)) hi 1 (items.size : Int) = ((i : Int), (j : Int)) := by
    unfold Builtin.Slice.sliceAdjust
    have h1 : ¬ ((1 : Int) < 0) := by decide
    have h2 : ¬ ((i : Int) < 0) := by omega
    have h4 : min (i : Int) (items.size : Int) = i := by omega
    cases hi with
    | none =>
      simp only [h1, h2, if_false]
      have : (items.size : Int) = j := hb
      congr 1
    | some z =>
      have z0 := (show z = (j : Int) from hb); subst z0
      have h3 : ¬ ((j : Int) < 0) := by omega
      simp only [h1, h2, h3, if_false]
      have h5 : min (j : Int) (items.size : Int) = j := by omega
      congr 1
  have pl : Builtin.Slice.slicePlaces (i : Int) (j : Int) 1 = j - i := by
    unfold Builtin.Slice.slicePlaces
    have h1 : (1 : Int) > 0 := by decide
    simp only [h1, if_true, Int.ediv_one]
    split <;> omega
  have go : ∀ {Q : Int × Int × Nat → Shared → Prop}, Q ((i : Int), 1, j - i) s → wpAny (model prog w) A.in1 (Builtin.Slice.sliceApplied (.ref sl) (pure (items.size : Int))) Q (fun e s => E e s) s := by
    intro Q h
    unfold Builtin.Slice.sliceApplied Builtin.Slice.sliceFields
    refine wpAny_bind (wpAny_bind (wpAny_field hos hds (x := .int i u) rfl (wpAny_bind (wpAny_field hos hds (x := vu) rfl (wpAny_bind (wpAny_field hos hds (x := .none) rfl (wpAny_pure ?_)))))))
    refine wpAny_bind (slicePart_none ?_)
    rw [if_neg (by decide)]
    refine wpAny_bind (slicePart_int ?_)
    have part : ∀ {Q : Option Int → Shared → Prop}, Q hi s → wpAny (model prog w) A.in1 (Builtin.Slice.slicePartIndex vu) Q (fun e s => E e s) s := by
      intro Q h
      cases pu with
      | none => exact slicePart_none h
      | int i t => exact slicePart_int h
    refine wpAny_bind (part (wpAny_bind (wpAny_pure ?_)))
    show wpAny _ _ (match Builtin.Slice.sliceAdjust (some (i : Int)) hi 1 (items.size : Int) with | (lo, hi) => pure (lo, (1 : Int), Builtin.Slice.slicePlaces lo hi 1)) _ _ s
    rw [adj]
    show wpAny _ _ (pure ((i : Int), (1 : Int), Builtin.Slice.slicePlaces (i : Int) (j : Int) 1)) _ _ s
    rw [pl]
    exact wpAny_pure h
  refine wpAny_bind (go ?_)
  show wpAny _ _ (if ((i : Int) == 0 && (1 : Int) == 1 && (j - i) == items.size) = true then _ else _) _ _ s
  have pick : ((List.range (j - i)).filterMap fun (k : Nat) => items[((i : Int) + (k : Int) * 1).toNat]?).toArray = ((items.toList.drop i).take (j - i)).toArray := by
    have e : (fun (k : Nat) => items[((i : Int) + (k : Int) * 1).toNat]?) = fun k => items[i + k]? := by
      funext k
      have : ((i : Int) + (k : Int) * 1).toNat = i + k := by omega
      rw [this]
    rw [e]
    have := pick_run items i (j - i)
    rw [List.filterMap_map] at this
    exact congrArg List.toArray this
  rw [if_neg (by rw [show ((i : Int) == 0) = false from beq_eq_false_iff_ne.mpr (by omega)]; exact Bool.false_ne_true), pick]
  first
    | exact wpAny_bind (m := Builtin.Tuple.tupleExact _) (wpAny_newObj_type (wpAny_pure ⟨_, rfl, wpAny_pure h⟩) hdrop)
    | exact wpAny_bind (m := Builtin.Tuple.tupleExact _) (wpAny_newObj_type (wpAny_bind (wpAny_pure (wpAny_pure ⟨_, rfl, wpAny_pure h⟩))) hdrop)
    | exact wpAny_bind (wpAny_bind (m := Builtin.Tuple.tupleExact _) (wpAny_newObj_type (wpAny_pure (wpAny_pure ⟨_, rfl, wpAny_pure h⟩)) hdrop))
    | exact wpAny_bind (wpAny_bind (m := Builtin.Tuple.tupleExact _) (wpAny_newObj_type (wpAny_pure ⟨_, rfl, wpAny_pure h⟩) hdrop))
end
end
end Mine
namespace Mine
open PySem PyProof.Rows PySem.W
noncomputable section
section
variable {S : Type} {C : Cst S} {F : Fr} {W : Wd S} {α β ε : Type} {t : Sem β} {r : RF S α} {R : Rl S α β} {a b : V} {x y : Value}
theorem Fut.grow (T : Sat C F W) {h' : Heap} {tk : Nat} (k : Kp W.h h') : Fut C F [] W { W with h := h', tk := tk } := ⟨T, T.keeps k, .of_keeps k⟩
theorem Run.first {t : Sem ε} {k : ε → Sem β} {G : ε → Heap → Prop} (h : Sat C F W → ∀ (Q : ε → Shared → Prop) E, (∀ y h' tk, Kp W.h h' → G y h' → Q y (C.sh h' tk)) → wpAny C.M F.A t Q E (C.st W))
    (K : ∀ y h' tk, Fut C F [] W { W with h := h', tk := tk } → Kp W.h h' → G y h' → Run C F { W with h := h', tk := tk } (k y) r R) : Run C F W (t >>= k) r R := ⟨fun T Q E p =>
  wpC_bind (wpC_of (h T (fun y s' => wpC C.M F.A (k y) Q E s') E fun y h' tk kp g => have z := Fut.grow T kp; (K y h' tk z kp g).go z.S1 Q E (Ens.later z p)))⟩
theorem Run.newO {t : Sem Value} {o : MO} (ok : DmOk C.D C.p) (h : Sat C F W → ∀ (Q : Value → Shared → Prop) E, (∀ a d h' tk, Kp W.h h' → (∀ x, (x = a ∨ d = some x) → W.h.get? x = none) → (∀ {ι}, Lat [] F.envs W.ι ι W.h h' → OR C.prog C.w C.p h' ι a d o) → Q (.ref a) (C.sh h' tk)) → wpAny C.M F.A t Q E (C.st W)) :
    Run C F W t (pushF C.D W.σ o fun i s => .ok (.obj i) s) (VV C) := ⟨fun T Q E p => by
  unfold pushF at p
  cases e : C.D.push W.σ o with
  | none => rw [e] at p; exact p.elim
  | some σ' =>
    rw [e] at p
    refine wpC_of (h T Q E fun a d h' tk k fr O => ?_)
    have L := Lat.more (envs := F.envs) (ι := W.ι) k fr
    have pl : Pl (W.ι ++ [(a, d)]) (C.D.len W.σ) a d := T.len ▸ .new
    exact p ⟨W.ι ++ [(a, d)], σ', h', tk⟩ (.ref a) rfl ⟨T, T.more ok k fr e (O L), L⟩ ⟨a, d, pl, rfl⟩⟩
theorem Run.newL {t : Sem Value} {l : List V} (ok : DmOk C.D C.p) (h : Sat C F W → ∀ (Q : Value → Shared → Prop) E, (∀ a h' tk ws n, Kp W.h h' → W.h.get? a = none → h'.get? a = some { cls := .type "list", data := .seq (List.toArray ws) n } → VVL C W l ws → Q (.ref a) (C.sh h' tk)) → wpAny C.M F.A t Q E (C.st W)) :
    Run C F W t (newLF C.D W.σ l) (VV C) :=
  .newO ok fun T Q E p => h T Q E fun a h' tk ws n k fr g r => p a none h' tk k (fun x q => q.elim (fun q => q ▸ fr) fun q => nomatch q) fun L => ⟨rfl, n, ws, g, VRL.mono T L NoTup.nil _ r⟩
theorem not_there {h h' : Heap} (k : Kp h h') : h.get? h'.objs.size = none := by
  cases e : h.get? h'.objs.size with
  | none => rfl
  | some o => exact absurd (Heap.lt_size (k _ _ e)) (Nat.lt_irrefl _)
theorem Kp.push (h : Heap) (o : Obj) : Kp h (h.push o) := fun _ _ e => Heap.get?_push_of_some _ e
theorem cut_run (O : Okay C) {value lo hi : PySem.Expr} {slo shi : Option PySem.Expr} {pos q : Pos} {va vb : Option V} {vl vu : Value} (ra : VV C W a x) (r1 : PR C W va vl) (r2 : PR C W vb vu) :
    Run C F W (newFields "slice" [vl, vu, .none] >>= fun i => standAt q >>= fun _ => subscriptTail value (.Slice slo shi .none pos) x i) (cutF C.D C.P a va vb W.σ) (VV C) := by
  have ok := O.ok
  refine .first (G := fun y h' => ∃ sl, y = .ref sl ∧ h'.IsSliceOf sl vl vu .none) (fun T Q E p => ?_) fun y h' tk z kp q1 => ob_EA q1 fun sl e hs => ?_
  · unfold newFields
    exact wpAny_newObj_type (p _ _ W.tk (Kp.push _ _) ⟨_, rfl, Heap.IsSliceOf.new _ _ _ _⟩)
  subst e
  have ra := ra.mono z
  refine .stand (.oo fun oa ea => .oo fun ob eb => ?_)
  have pa := r1.part ea
  have pb := r2.part eb
  have hsub : ∀ o, subscripted (.Slice slo shi .none pos) false o (.ref sl) = operate [.ref sl, o] (getItem o (.ref sl)) := fun o => rfl
  refine .xE (W := ⟨W.ι, W.σ, h', tk⟩) (k := fun x => subscriptTail value (.Slice slo shi .none pos) x (.ref sl)) ra .bad (fun _ => .bad) (fun _ _ => .bad) (fun _ _ => .bad) (fun l t hb => ?_) (fun l t ws ht r => ?_) (fun _ _ _ _ => .bad) (fun l => ?_) fun _ => .bad
  · refine .on fun v e => tail_run ⟨_, _, typeIs_bytes _ _ _, FB.slot_bytes_getitem.lookup⟩ (.lib fun T Q E p => ?_) (hsub _)
    refine ob_EEAAAAAAA (ok.cutb e) fun i j h1 h2 h3 h4 h5 h6 h7 h8 => ?_
    refine getItem_meets (typeIs_bytes _ _ _) (by decide) FB.slot_bytes_getitem FB.entry_bytes_getitem (FB.args_bytes_getitem_2 _ _) (KBc.meets_slice2 _ t _ pa pb) ⟨hs, Nat.le_trans (KBc.size_picked_le _ _ _) (by rw [toB_size]; exact Nat.le_trans (Nat.le_of_lt h7) (by decide)), fun t' k => ?_⟩
    have e1 : (oa.map C.p.f).elim 0 (PySem.clipAt (toB (l.flatMap C.p.tok)).size) = i := by
      cases oa with
      | none => exact (h2 rfl).symm
      | some z => exact (congrArg (PySem.clipAt _) (h1 z rfl)).trans ((PySem.clipAt_nat _ _).trans (Nat.min_eq_left (by rw [toB_size]; exact Nat.le_trans h5 h6)))
    have e2 : (ob.map C.p.f).elim (toB (l.flatMap C.p.tok)).size (PySem.clipAt (toB (l.flatMap C.p.tok)).size) = j := by
      cases ob with
      | none => exact (toB_size _).trans (h4 rfl).symm
      | some z => exact (congrArg (PySem.clipAt _) (h3 z rfl)).trans ((PySem.clipAt_nat _ _).trans (Nat.min_eq_left (by rw [toB_size]; exact h6)))
    rw [KBc.picked_eq, e1, e2]
    refine p _ k ⟨⟨t', ?_⟩, fun c m => hb c (List.mem_of_mem_drop (List.mem_of_mem_take (h8 ▸ m)))⟩
    rw [h8]; unfold toB; rw [List.map_take, List.map_drop]
  · refine .oo fun i e1 => .oo fun m e2 => .oo fun j e3 => .gd fun g1 => .gd fun g2 => .gd fun g3 => .gd fun g4 => tail_run ⟨_, _, ht.typeIs, slot_tuple_getitem.lookup⟩ (.grow fun T Q E p => ?_) (hsub _)
    subst e1
    have hsz : ws.toArray.size = lenF l := VVL.size r
    cases vl <;> try (first | (cases pa; done) | skip)
    rename_i zi u
    cases pa
    rw [(ok.nat e2).1] at hs
    have hj : (ob.map C.p.f).elim (ws.toArray.size : Int) id = (j : Int) := by
      cases ob with
      | none => (injection e3 with z1; subst z1); rw [hsz]; rfl
      | some z => exact (ok.nat e3).1
    refine slice_get C.prog C.w ht hs pb hj (Nat.ble_eq.mp g1) (Nat.ble_eq.mp g2) (by rw [hsz]; exact Nat.ble_eq.mp g3) (p _ _ tk (Kp.push _ _) ⟨_, _, rfl, ⟨_, Heap.get?_push_size _ rfl, rfl, _, rfl⟩, ?_⟩) (by rw [hsz]; exact Nat.le_trans (Nat.ble_eq.mp g4) (by decide))
    rw [takeF_eq, dropF_eq]
    exact VRL.mono T (Lat.of_keeps (Kp.push _ _)) NoTup.nil _ ((VRL.drop m r).take (j - m))
  · refine .oo fun l' e1 => ?_
    cases oa with
    | some _ => exact .bad
    | none =>
      refine .oo fun j e2 => .oo fun n e3 => .gd fun g => ?_
      subst e2
      refine ob_EA (O.lst l l' e1) fun ws z1 r => ?_; refine ob_EAA z1 fun ol h1 h2 h3 => ?_
      refine .sat fun T => ?_
      have L : h'.IsList l ws.toArray := ⟨ol, T.stays _ _ h1, h2, h3⟩
      have hsz : ws.toArray.size = lenF l' := VVL.size (C := C) (W := W) (r _ _)
      refine tail_run (W := ⟨W.ι, W.σ, h', tk⟩) ⟨_, _, L.typeIs, slot_list_getitem.lookup⟩ (.newL ok fun T Q E p => ?_) (hsub _)
      refine wpAny_getItem_list_slice L hs pa pb .none (fun q => nomatch q) ?_ (by rw [hsz]; exact Nat.le_trans (Nat.ble_eq.mp g) (by decide))
      rw [show (some j).map C.p.f = some ((n : Nat) : Int) from congrArg some (ok.nat e3).1, show (none : Option Int).map C.p.f = none from rfl, slicePick_upto']
      refine p _ _ tk (ws.take n) 0 (Kp.push _ _) (get_fresh _) (Heap.get?_push_size _ rfl) ?_
      rw [takeF_eq]
      exact VRL.take n (r _ _)
end
end
end Mine
namespace Mine
open PySem PyProof.Rows PySem.W
open PySem.Builtin PySem.Builtin.Str
namespace FM
theorem slot_bjoin : Slot "bytes" "join" "bytes.join" :=
  .of (owner := "bytes") (n := "join") (by rw [typeLookup_type, builtinLookup_eq_fast]; kernel_rfl) (by decide +kernel) (by decide +kernel) (by decide +kernel)
    (by first | exact .inl (by decide +kernel) | exact .inr (by decide +kernel)) (by rw [isSubtype_type]; kernel_rfl)
theorem type_bjoin : typeOf (.builtin "bytes.join") = pure (.type "method_descriptor") := by show builtinType _ = _; rw [builtinType_eq_fast]; kernel_rfl
theorem entry_bjoin : entryFor table "bytes.join" = some Builtin.«bytes.join» := entryFor_of_tree (by kernel_rfl)
theorem args_bjoin (a b : Value) : argsOk "bytes.join" ⟨[a, b], []⟩ := by unfold argsOk; kernel_rfl
theorem plainAttrs_barr : PlainAttrs "bytearray" :=
  ⟨⟨"bytearray.__getattribute__", by rw [typeLookup_type, builtinLookup_eq_fast]; kernel_rfl, by decide +kernel⟩, by rw [typeLookup_type, builtinLookup_eq_fast]; kernel_rfl⟩
theorem slot_bappend : Slot "bytearray" "append" "bytearray.append" :=
  .of (owner := "bytearray") (n := "append") (by rw [typeLookup_type, builtinLookup_eq_fast]; kernel_rfl) (by decide +kernel) (by decide +kernel) (by decide +kernel)
    (by first | exact .inl (by decide +kernel) | exact .inr (by decide +kernel)) (by rw [isSubtype_type]; kernel_rfl)
theorem type_bappend : typeOf (.builtin "bytearray.append") = pure (.type "method_descriptor") := by show builtinType _ = _; rw [builtinType_eq_fast]; kernel_rfl
theorem entry_bappend : entryFor table "bytearray.append" = some Builtin.«bytearray.append» := entryFor_of_tree (by kernel_rfl)
theorem args_bappend (a b : Value) : argsOk "bytearray.append" ⟨[a, b], []⟩ := by unfold argsOk; kernel_rfl
theorem slot_bextend : Slot "bytearray" "extend" "bytearray.extend" :=
  .of (owner := "bytearray") (n := "extend") (by rw [typeLookup_type, builtinLookup_eq_fast]; kernel_rfl) (by decide +kernel) (by decide +kernel) (by decide +kernel)
    (by first | exact .inl (by decide +kernel) | exact .inr (by decide +kernel)) (by rw [isSubtype_type]; kernel_rfl)
theorem type_bextend : typeOf (.builtin "bytearray.extend") = pure (.type "method_descriptor") := by show builtinType _ = _; rw [builtinType_eq_fast]; kernel_rfl
theorem entry_bextend : entryFor table "bytearray.extend" = some Builtin.«bytearray.extend» := entryFor_of_tree (by kernel_rfl)
theorem args_bextend (a b : Value) : argsOk "bytearray.extend" ⟨[a, b], []⟩ := by unfold argsOk; kernel_rfl
end FM
namespace FM
theorem buf_bytes : typeLookup (.type "bytes") "__buffer__" = pure (some (.builtin "bytes.__buffer__")) := by rw [typeLookup_type, builtinLookup_eq_fast]; kernel_rfl
theorem rel_bytes : typeLookup (.type "bytes") "__release_buffer__" = pure none := by rw [typeLookup_type, builtinLookup_eq_fast]; kernel_rfl
theorem buf_barr : typeLookup (.type "bytearray") "__buffer__" = pure (some (.builtin "bytearray.__buffer__")) := by rw [typeLookup_type, builtinLookup_eq_fast]; kernel_rfl
theorem rel_barr : typeLookup (.type "bytearray") "__release_buffer__" = pure (some (.builtin "bytearray.__release_buffer__")) := by rw [typeLookup_type, builtinLookup_eq_fast]; kernel_rfl
theorem e1 : "bytes.__buffer__".endsWith ("." ++ "__buffer__") = true := by decide +kernel
theorem e2 : "bytes.__buffer__".dropRight ("__buffer__".length + 1) = "bytes" := by decide +kernel
theorem e3 : "bytearray.__buffer__".endsWith ("." ++ "__buffer__") = true := by decide +kernel
theorem e4 : "bytearray.__buffer__".dropRight ("__buffer__".length + 1) = "bytearray" := by decide +kernel
theorem e5 : "bytearray.__release_buffer__".endsWith ("." ++ "__release_buffer__") = true := by decide +kernel
theorem e6 : "bytearray.__release_buffer__".dropRight ("__release_buffer__".length + 1) = "bytearray" := by decide +kernel
theorem sub_barr : isSubtype (.type "bytearray") (.type "bytearray") = pure true := by rw [isSubtype_type]; kernel_rfl
end FM
section
variable {M : Model} {prog : Program} {w : World} {A : Around} {s : Shared} {E : Value → Shared → Prop}
theorem own_bytes {b : Array UInt8} {t : Tok} {Q : Bool → Shared → Prop} (h : Q true s) : wpAny M A (Bytes.slotIsOwn (.bytes b t) "__buffer__") Q E s := by
  unfold Bytes.slotIsOwn
  refine wpAny_bind (wpAny_specialOf (typeIs_bytes s b t) FM.buf_bytes ?_)
  dsimp only
  rw [FM.e1, FM.e2]
  exact wpAny_isInstance (typeIs_bytes s b t) F.sub_bytes_bytes h
theorem ownrel_bytes {b : Array UInt8} {t : Tok} {Q : Bool → Shared → Prop} (h : Q false s) : wpAny M A (Bytes.ownRelease (.bytes b t)) Q E s := by
  unfold Bytes.ownRelease Bytes.slotIsOwn
  refine wpAny_bind (wpAny_bind (wpAny_specialOf (typeIs_bytes s b t) FM.rel_bytes ?_))
  exact wpAny_pure (wpAny_pure h)
theorem buffer_bytes {id : String} {full : Bool} {b : Array UInt8} {t : Tok} {Q : Option (Array UInt8) → Shared → Prop} (h : Q (some b) s) : wpAny M A (Bytes.buffer? id (.bytes b t) full) Q E s := by
  unfold Bytes.buffer?
  refine wpAny_bind (wpAny_specialOf (typeIs_bytes s b t) FM.buf_bytes ?_)
  refine wpAny_bind (own_bytes ?_)
  refine wpAny_ite ?_
  rw [if_neg (by decide)]
  refine wpAny_bind (wpAny_pure ?_)
  refine wpAny_bind (ownrel_bytes ?_)
  refine wpAny_ite ?_
  rw [if_neg (by decide)]
  refine wpAny_bind ?_
  unfold Bytes.payload Bytes.payload?
  exact wpAny_bind (wpAny_pure (wpAny_pure (wpAny_pure h)))
theorem takeBuffer_bytes {id : String} {b : Array UInt8} {t : Tok} {Q : Option (Array UInt8 × Option Value) → Shared → Prop} (h : Q (some (b, none)) s) : wpAny M A (Bytes.takeBufferQuiet? id (.bytes b t) 0) Q E s := by
  unfold Bytes.takeBufferQuiet?
  refine wpAny_bind (wpAny_attempt ?_)
  unfold Bytes.takeBuffer?
  refine wpAny_bind (wpAny_specialOf (typeIs_bytes s b t) FM.buf_bytes ?_)
  refine wpAny_bind (own_bytes ?_)
  refine wpAny_ite ?_
  rw [if_neg (by decide)]
  refine wpAny_bind (wpAny_pure ?_)
  exact wpAny_bind (buffer_bytes (wpAny_pure (wpAny_pure h)))
variable {b c : Array UInt8} {a : Addr} {k : Nat}
theorem own_barr (g : s.heap.get? a = some { cls := .type "bytearray", data := .bytearray b k }) {Q : Bool → Shared → Prop} (h : Q true s) : wpAny M A (Bytes.slotIsOwn (.ref a) "__buffer__") Q E s := by
  have hT : s.TypeIs (.ref a) "bytearray" := ⟨_, g, rfl⟩
  unfold Bytes.slotIsOwn
  refine wpAny_bind (wpAny_specialOf hT FM.buf_barr ?_)
  dsimp only
  rw [FM.e3, FM.e4]
  exact wpAny_isInstance hT FM.sub_barr h
theorem ownrel_barr (g : s.heap.get? a = some { cls := .type "bytearray", data := .bytearray b k }) {Q : Bool → Shared → Prop} (h : Q false s) : wpAny M A (Bytes.ownRelease (.ref a)) Q E s := by
  have hT : s.TypeIs (.ref a) "bytearray" := ⟨_, g, rfl⟩
  unfold Bytes.ownRelease Bytes.slotIsOwn
  refine wpAny_bind (wpAny_bind (wpAny_specialOf hT FM.rel_barr ?_))
  dsimp only
  rw [FM.e5, FM.e6]
  exact wpAny_isInstance hT FM.sub_barr (wpAny_pure h)
theorem payload_barr (g : s.heap.get? a = some { cls := .type "bytearray", data := .bytearray b k }) {Q : Array UInt8 → Shared → Prop} (h : Q b s) : wpAny M A (Bytes.payload (.ref a)) Q E s := by
  unfold Bytes.payload Bytes.payload?
  exact wpAny_bind (wpAny_bind (wpAny_load g (wpAny_pure (wpAny_pure h))))
theorem buffer_barr {id : String} {full : Bool} (g : s.heap.get? a = some { cls := .type "bytearray", data := .bytearray b k }) {Q : Option (Array UInt8) → Shared → Prop} (h : Q (some b) s) : wpAny M A (Bytes.buffer? id (.ref a) full) Q E s := by
  have hT : s.TypeIs (.ref a) "bytearray" := ⟨_, g, rfl⟩
  unfold Bytes.buffer?
  refine wpAny_bind (wpAny_specialOf hT FM.buf_barr ?_)
  refine wpAny_bind (own_barr g ?_)
  refine wpAny_ite ?_
  rw [if_neg (by decide)]
  refine wpAny_bind (wpAny_specialOf hT FM.buf_barr ?_)
  refine wpAny_bind (ownrel_barr g ?_)
  refine wpAny_ite ?_
  rw [if_neg (by decide)]
  exact wpAny_bind (payload_barr g (wpAny_pure h))
theorem write_barr {f : Array UInt8 → Array UInt8} (g : s.heap.get? a = some { cls := .type "bytearray", data := .bytearray b 0 }) (hz : (f b).size ≤ sizeLine) {Q : Unit → Shared → Prop}
    (h : ∀ h', h'.get? a = some { cls := .type "bytearray", data := .bytearray (f b) 0 } → Heap.SameBut a s.heap h' → Q () { s with heap := h' }) : wpAny M A (Bytes.write (.ref a) f) Q E s := by
  show wpAny _ _ (updateBytearray a f) _ _ _
  unfold updateBytearray
  refine wpAny_bind (wpAny_load g ?_)
  refine wpAny_bind (wpAny_update g ?_)
  have g2 : (s.heap.update a (Obj.mapBytearray f)).get? a = some { cls := .type "bytearray", data := .bytearray (f b) 0 } := Heap.get?_update_self (Obj.mapBytearray f) g rfl
  refine wpAny_lookBehind g2 ?_ (h _ g2 (Heap.SameBut.update ..))
  show (if (f b).size > sizeLine then some "bytearray:memory" else none) = none
  rw [if_neg (by omega)]
theorem checkResize_barr (g : s.heap.get? a = some { cls := .type "bytearray", data := .bytearray b 0 }) {Q : Unit → Shared → Prop} (h : Q () s) : wpC M A (Bytes.checkResize (.ref a)) Q E s := by
  unfold Bytes.checkResize
  refine wpC_bind ?_
  refine wpC_bind (wpC_exported ?_)
  refine wpC_of ?_
  unfold Bytes.exportsOf
  refine wpAny_bind (wpAny_bind (wpAny_load g (wpAny_pure (wpAny_pure ?_))))
  exact wpC_pure h
theorem codeC_call_builtin {id : String} {args : Args} {b : Builtin} {R : Result → Shared → Prop} (hq : plainId id = true) (hn : holdIds.contains id = false) (hb : entryFor table id = some b)
    (h : wpC (model prog w) A.in1 (checkBuiltinCall id args) (fun _ s₁ => wpC (model prog w) A.in1 (b args)
      (fun fin s' => match fin with | .done f => R (.ok f) s' | .again c' => c'.quiet = true ∧ codeC (model prog w) A c' R s') (fun e s' => R (.error e) s') s₁)
      (fun e s' => R (.error e) s') s) : codeC (model prog w) A (.call (.builtin id) args) R s := by
  refine codeC_of_tree rfl ?_
  show wpC _ A.in1 (do checkBuiltinCall id args; again (.builtin id args)) _ _ s
  refine wpC_bind (wpC_monoQ h fun _ s₁ h₁ => wpC_pure (And.intro (plainId_quiet hq args) (codeC_of_tree hn ?_)))
  rw [Around.under_plainId hq args]
  show wpC _ _ (match entryFor table id with | some b => b args | none => unsupported ((withoutEnding? id "#data").getD id)) _ _ s₁
  rw [hb]; exact h₁
theorem call_slotC {T : String} {name : Str} {id : String} {B : Builtin} {self : Value} {rest : List Value} {Q : Value → Shared → Prop} (slot : Slot T name id) (hn : holdIds.contains id = false) (hT : s.TypeIs self T)
    (entry : entryFor table id = some B) (args : argsOk id ⟨self :: rest, []⟩) (h : wpC (model prog w) A.in1 (B ⟨self :: rest, []⟩) (fun fin s' => ∃ v, fin = .done (.ret v) ∧ Q v s') E s) :
    wpC (model prog w) A (call (.builtin id) (self :: rest)) Q E s :=
  wpC_call (codeC_call_builtin slot.plain hn entry (wpC_of (slot.check _ _ _ _ _ _ _ _ hT args (wpC_monoQ h fun fin s' h' => by refine ob_EA h' fun v z1 hv => ?_; subst z1; exact hv))))
theorem append_call {n : Int} {t : Tok} (g : s.heap.get? a = some { cls := .type "bytearray", data := .bytearray b 0 }) (h0 : 0 ≤ n) (h1 : n < 256) (hz : b.size < sizeLine) {Q : Value → Shared → Prop}
    (h : ∀ h', h'.get? a = some { cls := .type "bytearray", data := .bytearray (b.push n.toNat.toUInt8) 0 } → Heap.SameBut a s.heap h' → Q .none { s with heap := h' }) :
    wpC (model prog w) A (call (.builtin "bytearray.append") [.ref a, .int n t]) Q E s := by
  refine call_slotC FM.slot_bappend (by decide) ⟨_, g, rfl⟩ FM.entry_bappend (FM.args_bappend _ _) ?_
  unfold Builtin.«bytearray.append»
  refine wpC_bind (wpC_of_eq (a := (Value.ref a, Value.int n t)) rfl ?_)
  refine wpC_bind ?_
  unfold Bytes.byteValue
  refine wpC_bind (wpC_of_eq (a := n) rfl ?_)
  rw [if_neg (by simp only [Bool.or_eq_true, decide_eq_true_eq]; omega)]
  refine wpC_pure ?_
  refine wpC_bind (checkResize_barr g ?_)
  refine wpC_bind (wpC_of (write_barr g (by rw [Array.size_push]; omega) fun h' g' hs => ?_))
  exact wpC_pure ⟨_, rfl, h h' g' hs⟩
theorem extend_call {t : Tok} (g : s.heap.get? a = some { cls := .type "bytearray", data := .bytearray b 0 }) (hz : b.size + c.size ≤ sizeLine) {Q : Value → Shared → Prop}
    (h : ∀ h', h'.get? a = some { cls := .type "bytearray", data := .bytearray (b ++ c) 0 } → Heap.SameBut a s.heap h' → Q .none { s with heap := h' }) :
    wpC (model prog w) A (call (.builtin "bytearray.extend") [.ref a, .bytes c t]) Q E s := by
  refine call_slotC FM.slot_bextend (by decide) ⟨_, g, rfl⟩ FM.entry_bextend (FM.args_bextend _ _) ?_
  unfold Builtin.«bytearray.extend»
  refine wpC_bind (wpC_of_eq (a := (Value.ref a, Value.bytes c t)) rfl ?_)
  refine wpC_bind (wpC_of (wpAny_specialOf (typeIs_bytes s c t) FM.buf_bytes ?_))
  rw [if_pos (by decide)]
  refine wpC_bind (wpC_rule ?_)
  refine wpC_bind (wpC_of (payload_barr g ?_))
  refine wpC_bind (wpC_of (takeBuffer_bytes ?_))
  show wpC _ _ (if (!c.isEmpty) = true then (do Bytes.checkResize (.ref a); Bytes.write (.ref a) (· ++ c); ret .none) else (do Bytes.write (.ref a) (· ++ c); ret .none)) _ _ _
  have tail : wpC (model prog w) A.in1 (do Bytes.write (.ref a) (· ++ c); ret .none) (fun fin s' => ∃ v, fin = .done (.ret v) ∧ Q v s') E s := by
    refine wpC_bind (wpC_of (write_barr g (by rw [Array.size_append]; omega) fun h' g' hs => ?_))
    exact wpC_pure ⟨_, rfl, h h' g' hs⟩
  by_cases e : (!c.isEmpty) = true
  · rw [if_pos e]
    exact wpC_bind (checkResize_barr g tail)
  · rw [if_neg e]
    exact tail
end
namespace FM
theorem mro_barr : mroOf (.type "bytearray") = pure [.type "bytearray", .type "object"] := by rw [mroOf_type]; kernel_rfl
theorem lookup_barr_new : typeLookup (.type "bytearray") "__new__" = pure (some (.builtin "bytearray.__new__")) := by rw [typeLookup_type, builtinLookup_eq_fast]; kernel_rfl
theorem slot_barr_init : Slot "bytearray" "__init__" "bytearray.__init__" :=
  .of (owner := "bytearray") (n := "__init__") (by rw [typeLookup_type, builtinLookup_eq_fast]; kernel_rfl) (by decide +kernel) (by decide +kernel) (by decide +kernel)
    (by first | exact .inl (by decide +kernel) | exact .inr (by decide +kernel)) (by rw [isSubtype_type]; kernel_rfl)
theorem called_barr : TypeCalled "bytearray" "bytearray.__new__" "bytearray.__init__" :=
  ⟨by decide +kernel, by decide +kernel, ⟨_, _, mro_barr⟩, madeBy_type mro_barr lookup_barr_new (by decide +kernel), by decide +kernel, by rw [isSubtype_type]; kernel_rfl, slot_barr_init⟩
theorem typeCall_barr : checkTypeCall "bytearray" ⟨[], []⟩ = pure () := by kernel_rfl
theorem newCall_barr : checkBuiltinCall "bytearray.__new__" ⟨[.type "bytearray"], []⟩ = pure () := by kernel_rfl
theorem entry_barr_new : entryFor table "bytearray.__new__" = some Builtin.«list.__new__» :=
  entryFor_alias (id' := "list.__new__") (by kernel_rfl) (by first | rfl | decide +kernel) (by decide +kernel) (by kernel_rfl)
theorem entry_barr_init : entryFor table "bytearray.__init__" = some Builtin.«bytearray.__init__» := by first | exact entryFor_of_fast (by kernel_rfl) | exact entryFor_of_tree (by kernel_rfl)
theorem plain_barr_new : plainId "bytearray.__new__" = true := by decide +kernel
theorem args_barr_init (a : Value) : argsOk "bytearray.__init__" ⟨[a], []⟩ := by unfold argsOk; kernel_rfl
set_option maxRecDepth 1000000 in
set_option maxHeartbeats 4000000 in
theorem owner_barr_new : ("bytearray.__new__".splitOn ".__new__").headD "" = "bytearray" := by simp +decide [String.splitOn, String.splitOnAux]
theorem bind_barr : Bytes.bindOptional "bytearray.__init__" "bytearray" ["source", "encoding", "errors"] [] [] = pure [none, none, none] := by kernel_rfl
theorem barr_no_bytes : typeLookup (.type "bytearray") "__bytes__" = pure none := by rw [typeLookup_type, builtinLookup_eq_fast]; kernel_rfl
theorem barr_no_index : typeLookup (.type "bytearray") "__index__" = pure none := by rw [typeLookup_type, builtinLookup_eq_fast]; kernel_rfl
theorem bytes_bytes : typeLookup (.type "bytes") "__bytes__" = pure (some (.builtin "bytes.__bytes__")) := by rw [typeLookup_type, builtinLookup_eq_fast]; kernel_rfl
end FM
section
variable {M : Model} {prog : Program} {w : World} {A : Around} {s : Shared} {E : Value → Shared → Prop} {b : Array UInt8} {a : Addr} {Q : Value → Shared → Prop}
theorem codeC_builtin {id : String} {args : Args} {b : Builtin} {R : Result → Shared → Prop} (hn : holdIds.contains id = false) (hb : entryFor table id = some b)
    (h : wpC (model prog w) (A.under (.builtin id args)) (b args)
      (fun fin s' => match fin with | .done f => R (.ok f) s' | .again c' => c'.quiet = true ∧ codeC (model prog w) A c' R s') (fun e s' => R (.error e) s') s) :
    codeC (model prog w) A (.builtin id args) R s := by
  refine codeC_of_tree hn ?_
  show wpC _ _ (match entryFor table id with | some b => b args | none => unsupported ((withoutEnding? id "#data").getD id)) _ _ s
  rw [hb]; exact h
theorem code_barr_new {Q₁ : Value → Shared → Prop} (h : Q₁ (.ref s.heap.objs.size) { s with heap := s.heap.push { cls := .type "bytearray", data := .bytearray #[] } }) :
    codeAny (model prog w) A (.call (.builtin "bytearray.__new__") ⟨[.type "bytearray"], []⟩) (wants Q₁ E) s := by
  refine codeAny_of_tree ?_
  show wpAny _ A.in1 (do checkBuiltinCall "bytearray.__new__" ⟨[.type "bytearray"], []⟩; again (.builtin "bytearray.__new__" ⟨[.type "bytearray"], []⟩)) _ _ s
  refine wpAny_bind (wpAny_of_eq FM.newCall_barr (wpAny_pure ⟨plainId_quiet FM.plain_barr_new _, codeAny_builtin_stack FM.entry_barr_new rfl fun p st => ?_⟩))
  rw [Around.under_plainId FM.plain_barr_new _]
  have hsub := FM.sub_barr
  have hown := FM.owner_barr_new
  obtain ⟨hp, g, d, tk, os⟩ := s
  simp only [hown]
  wp_walk
  exact h
theorem barr_init (g : s.heap.get? a = some { cls := .type "bytearray", data := .bytearray #[] 0 })
    (h : ∀ h', h'.get? a = some { cls := .type "bytearray", data := .bytearray #[] 0 } → Heap.SameBut a s.heap h' → Q .none { s with heap := h' }) :
    wpC (model prog w) A (Builtin.«bytearray.__init__» ⟨[.ref a], []⟩) (fun fin s' => ∃ v, fin = .done (.ret v) ∧ Q v s') E s := by
  unfold Builtin.«bytearray.__init__»
  refine wpC_bind (wpC_of (ownrel_barr g ?_))
  rw [if_neg (by decide)]
  refine wpC_bind (wpC_of_eq FM.bind_barr ?_)
  refine wpC_bind (wpC_of_eq (a := ()) rfl ?_)
  refine wpC_bind (wpC_of_eq (a := ()) rfl ?_)
  refine wpC_bind ?_
  refine wpC_bind (wpC_exported ?_)
  refine wpC_of ?_
  unfold Bytes.exportsOf
  refine wpAny_bind (wpAny_bind (wpAny_load g (wpAny_pure (wpAny_pure ?_))))
  rw [if_neg (by decide)]
  refine wpC_bind (wpC_of (write_barr (f := fun _ => #[]) g (Nat.zero_le _) fun h' g' hs => ?_))
  exact wpC_bind (wpC_of_eq (a := ()) rfl (wpC_pure ⟨_, rfl, h h' g' hs⟩))
theorem typeCallC {T newId initId : String} {Bi : Builtin} {args : List Value} {Q₁ : Value → Shared → Prop} (ft : TypeCalled T newId initId)
    (hct : checkTypeCall T ⟨args, []⟩ = pure ()) (entryI : entryFor table initId = some Bi) (hni : holdIds.contains initId = false)
    (hnew : codeC (model prog w) A.in1 (.call (.builtin newId) ⟨.type T :: args, []⟩) (wants Q₁ E) s)
    (hnext : ∀ obj s₁, Q₁ obj s₁ → s₁.TypeIs obj T ∧ argsOk initId ⟨obj :: args, []⟩ ∧
      wpC (model prog w) A.in1.in1 (Bi ⟨obj :: args, []⟩) (fun fin s' => ∃ v, fin = .done (.ret v) ∧ v = .none ∧ Q obj s') E s₁) :
    wpC (model prog w) A (call (.type T) args) Q E s := by
  refine ob_EE ft.mro fun c tl hmro => ?_
  refine wpC_call (codeC_of_tree rfl ?_)
  refine wpC_pure ⟨Code.quiet_builtin _ (by decide +kernel), codeC_builtin (by decide) F.entry_type_call ?_⟩
  rw [Around.under_plain (weight_type_call_type T args []) rfl]
  unfold Builtin.«type.__call__»
  dsimp only
  rw [if_neg (by rw [ft.notType]; exact Bool.false_ne_true)]
  rw [if_neg (by rw [ft.canCreate]; exact Bool.false_ne_true)]
  refine wpC_bind (wpC_of_eq hct ?_)
  refine wpC_bind (wpC_of_eq hmro ?_)
  rw [if_neg (by simp)]
  refine wpC_bind (wpC_of_eq ft.made ?_)
  refine wpC_bind (wpC_pure ?_)
  refine wpC_bind (wpC_holding (wpC_call (codeC_mono hnew fun r s₁ hr => ?_)))
  cases r with
  | error e => exact hr
  | ok fl =>
    cases fl with
    | ret obj =>
      refine ob_AA (hnext _ _ hr) fun hT hok hsi => ?_
      refine wpC_bind (wpC_of (wpAny_isInstance hT ft.sub ?_))
      rw [if_neg (by decide)]
      refine wpC_bind (wpC_holding ?_)
      unfold callSpecial?
      refine wpC_bind (wpC_of (wpAny_specialOf hT ft.init.lookup ?_))
      refine wpC_holding (wpC_bind (wpC_of_eq (ft.init.bind obj) ?_))
      refine wpC_bind ?_
      refine wpC_call (codeC_call_builtin ft.init.plain hni entryI (wpC_of (ft.init.check _ _ _ _ _ _ _ _ hT hok (wpC_monoQ hsi fun fin s' h' => ?_))))
      refine ob_EAA h' fun v z1 z2 hq => ?_; subst z1; subst z2
      refine wpC_pure ?_
      dsimp only
      rw [if_neg (by decide)]
      exact wpC_pure hq
    | _ => exact hr.elim
theorem bytearray_call (h : ∀ h', (∀ b o, s.heap.get? b = some o → h'.get? b = some o) → h'.get? s.heap.objs.size = some { cls := .type "bytearray", data := .bytearray #[] 0 } → Q (.ref s.heap.objs.size) { s with heap := h' }) :
    wpC (model prog w) A (call (.type "bytearray") []) Q E s := by
  refine typeCallC (Q₁ := fun obj s₁ => obj = .ref s.heap.objs.size ∧ s₁ = { s with heap := s.heap.push { cls := .type "bytearray", data := .bytearray #[] } }) FM.called_barr FM.typeCall_barr FM.entry_barr_init (by decide)
    (codeC_of (code_barr_new ⟨rfl, rfl⟩)) fun obj s₁ h₁ => ?_
  obtain ⟨rfl, rfl⟩ := h₁
  have g : (s.heap.push { cls := .type "bytearray", data := .bytearray #[] }).get? s.heap.objs.size = some { cls := .type "bytearray", data := .bytearray #[] 0 } := Heap.get?_push_size _ rfl
  refine ⟨⟨_, g, rfl⟩, FM.args_barr_init _, ?_⟩
  refine wpC_monoQ (barr_init (Q := fun v s' => v = .none ∧ Q (.ref s.heap.objs.size) s') g fun h' g' hs => ⟨rfl, h h' (fun b o e => ?_) g'⟩) fun fin s' h' => h'
  have : b ≠ s.heap.objs.size := fun q => by have := Heap.lt_size e; rw [q] at this; exact Nat.lt_irrefl _ this
  exact (hs.2 b this).trans (Heap.get?_push_of_some _ e)
end
section
variable {M : Model} {prog : Program} {w : World} {A : Around} {s : Shared} {E : Value → Shared → Prop} {b : Array UInt8} {a : Addr} {Q : Value → Shared → Prop} {t : Tok}
theorem new_bytes (h : Q (.bytes b t) s) : codeAny (model prog w) A (.call (.builtin "bytes.__new__") ⟨[.type "bytes", .bytes b t], []⟩) (wants Q E) s := by
  refine codeAny_of_tree ?_
  show wpAny _ A.in1 (do checkBuiltinCall "bytes.__new__" ⟨[.type "bytes", .bytes b t], []⟩; again (.builtin "bytes.__new__" ⟨[.type "bytes", .bytes b t], []⟩)) _ _ s
  refine wpAny_bind (wpAny_of_eq (F.bm_newCall _) (wpAny_pure ⟨plainId_quiet F.bm_plain _, codeAny_builtin F.bm_entry ?_⟩))
  rw [Around.under_plainId F.bm_plain _]
  unfold Builtin.«bytes.__new__»
  refine wpAny_bind (wpAny_of_eq (a := true) rfl ?_)
  refine bm_if_false rfl ?_
  refine wpAny_bind (wpAny_of_eq F.bm_sub ?_)
  refine bm_if_false rfl ?_
  refine wpAny_bind (wpAny_of_eq (F.bm_bind _) ?_)
  refine wpAny_bind (wpAny_of_eq (a := ()) rfl ?_)
  refine wpAny_bind (wpAny_of_eq (a := ()) rfl ?_)
  refine bm_if_false rfl ?_
  refine wpAny_bind (wpAny_specialOf (typeIs_bytes s b t) FM.bytes_bytes ?_)
  refine wpAny_bind (wpAny_rule ?_)
  refine wpAny_bind (wpAny_typeOf (typeIs_bytes s b t) ?_)
  refine bm_if_true (by decide) ?_
  show wpAny _ _ (if (Value.type "bytes" == Value.type "bytes") = true then _ else _) _ _ _
  refine bm_if_true (by decide) ?_
  first
    | exact wpAny_pure h
    | exact wpAny_bind (wpAny_pure (wpAny_pure h))
theorem new_barr (g : s.heap.get? a = some { cls := .type "bytearray", data := .bytearray b 0 }) (hz : b.size ≤ sizeLine) (h : Q (.bytes b s.toks) { s with toks := s.toks + 1 }) :
    codeAny (model prog w) A (.call (.builtin "bytes.__new__") ⟨[.type "bytes", .ref a], []⟩) (wants Q E) s := by
  have hT : s.TypeIs (.ref a) "bytearray" := ⟨_, g, rfl⟩
  refine codeAny_of_tree ?_
  show wpAny _ A.in1 (do checkBuiltinCall "bytes.__new__" ⟨[.type "bytes", .ref a], []⟩; again (.builtin "bytes.__new__" ⟨[.type "bytes", .ref a], []⟩)) _ _ s
  refine wpAny_bind (wpAny_of_eq (F.bm_newCall _) (wpAny_pure ⟨plainId_quiet F.bm_plain _, codeAny_builtin F.bm_entry ?_⟩))
  rw [Around.under_plainId F.bm_plain _]
  unfold Builtin.«bytes.__new__»
  refine wpAny_bind (wpAny_of_eq (a := true) rfl ?_)
  refine bm_if_false rfl ?_
  refine wpAny_bind (wpAny_of_eq F.bm_sub ?_)
  refine bm_if_false rfl ?_
  refine wpAny_bind (wpAny_of_eq (F.bm_bind _) ?_)
  refine wpAny_bind (wpAny_of_eq (a := ()) rfl ?_)
  refine wpAny_bind (wpAny_of_eq (a := ()) rfl ?_)
  refine bm_if_false rfl ?_
  refine wpAny_bind (wpAny_specialOf hT FM.barr_no_bytes ?_)
  refine wpAny_bind (wpAny_bind ?_)
  refine wpAny_bind (wpAny_load g ?_)
  refine wpAny_pure (wpAny_pure ?_)
  refine bm_if_false rfl ?_
  refine wpAny_bind (wpAny_specialOf hT FM.barr_no_index ?_)
  refine bm_if_true rfl ?_
  first
    | show wpAny _ _ (Builtin.Bytes.buffer? "bytes.__new__" (.ref a) true >>= _) _ _ _
    | (refine wpAny_bind ?_; show wpAny _ _ (Builtin.Bytes.buffer? "bytes.__new__" (.ref a) true >>= _) _ _ _)
  refine wpAny_bind (buffer_barr g ?_)
  refine wpAny_bind (wpAny_rule ?_)
  refine wpAny_bind (wpAny_mkBytes ?_ hz)
  refine bm_if_true (by decide) ?_
  first
    | exact wpAny_pure h
    | exact wpAny_bind (wpAny_pure (wpAny_pure h))
    | exact wpAny_pure (wpAny_pure h)
theorem bytes_bytes (h : Q (.bytes b t) s) : wpAny (model prog w) A (call (.type "bytes") [.bytes b t]) Q E s := by
  refine callType_codes (Q₁ := fun obj s₁ => s₁.TypeIs obj "bytes" ∧ Q obj s₁) F.bm_called (F.bm_typeCall _) F.entry_object_init
    (new_bytes ⟨PySem.W.typeIs_bytes _ _ _, h⟩) fun obj s₁ h₁ => ?_
  exact ⟨h₁.1, F.args_object_init_2 obj _, object_init_meets F.bm_called.init.lookup F.bm_called.made (by decide) prog w A.in1 _ s₁ ⟨h₁.1, rfl, h₁.2⟩⟩
theorem bytes_barr (g : s.heap.get? a = some { cls := .type "bytearray", data := .bytearray b 0 }) (hz : b.size ≤ sizeLine) (h : Q (.bytes b s.toks) { s with toks := s.toks + 1 }) :
    wpAny (model prog w) A (call (.type "bytes") [.ref a]) Q E s := by
  refine callType_codes (Q₁ := fun obj s₁ => s₁.TypeIs obj "bytes" ∧ Q obj s₁) F.bm_called (F.bm_typeCall _) F.entry_object_init
    (new_barr g hz ⟨PySem.W.typeIs_bytes _ _ _, h⟩) fun obj s₁ h₁ => ?_
  exact ⟨h₁.1, F.args_object_init_2 obj _, object_init_meets F.bm_called.init.lookup F.bm_called.made (by decide) prog w A.in1 _ s₁ ⟨h₁.1, rfl, h₁.2⟩⟩
end
section
variable {M : Model} {prog : Program} {w : World} {A : Around} {s : Shared} {E : Value → Shared → Prop} {b : Array UInt8} {a : Addr} {Q : Value → Shared → Prop} {t : Tok}
theorem split_call {x y : PySem.Str} {t u : Tok} (hy : (y.length == 0) = false)
    (h : ∀ l k, l.map (·.1) = Txt.split x y → Q (.ref s.heap.objs.size) { s with heap := s.heap.push { cls := .type "list", data := .seq (strValues l).toArray }, toks := k })
    (hsz : x.length + 2 ≤ sizeLine) : wpAny (model prog w) A (call (.builtin "str.split") [.str x t, .str y u]) Q E s := by
  have hn : (partsBetween x (occurrences x y 0 x.length (x.length + 1)) y.length).length ≤ sizeLine := by
    have e1 := StrLaws.occ_length_le x y 0 x.length (x.length + 1)
    rw [length_partsBetween]; omega
  cases h1 : (decide (x.length < y.length) || decide (strKind x < strKind y))
  · cases hf : (occurrences x y 0 x.length (x.length + 1)).isEmpty
    · refine call_meets F.slot_str_split (typeIs_str _ _ _) F.entry_str_split (F.args_str_split_2 _ _) (meets_str_split_sep x y t u h1 hy hf (by omega) hn) ?_
      show wants Q E _ { s with toks := _, heap := s.heap.push { cls := .type "list", data := .seq (strsFrom s.toks (partsBetween x (occurrences x y 0 x.length (x.length + 1)) y.length)).toArray } }
      rw [strsFrom_eq]
      exact h (numbered s.toks _) _ ((numbered_texts _ _).trans ((if_neg (by rw [h1]; exact Bool.false_ne_true)).trans (if_neg (by rw [hf]; exact Bool.false_ne_true))).symm)
    · exact call_meets F.slot_str_split (typeIs_str _ _ _) F.entry_str_split (F.args_str_split_2 _ _) (meets_str_split_not_found x y t u h1 hy hf)
        (h [(x, t)] s.toks ((if_neg (by rw [h1]; exact Bool.false_ne_true)).trans (if_pos hf)).symm)
  · exact call_meets F.slot_str_split (typeIs_str _ _ _) F.entry_str_split (F.args_str_split_2 _ _) (meets_str_split_cannot_occur x y t u h1)
      (h [(x, t)] s.toks (if_pos h1).symm)
theorem seqItems_list {items : Array Value} {Q : Option (Array Value) → Shared → Prop} (L : s.heap.IsList a items) (h : Q (some items) s) : wpAny M A (seqItems? (.ref a)) Q E s := by
  refine ob_EAAE L fun o ho hc n hd => ?_
  unfold seqItems?
  refine wpAny_bind (wpAny_load ho ?_)
  rw [hd]
  exact wpAny_pure h
end
open PySem.Builtin.Bytes
section
variable {M : Model} {prog : Program} {w : World} {A : Around} {s : Shared} {E : Value → Shared → Prop} {a : Addr} {Q : Value → Shared → Prop} {t : Tok}
theorem wp_one {α : Type} {items : Array Value} {f : Value → Sem α} {g : Sem α} {Q : α → Shared → Prop} (h1 : ∀ x, items = #[x] → wpAny M A (f x) Q E s) (h2 : wpAny M A g Q E s) : wpAny M A (match items with | #[x] => f x | _ => g) Q E s := by
  obtain ⟨_ | ⟨x, _ | ⟨y, l⟩⟩⟩ := items
  · exact h2
  · exact h1 x rfl
  · exact h2
abbrev jv (p : Array UInt8 × Tok) : Value := Value.bytes p.1 p.2
abbrev jp2 (p : Array UInt8 × Tok) : Value × Option Value := (Value.bytes p.1 p.2, none)
theorem let_go {A : Around} (l : List (Array UInt8 × Tok)) : ∀ {v : Value} {Q : Unit → Shared → Prop} {s : Shared}, Q () s → wpAny M A (joinLetGo (l.map jp2) [v]) Q E s := by
  induction l with
  | nil => intro v Q s h; exact wpAny_pure h
  | cons p l ih => intro v Q s h; exact wpAny_bind (wpAny_letGo (ih h))
theorem range_turn {x i n : Nat} {rest : List Nat} (hr : x :: rest = List.range' i (n - i)) : x = i ∧ i < n ∧ rest = List.range' (i + 1) (n - (i + 1)) := by
  cases q : n - i with
  | zero => rw [q] at hr; injection hr
  | succ m =>
    rw [q, List.range'_succ] at hr
    refine ob_A (List.cons.inj hr) fun h1 h2 => ?_
    exact ⟨h1, Nat.lt_of_sub_pos (q ▸ Nat.succ_pos _), h2.trans (congrArg (List.range' (i + 1)) (congrArg Nat.pred q).symm)⟩
theorem join_at {ps : List (Array UInt8 × Tok)} {x : Nat} {p : Array UInt8 × Tok} (hp : ps[x]? = some p) : (ps.map jv).toArray.getD x .none = .bytes p.1 p.2 := by
  refine ob_E (List.getElem?_eq_some_iff.mp hp) fun h z1 => ?_; subst z1
  simp [Array.getD, h]
theorem join_off (l : List (Array UInt8 × Tok)) : ¬ (false || (l.map jp2).any (·.1.onHeap)) = true := by
  induction l with
  | nil => exact Bool.false_ne_true
  | cons p l ih => exact ih
theorem take_b {A : Around} {v : Value} {b : Array UInt8} {t : Tok} {l : List Value} {n : String} {Q : Option (Array UInt8 × Option Value) → Shared → Prop} (e : v = .bytes b t) (k : Q (some (b, none)) s) : wpAny (model prog w) A (holding (v :: l) (takeBufferQuiet? n v 0)) Q E s := by
  subst e
  exact wpAny_holding (takeBuffer_bytes k)
theorem not_bne {n : Nat} : ¬ (n != n) = true := by simp
theorem join_turn {ps : List (Array UInt8 × Tok)} {x : Nat} {p : Array UInt8 × Tok} (hp : ps[x]? = some p) {v : Value} (hx : v = jv p) : (((ps.take x).map (·.1)).toArray.push p.1, (ps.take x).map jp2 ++ [(v, none)]) = (((ps.take (x + 1)).map (·.1)).toArray, (ps.take (x + 1)).map jp2) := by
  rw [hx, List.take_add_one, hp]; simp
theorem range_end {i n : Nat} (hr : [] = List.range' i (n - i)) (hi : i ≤ n) : i = n := by
  cases q : n - i with
  | zero => exact Nat.le_antisymm hi (Nat.le_of_sub_eq_zero q)
  | succ m => rw [q] at hr; injection hr
theorem join_size {ps : List (Array UInt8 × Tok)} : List.range' 0 (Std.Legacy.Range.size [:(ps.map fun p => Value.bytes p.1 p.2).toArray.size]) = List.range' 0 (ps.length - 0) := by
  simp [Std.Legacy.Range.size]
theorem join_call {sep : Array UInt8} {ps : List (Array UInt8 × Tok)} (L : s.heap.IsList a (ps.map fun p => Value.bytes p.1 p.2).toArray) (hsz : (joined sep (ps.map (·.1))).size ≤ sizeLine)
    (hz : Builtin.Bytes.tooLong ((ps.map (·.1)).toArray.foldl (· + ·.size) (sep.size * ((ps.map (·.1)).toArray.size - 1))) = false) (h1 : ∀ p, ps = [p] → p.1 = joined sep (ps.map (·.1)))
    (h : ∀ u k, Q (.bytes (joined sep (ps.map (·.1))) u) { s with toks := k }) : wpAny (model prog w) A (call (.builtin "bytes.join") [.bytes sep t, .ref a]) Q E s := by
  refine call_meets (S := fun A R s' => s' = s ∧ ∀ u k, R (.ok (.ret (.bytes (joined sep (ps.map (·.1))) u))) { s with toks := k }) FM.slot_bjoin (typeIs_bytes _ _ _) FM.entry_bjoin (FM.args_bjoin _ _) (.of_wp fun prog w A R s1 hS => ?_) ⟨rfl, fun u k => h u k⟩
  obtain ⟨rfl, hR⟩ := hS
  unfold Builtin.«bytes.join» joinM
  refine wpAny_bind (wpAny_of_eq (a := (Value.bytes sep t, Value.ref a)) rfl ?_)
  unfold joinItems
  refine wpAny_bind (wpAny_bind (wpAny_typeOf (Heap.IsList.typeIs L) ?_))
  refine wp_pos ?c (wpAny_pure ?_); (case c => decide)
  refine wpAny_bind (seqItems_list L ?_)
  refine wp_pos ?c ?_; (case c => decide)
  refine wp_one (fun x e => ?_) ?_
  · obtain ⟨p, rfl, rfl⟩ : ∃ p, ps = [p] ∧ x = jv p := by
      rcases ps with _ | ⟨p, _ | ⟨q, l⟩⟩ <;> cases e
      exact ⟨p, rfl, rfl⟩
    refine wpAny_bind (wpAny_typeOf (typeIs_bytes _ _ _) ?_)
    refine wp_pos ?c (wpAny_bind (wpAny_rule ?_)); (case c => decide)
    have := hR p.2 s1.toks
    rw [← h1 p rfl] at this
    exact wpAny_pure ⟨_, rfl, this⟩
  refine wpAny_bind ?_
  rw [Std.Legacy.Range.forIn_eq_forIn_range']
  refine wpAny_forIn_list _ (fun rest st s' => s' = s1 ∧ ∃ i, rest = List.range' i (ps.length - i) ∧ i ≤ ps.length ∧ st = (((ps.take i).map (·.1)).toArray, (ps.take i).map jp2)) _ ?_ ?_ _ _ ⟨rfl, 0, ?_, Nat.zero_le _, rfl⟩
  · rintro x rest st s' ⟨rfl, i, hr, hi, rfl⟩
    obtain ⟨rfl, hlt, rfl⟩ := range_turn hr
    refine wpAny_bind (seqItems_list L ?_)
    refine wp_neg (join_off _) ?_
    have hp := List.getElem?_eq_getElem hlt
    refine wpAny_bind (take_b (join_at hp) ?_)
    refine wpAny_bind (seqItems_list L ?_)
    exact wp_neg not_bne (wpAny_pure ⟨rfl, x + 1, rfl, hlt, join_turn hp (join_at hp)⟩)
  · rintro st s' ⟨rfl, i, hr, hi, rfl⟩
    have z0 := range_end hr hi; subst z0
    refine wpAny_bind (wpAny_of_eq (a := sep) rfl ?_)
    refine wp_neg ?_ (wpAny_bind (wpAny_mkBytes (wpAny_bind (wpAny_holding (wpAny_point (wpAny_bind (let_go _ (wpAny_pure ⟨_, rfl, ?_⟩)))))) ?_))
    · rw [List.take_length]; exact fun q => Bool.noConfusion (q.symm.trans hz)
    · have e : joined sep ((ps.take ps.length).map (·.1)) = joined sep (ps.map (·.1)) := by rw [List.take_length]
      exact e ▸ hR _ _
    · rw [List.take_length]; exact hsz
  · exact join_size
theorem isi_bytes_no {b : Array UInt8} {t : Tok} {T : String} (hne : (Value.type "bytes" == Value.type T) = false) (hty : typeOf (.type T) = pure (.type "type"))
    (hsub : isSubtype (.type "bytes") (.type T) = pure false) (h : ∀ tk, Q (.bool false) { s with toks := tk }) : wpAny (model prog w) A (call (.builtin "isinstance") [.bytes b t, .type T]) Q E s := by
  have hT : s.TypeIs (.bytes b t) "bytes" := typeIs_bytes s b t
  refine call_isinstance_of ?_ (fun e => nomatch e)
  obtain ⟨hp, g, d, tk, os⟩ := s
  exact isinstance_nested_false_bytes hne hty hsub (h _)
end
end Mine
namespace Mine
open PySem PyProof.Rows PySem.W
open PySem.Builtin PySem.Builtin.Str
noncomputable section
theorem mapO_cons {α β : Type} {f : α → Option β} {a : α} {l : List α} {r : List β} (e : mapO f (a :: l) = some r) : ∃ b r', f a = some b ∧ mapO f l = some r' ∧ r = b :: r' := by
  refine ob_EA (oo_some e) fun b e1 e => ?_
  refine ob_EA (oo_some e) fun r' e2 e => ?_
  exact ⟨b, r', e1, e2, (Option.some.inj e).symm⟩
section
variable {p : Mp} {h : Heap} {ι : Io}
theorem VRL.cons_inv {v : V} {l : List V} {ws : List Value} (r : VRL p h ι (v :: l) ws) : ∃ w u, ws = w :: u ∧ VR p h ι v w ∧ VRL p h ι l u := by
  cases ws with
  | nil => exact r.elim
  | cons w u => exact ⟨w, u, rfl, r.1, r.2⟩
def mkS (s : List Nat) : Str := ⟨s.toArray⟩
theorem strs_are (l : List V) : ∀ {is : List (List Nat)} {ws : List Value}, mapO strOf l = some is → VRL p h ι l ws → StrsAre ws (is.map mkS) := by
  induction l with
  | nil => intro is ws e r; injection e with z1; subst z1; rw [show ws = [] from r]; exact .nil
  | cons v l ih =>
    intro is ws e r
    refine ob_EEAA (mapO_cons e) fun b r' e1 e2 z1 => ?_; subst z1
    refine ob_EEAA r.cons_inv fun w u z1 r1 r2 => ?_; subst z1
    refine ob_EA (vS_some e1) fun x z1 e1 => ?_; subst z1
    injection e1 with z1; subst z1
    refine ob_E r1 fun t z1 => ?_; subst z1
    exact .cons _ t (ih e2 r2)
theorem bools_are (l : List V) : ∀ {bs : List Bool} {ws : List Value}, mapO boolOf l = some bs → VRL p h ι l ws → ws = bs.map .bool := by
  induction l with
  | nil => intro is ws e r; injection e with z1; subst z1; exact r
  | cons v l ih =>
    intro is ws e r
    refine ob_EEAA (mapO_cons e) fun b r' e1 e2 z1 => ?_; subst z1
    refine ob_EEAA r.cons_inv fun w u z1 r1 r2 => ?_; subst z1
    refine ob_EA (vB_some e1) fun x z1 e1 => ?_; subst z1
    injection e1 with z1; subst z1
    rw [show w = _ from r1, ih e2 r2]; rfl
theorem strs_back (is : List (List Nat)) : ∀ {ws : List Value}, StrsAre ws (is.map mkS) → VRL p h ι (mapF .str is) ws := by
  induction is with
  | nil => intro ws r; cases r; rfl
  | cons a is ih => intro ws r; cases r with | cons y t r => exact ⟨⟨t, rfl⟩, ih r⟩
theorem leL_total (a b : List Nat) : leL a b = true ∨ leL b a = true := by
  rw [leL_eq, leL_eq]
  by_cases h : b < a
  · exact .inr (by rw [decide_eq_false fun q => List.lt_irrefl a (List.lt_trans q h)]; rfl)
  · exact .inl (by rw [decide_eq_false h]; rfl)
theorem leL_le {a b : List Nat} : leL a b = true ↔ a ≤ b := by
  rw [leL_eq, Bool.not_eq_true', decide_eq_false_iff_not]; exact Iff.rfl
theorem insS_perm (a : List Nat) (l : List (List Nat)) : (insS a l).Perm (a :: l) := by
  induction l with
  | nil => exact .refl _
  | cons b r ih =>
    show (bt (leL a b) (a :: b :: r) (b :: insS a r)).Perm _
    cases leL a b
    · exact (ih.cons b).trans (.swap ..)
    · exact .refl _
theorem insS_pw (a : List Nat) (l : List (List Nat)) (h : l.Pairwise (leL · · = true)) : (insS a l).Pairwise (leL · · = true) := by
  induction l with
  | nil => exact List.pairwise_singleton ..
  | cons b r ih =>
    refine ob_A (List.pairwise_cons.mp h) fun h1 h2 => ?_
    show (bt (leL a b) (a :: b :: r) (b :: insS a r)).Pairwise _
    cases c : leL a b with
    | true => exact List.pairwise_cons.mpr ⟨fun x m => (List.mem_cons.mp m).elim (fun q => q ▸ c) fun m => leL_le.mpr (List.le_trans (leL_le.mp c) (leL_le.mp (h1 x m))), h⟩
    | false => exact List.pairwise_cons.mpr ⟨fun x m => (List.mem_cons.mp ((insS_perm a r).mem_iff.mp m)).elim (fun q => q ▸ (leL_total b a).elim id fun q => nomatch q.symm.trans c) (h1 x), ih h2⟩
theorem sortS_ok (l : List (List Nat)) : (sortS l).Perm l ∧ (sortS l).Pairwise (leL · · = true) := by
  induction l with
  | nil => exact ⟨.refl _, .nil⟩
  | cons a r ih => exact ⟨(insS_perm a _).trans (ih.1.cons a), insS_pw a _ ih.2⟩
theorem rising_le (l : List Str) : ∀ (p : Str), risingS p l = true → (p :: l).Pairwise fun a b => leL a.cps.toList b.cps.toList = true := by
  induction l with
  | nil => exact fun p _ => List.pairwise_singleton ..
  | cons x r ih =>
    intro p h
    rw [risingS, Bool.and_eq_true] at h
    have ih := ih x h.2
    have h0 : leL p.cps.toList x.cps.toList = true := by rw [leL_eq, ← ltCps_eq]; exact h.1
    exact List.pairwise_cons.mpr ⟨fun y m => (List.mem_cons.mp m).elim (fun q => q ▸ h0) fun m => leL_le.mpr (List.le_trans (leL_le.mp h0) (leL_le.mp ((List.pairwise_cons.mp ih).1 y m))), ih⟩
theorem sortS_eq {l : List (List Nat)} {ss : List Str} (h : ss.Perm (l.map mkS)) (s : sortedS ss = true) : ss = (sortS l).map mkS := by
  refine ob_A (sortS_ok l) fun g1 g2 => ?_
  refine List.Perm.eq_of_pairwise (le := fun a b : Str => leL a.cps.toList b.cps.toList = true) (fun a b _ _ h1 h2 => ?_) (by cases ss with | nil => exact .nil | cons a r => exact rising_le r a s) (List.pairwise_map.mpr g2) (h.trans (g1.symm.map mkS))
  have := List.le_antisymm (leL_le.mp h1) (leL_le.mp h2)
  exact congrArg Str.mk (Array.toList_inj.mp this)
end
theorem allF_eq {α : Type} (f : α → Bool) (l : List α) : allF f l = l.all f := by induction l with | nil => rfl | cons a l ih => rw [List.all_cons, ← ih]; show bt (f a) (allF f l) false = _; cases f a <;> rfl
theorem mapF_eq {α β : Type} (f : α → β) (l : List α) : mapF f l = l.map f := by induction l with | nil => rfl | cons a l ih => exact congrArg (f a :: ·) ih
theorem at_fresh (h : Heap) : h.get? (h.objs.size + 1) = none := by
  cases e : h.get? (h.objs.size + 1) with
  | none => rfl
  | some o => exact absurd (Heap.lt_size e) (Nat.not_lt.mpr (Nat.le_succ _))
section
variable {S : Type} {C : Cst S} {F : Fr} {W : Wd S} {v : V} {x : Value}
theorem Run.num {t : Sem Value} {n : Nat} (ok : DmOk C.D C.p) (h : n < 1000000 → ∀ (Q : Value → Shared → Prop) E, (∀ t tk, Q (.int n t) (C.sh W.h tk)) → wpAny C.M F.A t Q E (C.st W)) : Run C F W t (numF W.σ n) (VV C) :=
  .gd fun g => .lib fun T Q E p => h (ble_small g) Q E fun t tk => p _ tk ⟨t, congrArg (Value.int · t) (ok.num n (Nat.lt_trans (ble_small g) (by decide))).symm⟩
theorem len_run (O : Okay C) (r : VV C W v x) : Run C F W (call (.builtin "len") [x]) (bLen C.D C.P v W.σ) (VV C) := by
  have ok := O.ok
  have z : ∀ {n : Nat}, n < 1000000 → n ≤ sizeLine := fun g => Nat.le_trans (Nat.le_of_lt g) (by decide)
  refine .xE (k := fun x => call (.builtin "len") [x]) r .bad (fun _ => .bad) (fun _ _ => .bad) (fun l t => .num ok fun g Q E p => ?_) (fun l t hb => .on fun c e => .lib fun T Q E p => ?_) (fun l t ws ht r => .num ok fun g Q E p => ?_) (fun i a d pl => .oL pl (fun l ws pl L r => .num ok fun g Q E p => ?_) (.oD pl fun es pl O ns => ?_)) (fun a => .oo fun l e => .sat fun T => ?_) fun _ => .bad
  · have hs : (⟨l.toArray⟩ : Str).length = lenF l := (List.size_toArray ..).trans (lenF_eq l).symm
    exact PyProof.Rows.len_str (by rw [hs]; omega) (by rw [hs]; exact p _ _)
  · refine ob_A (ok.blen e) fun z1 q => ?_; refine ob_EA z1 fun n e1 e2 => ?_
    exact PySem.W.len_bytes (by rw [toB_size]; exact Nat.le_trans (Nat.le_of_lt q) (by decide)) (p _ _ ⟨_, by rw [toB_size, e1, e2]; rfl⟩)
  · have hs := VVL.size r
    exact PyProof.Rows.len_tuple ht (by rw [hs]; omega) (by rw [hs]; exact p _ _)
  · have hs := VVL.size r
    exact PyProof.Rows.len_list L (by rw [hs]; omega) (by rw [hs]; exact p _ _)
  · refine .num ok fun g Q E p => ?_
    rcases O.2 with ⟨kvs, Dd, r⟩ | ⟨kvs, Dd, r⟩
    · exact call_len_dict ns Dd (by rw [DR.len _ r]; omega) (by rw [DR.len _ r]; exact p _ _)
    · exact call_len_dict ns Dd (by rw [DR.len _ r]; omega) (by rw [DR.len _ r]; exact p _ _)
  · refine ob_EA (O.lst a l e) fun ws z1 r => ?_; refine ob_EAA z1 fun ol h1 h2 h3 => ?_
    refine .num ok fun g Q E p => ?_
    have hs := VVL.size (C := C) (W := W) (r _ _)
    exact PyProof.Rows.len_list ⟨ol, T.stays _ _ h1, h2, h3⟩ (by rw [hs]; omega) (by rw [hs]; exact p _ _)
theorem is4_run {a b c d : Bool} {y : Value} (r : VV C W v x) (h1 : ∀ i t tk, ∀ (Q : Value → Shared → Prop) E, (∀ k, Q (.bool a) (C.sh W.h k)) → wpAny C.M F.A (call (.builtin "isinstance") [.int i t, y]) Q E (C.sh W.h tk))
    (h2 : ∀ i t tk, ∀ (Q : Value → Shared → Prop) E, (∀ k, Q (.bool b) (C.sh W.h k)) → wpAny C.M F.A (call (.builtin "isinstance") [.str i t, y]) Q E (C.sh W.h tk))
    (h3 : ∀ i t tk, ∀ (Q : Value → Shared → Prop) E, (∀ k, Q (.bool c) (C.sh W.h k)) → wpAny C.M F.A (call (.builtin "isinstance") [.bytes i t, y]) Q E (C.sh W.h tk))
    (h4 : ∀ i ws tk, IsTup W.h i ws → ∀ (Q : Value → Shared → Prop) E, (∀ k, Q (.bool d) (C.sh W.h k)) → wpAny C.M F.A (call (.builtin "isinstance") [.ref i, y]) Q E (C.sh W.h tk)) : Run C F W (call (.builtin "isinstance") [x, y]) (is4 a b c d v W.σ) (VV C) :=
  .xE (k := fun x => call (.builtin "isinstance") [x, y]) r .bad (fun _ => .bad) (fun i t => .lib fun T Q E p => h1 _ t _ Q E fun k => p _ k rfl) (fun i t => .lib fun T Q E p => h2 _ t _ Q E fun k => p _ k rfl)
    (fun i t _ => .lib fun T Q E p => h3 _ t _ Q E fun k => p _ k rfl) (fun i a ws ht _ => .lib fun T Q E p => h4 _ _ _ ht Q E fun k => p _ k rfl) (fun _ _ _ _ => .bad) (fun _ => .bad) fun _ => .bad
theorem isi_run {t : BI} (r : VV C W v x) : Run C F W (call (.builtin "isinstance") [x, t.val]) (bIsi t v W.σ) (VV C) := by
  cases t with
  | tInt => exact is4_run r (fun _ _ _ Q E p => IsiPair.int_int (p _)) (fun _ _ _ Q E p => IsiPair.str_int (p _)) (fun _ _ _ Q E p => isi_bytes_no (by decide) PySem.F.isi_meta_int PySem.F.sub_bytes_int p) fun _ _ _ ht Q E p => IsiPair.isTuple_int ht (fun _ _ e => e) (p _)
  | tBool => exact is4_run r (fun _ _ _ Q E p => IsiPair.int_bool (p _)) (fun _ _ _ Q E p => IsiPair.str_bool (p _)) (fun _ _ _ Q E p => isi_bytes_no (by decide) PySem.F.isi_meta_bool PySem.F.sub_bytes_bool p) fun _ _ _ ht Q E p => IsiPair.isTuple_bool ht (fun _ _ e => e) (p _)
  | tStr => exact is4_run r (fun _ _ _ Q E p => IsiPair.int_str (p _)) (fun _ _ _ Q E p => IsiPair.str_str (p _)) (fun _ _ _ Q E p => isi_bytes_no (by decide) PySem.F.isi_meta_str PySem.F.sub_bytes_str p) fun _ _ _ ht Q E p => IsiPair.isTuple_str ht (fun _ _ e => e) (p _)
  | tBytes => exact is4_run r (fun _ _ _ Q E p => IsiPair.int_bytes (p _)) (fun _ _ _ Q E p => IsiPair.str_bytes (p _)) (fun _ _ _ Q E p => call_isinstance_yes (typeIs_bytes _ _ _) PySem.F.isi_meta_bytes PySem.F.isi_self_bytes (p _)) fun _ _ _ ht Q E p => IsiPair.isTuple_bytes ht (fun _ _ e => e) (p _)
  | tTuple => exact is4_run r (fun _ _ _ Q E p => IsiPair.int_tuple (p _)) (fun _ _ _ Q E p => IsiPair.str_tuple (p _)) (fun _ _ _ Q E p => isi_bytes_no (by decide) PySem.F.isi_meta_tuple PySem.F.sub_bytes_tuple p) fun _ _ _ ht Q E p => IsiPair.isTuple_tuple ht (fun _ _ e => e) (p _)
  | _ => exact .bad
theorem sorted_run (ok : DmOk C.D C.p) (r : VV C W v x) : Run C F W (call (.builtin "sorted") [x]) (bSorted C.D v W.σ) (VV C) := by
  refine .xO (k := fun x => call (.builtin "sorted") [x]) r fun i a d pl => .oL pl (fun l ws pl L r => .gd fun g => .bt (fun e => .newL ok fun T Q E p => ?_) fun _ => .oo fun ss e => .newL ok fun T Q E p => ?_) .bad
  · rcases l with _ | ⟨v, _ | _⟩
    · injection e
    · obtain ⟨i, rfl⟩ : ∃ i, v = .int i := by cases v <;> first | exact ⟨_, rfl⟩ | injection e
      refine ob_EEAA (VRL.cons_inv r) fun w u z1 z2 r2 => ?_; subst z1; obtain ⟨t, rfl⟩ := z2
      have z0 := (show u = [] from r2); subst z0
      refine sorted_ints (ns := [C.p.f i]) L (.cons _ t .nil) (show 1 < 64 by decide) fun out ns' h1 h2 h3 => ?_
      refine ob_E (sortedAll_at W.h [.int (C.p.f i) t] out) fun k g => ?_
      refine p _ _ _ out.toList k (fun b o => sortedAll_old) (at_fresh _) (by rw [Array.toArray_toList]; exact g) ?_
      rw [List.perm_singleton.mp h2] at h1
      generalize out.toList = os at h1
      cases h1 with
      | cons n t r => cases r; exact ⟨⟨t, rfl⟩, rfl⟩
    · injection e
  · refine sorted_strs L (strs_are l e r) (by rw [VRL.length r, ← lenF_eq]; exact Nat.lt_succ_of_le (Nat.ble_eq.mp g)) fun out ns' h1 h2 h3 => ?_
    refine ob_E (sortedAll_at W.h ws out) fun k g => ?_
    refine p _ _ _ out.toList k (fun b o => sortedAll_old) (at_fresh _) (by rw [Array.toArray_toList]; exact g) ?_
    rw [sortS_eq h2 h3] at h1; exact strs_back _ h1
end
end
end Mine
namespace Mine
open PySem PyProof.Rows PySem.W
open PySem.Builtin PySem.Builtin.Str
noncomputable section
section
variable {prog : Program} {w : World} {p : Mp} {h : Heap} {ι : Io}
theorem dict_keys {K : Type} [DecidableEq K] {κ : V → Option K} {knd : KeyKind prog w K} (hk : ∀ v k y, κ v = some k → knd.is k y = true → VR p h ι v y) (es : List (V × V)) : ∀ {kvs : List (K × Value)} {ws : List Value}, DR p h ι κ es kvs → ws.length = kvs.length →
    (∀ (j : Nat) (v : Value), ws[j]? = some v → ∃ k x, kvs[j]? = some (k, x) ∧ knd.is k v = true) → VRL p h ι (mapF (fun q => q.1) es) ws := by
  induction es with
  | nil => intro kvs ws r hl _; have z0 := (show kvs = [] from r); subst z0; exact List.length_eq_zero_iff.mp hl
  | cons e es ih =>
    intro kvs ws r hl hv
    cases kvs with
    | nil => exact r.elim
    | cons kv kvs => cases ws with
      | nil => cases hl
      | cons w ws =>
        refine ob_EEA (hv 0 w rfl) fun k x h4 h5 => ?_
        injection h4 with z1; subst z1
        exact ⟨hk _ _ _ r.1 h5, ih r.2.2 (Nat.succ.inj hl) fun j v e => hv (j + 1) v (List.getElem?_cons_succ.trans e)⟩
end
section
variable {S : Type} {C : Cst S} {F : Fr} {W : Wd S} {v v' : V} {x y : Value}
theorem list_run (ok : DmOk C.D C.p) (hh : F.A.handled = none) (r : VV C W v x) : Run C F W (call (.type "list") [x]) (bList C.D v W.σ) (VV C) := by
  refine .xE (k := fun x => call (.type "list") [x]) r .bad (fun _ => .bad) (fun _ _ => .bad) (fun _ _ => .bad) (fun _ _ _ => .bad) (fun l a ws ht r => .gd fun g => .newL ok fun T Q E p => ?_) (fun i a d pl => .oD pl fun es pl O ns => .gd fun g => .newL ok fun T Q E p => ?_) (fun _ => .bad) fun _ => .bad
  · refine ob_EAAE ht fun o ho hc k hd => ?_
    exact call_list_seq a (.inr rfl) ho hc hd (fun h' c' kp g => p _ h' _ ws c' kp (get_fresh _) g r) (by rw [VVL.size r]; exact Nat.le_trans (Nat.ble_eq.mp g) (by decide))
  · rcases O.2 with ⟨kvs, Dd, r2⟩ | ⟨kvs, Dd, r2⟩
    · refine ob_E Dd.dictAt fun ep hat => ?_
      exact kdl_call (kdl_dict (knd := strKind C.prog C.w) (kvs := kvs) (ep := ep) ns) hh hat (by rw [DR.len _ r2]; exact Nat.le_trans (Nat.ble_eq.mp g) (by decide)) fun h' tk acc c k g hi =>
        p _ h' tk acc.toList c k (get_fresh _) (by rw [Array.toArray_toList]; exact g) (dict_keys (fun v k y e q => by refine ob_EA (vS_some e) fun i z1 e => ?_; subst z1; injection e with z1; subst z1; refine ob_E (Value.isStrOf_shape q) fun t z1 => ?_; subst z1; exact ⟨t, rfl⟩) es r2 (by rw [Array.length_toList]; exact hi.1) fun j v q => hi.2 j v (by rw [← Array.getElem?_toList]; exact q))
    · refine ob_E Dd.dictAt fun ep hat => ?_
      exact kdl_call (kdl_dict (knd := intKind C.prog C.w) (kvs := kvs) (ep := ep) ns) hh hat (by rw [DR.len _ r2]; exact Nat.le_trans (Nat.ble_eq.mp g) (by decide)) fun h' tk acc c k g hi =>
        p _ h' tk acc.toList c k (get_fresh _) (by rw [Array.toArray_toList]; exact g) (dict_keys (fun v k y e q => by refine ob_EA (vI_some e) fun i z1 e => ?_; subst z1; injection e with z1; subst z1; refine ob_E (Value.isInt_shape q) fun t z1 => ?_; subst z1; exact ⟨t, rfl⟩) es r2 (by rw [Array.length_toList]; exact hi.1) fun j v q => hi.2 j v (by rw [← Array.getElem?_toList]; exact q))
theorem tuple_run (r : VV C W v x) : Run C F W (call (.type "tuple") [x]) (bTuple C.D v W.σ) (VV C) := by
  refine .xE (k := fun x => call (.type "tuple") [x]) r .bad (fun _ => .bad) (fun _ _ => .bad) (fun _ _ => .bad) (fun _ _ _ => .bad) (fun l a ws ht r => .lib fun T Q E p => call_tuple_tup ht (p _ W.tk ⟨a, ws, rfl, ht, r⟩)) (fun i a d pl => .oL pl (fun l ws pl L r => .gd fun g => .grow fun T Q E p => ?_) .bad) (fun _ => .bad) fun _ => .bad
  refine call_tuple_list L (fun h' k => ?_) (by rw [VVL.size r]; exact Nat.le_trans (Nat.ble_eq.mp g) (by decide))
  have k2 : Kp W.h (h'.push { cls := .type "tuple", data := .seq ws.toArray }) := fun b o q => Heap.get?_push_of_some _ (k b o q)
  exact p _ _ _ k2 ⟨_, _, rfl, ⟨_, Heap.get?_push_size _ rfl, rfl, _, rfl⟩, VRL.mono T (Lat.of_keeps k2) NoTup.nil _ r⟩
theorem bytes_run (ok : DmOk C.D C.p) (hh : F.A.handled = none) (r : VV C W v x) : Run C F W (call (.type "bytes") [x]) (bBytes C.D v W.σ) (VV C) := by
  refine .xE (k := fun x => call (.type "bytes") [x]) r .bad (fun _ => .bad) (fun _ _ => .bad) (fun _ _ => .bad) (fun b t hb => .gd fun g => .lib fun T Q E p => bytes_bytes (p _ W.tk ⟨⟨t, rfl⟩, hb⟩)) (fun _ _ _ _ _ => .bad)
    (fun i a d pl => .oY pl (fun b pl g hb => .gd fun hx => .gd fun hz => .lib fun T Q E p => ?_) (.oL pl (fun l ws pl L r => .oo fun bs e => .gd fun hx => .gd fun hz => .grow fun T Q E p => ?_) .bad)) (fun _ => .bad) fun _ => .bad
  · have e := ok.raw hx
    refine bytes_barr g (by rw [toB_size, ← lenF_eq]; exact Nat.le_trans (Nat.ble_eq.mp hz) (by decide)) (p _ _ ⟨⟨_, by rw [e]⟩, by rw [e]; exact hb⟩)
  · have key : ∀ (l : List V) {bs : List Nat} {ws : List Value}, mapO (byteI C.D) l = some bs → VVL C W l ws → IntsAre ws (bs.map Int.ofNat) ∧ Bytes bs := by
      intro l
      induction l with
      | nil => intro bs ws e r; injection e with z1; subst z1; rw [show ws = [] from r]; exact ⟨.nil, fun _ m => nomatch m⟩
      | cons v l ih =>
        intro bs ws e r
        refine ob_EEAA (mapO_cons e) fun b r' e1 e2 z1 => ?_; subst z1
        refine ob_EEAA (VRL.cons_inv r) fun w u z1 r1 r2 => ?_; subst z1
        refine ob_EA (vI_some e1) fun i z1 e1 => ?_; subst z1
        refine ob_EA (oo_some e1) fun n e3 e1 => ?_
        refine ob_A (bt_some e1) fun g e1 => ?_
        injection e1 with z1; subst z1
        refine ob_E r1 fun t z1 => ?_; subst z1
        refine ob_A (ih e2 r2) fun i1 i2 => ?_
        rw [(ok.nat e3).1]
        exact ⟨.cons _ t i1, fun x m => (List.mem_cons.mp m).elim (fun q => q ▸ Nat.lt_succ_of_le (Nat.ble_eq.mp g)) (i2 x)⟩
    refine ob_A (key l e r) fun i1 i2 => ?_
    refine call_bytes_ints L i1 (fun n m => ?_) (by rw [VRL.length r, ← lenF_eq]; exact Nat.le_trans (Nat.ble_eq.mp hz) (by decide)) hh fun h' t k kp => p _ h' k kp ⟨⟨t, ?_⟩, by rw [ok.raw hx]; exact i2⟩
    · refine ob_EA (List.mem_map.mp m) fun b hb z1 => ?_; subst z1
      exact ⟨Int.natCast_nonneg b, Int.ofNat_lt.mpr (i2 b hb)⟩
    · rw [ok.raw hx]; unfold byteArr toB; rw [List.map_map]; rfl
theorem all_run (hh : F.A.handled = none) (r : VV C W v x) : Run C F W (call (.builtin "all") [x]) (bAll C.D v W.σ) (VV C) := by
  refine .xO (k := fun x => call (.builtin "all") [x]) r fun i a d pl => .oL pl (fun l ws pl L r => .oo fun bs e => .grow fun T Q E p => ?_) .bad
  have z0 := bools_are l e r; subst z0
  refine call_all_walk (wpAny_pyIter_list L ?_)
  have hlt : a < W.h.objs.size := by refine ob_EA L fun o ho _u => ?_; exact Heap.lt_size ho
  have L2 : (W.h.push { cls := .type "list_iterator", data := .fields #[.ref a, .int 0 0] }).IsList a (bs.map Value.bool).toArray := by refine ob_EA L fun o ho r => ?_; exact ⟨o, Heap.get?_push_of_some _ ho, r⟩
  refine ⟨_, _, _, _, _, _, fun j => bs.getD j true, rfl, Walks.list (A := F.A.in1) hh W.h.objs.size a (Nat.ne_of_lt hlt) _, ⟨⟨_, Heap.get?_push_size _ rfl, rfl, rfl⟩, L2⟩, ?_, fun h' tk k => ?_⟩
  · intro j v s Q E hP hQ
    have : v = .bool (bs.getD j true) := by
      rw [List.getElem?_toArray, List.getElem?_map] at hP
      rw [List.getD_eq_getElem?_getD]
      cases q : bs[j]? with
      | none => rw [q] at hP; injection hP
      | some b => rw [q] at hP; injection hP with z1; subst z1; rfl
    subst this
    exact wpAny_truthy_bool hQ
  · have k' : Kp W.h h' := fun b o e => k b o (by simp; exact Nat.ne_of_lt (Heap.lt_size e)) (Heap.get?_push_of_some _ e)
    have hb : ∀ bs : List Bool, ((List.range bs.length).all fun j => bs.getD j true) = allF (fun x => x) bs := fun bs => by
      induction bs with
      | nil => rfl
      | cons b r ih =>
        rw [List.length_cons, List.range_succ_eq_map, List.all_cons, List.all_map]
        exact (congrArg (b && ·) ih).trans (by show _ = bt b (allF _ r) false; cases b <;> rfl)
    rw [show (bs.map Value.bool).toArray.size = bs.length from List.length_map ..]
    rw [hb]
    exact p _ h' tk k' rfl
theorem min_run (ok : DmOk C.D C.p) (hh : F.A.handled = none) (r : VV C W v x) (r' : VV C W v' y) : Run C F W (call (.builtin "min") [x, y]) (vI .bad (fun i => vI .bad (fun j => oo .bad (fun c => .ok (.int (bt c j i)) W.σ) (C.D.lt j i)) v') v) (VV C) :=
  .xI (k := fun x => call (.builtin "min") [x, y]) r fun i t => .xI (k := fun y => call (.builtin "min") [_, y]) r' fun j u => .oo fun c e => .grow fun T Q E p => min_two_ints hh fun h' tk k => by
    have := ok.lt e
    cases c with
    | true => rw [if_pos (of_decide_eq_true this)]; exact p _ h' tk k ⟨_, rfl⟩
    | false => rw [if_neg (of_decide_eq_false this)]; exact p _ h' tk k ⟨_, rfl⟩
theorem bi_run (O : Okay C) (hh : F.A.handled = none) (id : BI) {vs : List V} {xs : List Value} (rs : VVL C W vs xs) : Run C F W (call id.val xs) ((cBI C.D C.P id).f vs W.σ) (VV C) := by
  have ok := O.ok
  cases id with
  | len => exact .a1 (k := fun xs => call _ xs) rs fun v x r => len_run O r
  | isinst => exact .a2 (k := fun xs => call _ xs) rs fun v t x y r rt => .xR (k := fun y => call (.builtin "isinstance") [x, y]) rt (fun _ => .bad) fun b => isi_run r
  | ord =>
    refine .a1 (k := fun xs => call _ xs) rs fun v x r => .xS (k := fun x => call (.builtin "ord") [x]) r fun s t => ?_
    rcases s with _ | ⟨c, _ | _⟩
    · exact .bad
    · exact .gd fun hx => .lib fun T Q E p => PySem.P.ord_of_char (p _ _ ⟨_, by rw [ok.num c (Nat.lt_succ_of_le (Nat.ble_eq.mp hx))]; rfl⟩)
    · exact .bad
  | chr =>
    refine .a1 (k := fun xs => call _ xs) rs fun v x r => .xI (k := fun x => call (.builtin "chr") [x]) r fun i t => .oo fun n e => .gd fun g => .lib fun T Q E p => ?_
    rw [(ok.nat e).1]
    exact PySem.P.chr_of_int (by have := Nat.ble_eq.mp g; simp; omega) (p _ _ ⟨_, rfl⟩)
  | sorted => exact .a1 (k := fun xs => call _ xs) rs fun v x r => sorted_run ok r
  | min => exact .a2 (k := fun xs => call _ xs) rs fun v w x y r r' => min_run ok hh r r'
  | all => exact .a1 (k := fun xs => call _ xs) rs fun v x r => all_run hh r
  | abs =>
    refine .a1 (k := fun xs => call _ xs) rs fun v x r => .xI (k := fun x => call (.builtin "abs") [x]) r fun i t => .gd fun hx => .gd fun hy => .lib fun T Q E p => call_abs_int fun u tk => p _ tk ⟨u, ?_⟩
    rw [ok.lit hx, ok.lit hy]
    exact congrArg (Value.int · u) (show (if i < 0 then -i else i) = ((i.natAbs : Nat) : Int) by split <;> omega)
  | tInt => exact .a1 (k := fun xs => call _ xs) rs fun v x r => .xI (k := fun x => call (.type "int") [x]) r fun i t => .lib fun T Q E p => call_int_int (p _ W.tk ⟨t, rfl⟩)
  | tBytes => exact .a1 (k := fun xs => call _ xs) rs fun v x r => bytes_run ok hh r
  | tTuple => exact .a1 (k := fun xs => call _ xs) rs fun v x r => tuple_run r
  | tList => exact .a1 (k := fun xs => call _ xs) rs fun v x r => list_run ok hh r
  | tBytearray =>
    cases vs with
    | nil =>
      rw [show xs = [] from rs]
      exact ⟨fun T Q E p => by
        change Ens C F W (pushF C.D W.σ (.barr []) fun i s => .ok (.obj i) s) (VV C) Q E at p
        unfold pushF at p
        cases e : C.D.push W.σ (.barr []) with
        | none => rw [e] at p; exact p.elim
        | some σ' =>
          rw [e] at p
          refine bytearray_call fun h' k g => ?_
          have fr : ∀ x, (x = W.h.objs.size ∨ none = some x) → W.h.get? x = none := fun x q => q.elim (fun q => q ▸ get_fresh W.h) fun q => nomatch q
          have pl : Pl (W.ι ++ [(W.h.objs.size, none)]) (C.D.len W.σ) W.h.objs.size none := T.len ▸ .new
          exact p ⟨_, σ', h', W.tk⟩ _ rfl ⟨T, T.more ok k fr e ⟨rfl, g, fun x m => nomatch m⟩, Lat.more k fr⟩ ⟨_, none, pl, rfl⟩⟩
    | cons _ _ => exact .bad
  | _ => exact .bad
end
end
end Mine
namespace Mine
open PySem PyProof.Rows PySem.W
open PySem.Builtin
noncomputable section
theorem two_pow {a b x y : Nat} (e : 2 ^ a * Nat.succ (2 * x) = 2 ^ b * Nat.succ (2 * y)) : a = b ∧ x = y := by
  induction a generalizing b with
  | zero =>
    cases b with
    | zero => exact ⟨rfl, by omega⟩
    | succ b => rw [Nat.pow_succ, Nat.mul_comm (2 ^ b) 2, Nat.mul_assoc] at e; omega
  | succ a ih =>
    cases b with
    | zero => rw [Nat.pow_succ, Nat.mul_comm (2 ^ a) 2, Nat.mul_assoc] at e; omega
    | succ b =>
      rw [Nat.pow_succ, Nat.pow_succ, Nat.mul_comm (2 ^ a) 2, Nat.mul_comm (2 ^ b) 2, Nat.mul_assoc, Nat.mul_assoc] at e
      obtain ⟨h1, h2⟩ := ih (Nat.eq_of_mul_eq_mul_left (by decide) e)
      exact ⟨congrArg Nat.succ h1, h2⟩
theorem kc_inj {a b : Str} (e : kc a = kc b) : a = b := by
  have key : ∀ x y : List Nat, kc ⟨x.toArray⟩ = kc ⟨y.toArray⟩ → x = y := fun x => by
    have pos : ∀ c l, 0 < kc ⟨(c :: l).toArray⟩ := fun c l => Nat.mul_pos (Nat.pow_pos (by decide)) (Nat.succ_pos _)
    induction x with
    | nil => intro y e; cases y with | nil => rfl | cons c l => exact absurd e (Nat.ne_of_lt (pos c l))
    | cons d x ih => intro y e; cases y with
      | nil => exact absurd e.symm (Nat.ne_of_lt (pos d x))
      | cons c l => refine ob_A (two_pow (show 2 ^ d * Nat.succ (2 * kc ⟨x.toArray⟩) = 2 ^ c * Nat.succ (2 * kc ⟨l.toArray⟩) from e)) fun h1 h2 => ?_; rw [h1, ih l h2]
  exact congrArg Str.mk (Array.toList_inj.mp (key a.cps.toList b.cps.toList e))
theorem kc_beq (a b : Str) : Nat.beq (kc a) (kc b) = (a == b) := by
  rw [nbeq]
  by_cases h : a = b
  · subst h; rw [decide_eq_true rfl]; exact (beq_self_eq_true _).symm
  · rw [decide_eq_false fun q => h (kc_inj q)]; exact (beq_eq_false_iff_ne.mpr h).symm
theorem lukS_eq {α : Type} (l : List (Str × α)) (x : Str) : lukS l (kc x) = l.lookup x := by
  induction l with
  | nil => rfl
  | cons a l ih =>
    show bt (Nat.beq (kc a.1) (kc x)) (some a.2) (lukS l (kc x)) = _
    rw [ih, kc_beq, List.lookup_cons, BEq.comm]
    cases x == a.1 <;> rfl
theorem luk_put {α : Type} (l : List (Nat × α)) (x y : Nat) (v : α) : luk (put l x v) y = bt (Nat.beq x y) (some v) (luk l y) := by
  induction l with
  | nil => rfl
  | cons a l ih =>
    show luk (bt (Nat.beq a.1 x) ((a.1, v) :: l) (a :: put l x v)) y = bt (Nat.beq x y) (some v) (bt (Nat.beq a.1 y) (some a.2) (luk l y))
    cases h : Nat.beq a.1 x with
    | true =>
      rw [← Nat.eq_of_beq_eq_true h]
      show bt (Nat.beq a.1 y) (some v) (luk l y) = _
      cases Nat.beq a.1 y <;> rfl
    | false =>
      show bt (Nat.beq a.1 y) (some a.2) (luk (put l x v) y) = _
      rw [ih]
      cases h1 : Nat.beq a.1 y with
      | false => rfl
      | true =>
        rw [← Nat.eq_of_beq_eq_true h1, nbeq, decide_eq_false fun q => Nat.ne_of_beq_eq_false h q.symm]; rfl
structure AOk (F : Fr) (n : Nat) : Prop where
  fr : F.A.frames = some F.envs
  hd : F.A.handled = none
  dp : F.A.depth + n < 900
  un : F.A.units + 12 * n < 9800
theorem AOk.less {F : Fr} {n m : Nat} (x : AOk F n) (h : m ≤ n) : AOk F m := ⟨x.fr, x.hd, Nat.lt_of_le_of_lt (Nat.add_le_add_left h _) x.dp, Nat.lt_of_le_of_lt (Nat.add_le_add_left (Nat.mul_le_mul_left 12 h) _) x.un⟩
structure ER (p : Mp) (h : Heap) (ι : Io) (penv : Env) (env : MEnv) : Prop where
  fn : penv.scope.kind = .function
  gl : penv.globals = mainGlobals
  bi : penv.builtins = builtinsNs
  sc : ∀ x, (env.sc.lookup x = some .local → penv.kindOf x = some .local) ∧ (env.sc.lookup x = some .globalImplicit → penv.kindOf x = some .globalImplicit)
  lo : ¬ Own ι penv.locals
  ns : ∃ m, h.Ns penv.locals m ∧ ∀ x v, luk env.vars (kc x) = some v →
    (env.sc.lookup x = some .local ∧ ∃ y, m x = some y ∧ VR p h ι v y) ∨
    ((penv.kindOf x = some .cell ∨ penv.kindOf x = some .free) ∧ ∃ c y, penv.cells.lookup x = some c ∧ h.IsCell c (some y) ∧ VR p h ι v y)
section
variable {S : Type} {C : Cst S} {envs : List Env} {ι ι' : Io} {σ : S} {h h' : Heap} {X : List Addr} {penv : Env} {env : MEnv}
theorem St.ns_keep (T : St C envs ι σ h) (l : Lat X envs ι ι' h h') {a : Addr} {m : Str → Option Value} (n : h.Ns a m) (na : ¬ Own ι a) (nx : a ∉ X) : h'.Ns a m := by
  refine ob_EEEAA n fun o es ep e d r => ?_
  by_cases f : a ∈ fadr envs
  · refine ob_E (l.frk a o e f na nx) fun sl e' => ?_
    exact ⟨_, es, ep, e', d, r⟩
  · exact ⟨o, es, ep, l.keep a o e na nx f, d, r⟩
theorem St.cell_keep (T : St C envs ι σ h) (l : Lat X envs ι ι' h h') {c : Addr} {v : Option Value} (n : h.IsCell c v) (nx : ∀ a ∈ X, ∀ o, h.get? a = some o → ∀ v, o.data ≠ .cell v) : h'.IsCell c v := by
  refine ob_EA n fun o e d => ?_
  exact ⟨o, T.stay l e (fun m => nx c m o e v d) (fun q => q.cel v d) (fun _ _ q => nomatch d.symm.trans q), d⟩
theorem ER.monoX (T : St C envs ι σ h) (l : Lat X envs ι ι' h h') (nt : NoTup X h) (nc : ∀ a ∈ X, ∀ o, h.get? a = some o → ∀ v, o.data ≠ .cell v) (nl : penv.locals ∉ X) (R : ER C.p h ι penv env) : ER C.p h' ι' penv env := by
  refine ob_EA R.ns fun m hn hv => ?_
  refine ⟨R.fn, R.gl, R.bi, R.sc, fun q => ?_, m, T.ns_keep l hn R.lo nl, fun x v e => ?_⟩
  · have := l.new _ q R.lo
    refine ob_EEEA hn fun o _u _u e _u => ?_
    exact nomatch e.symm.trans this
  · rcases hv x v e with ⟨a, y, b, c⟩ | ⟨a, c, y, b, d, f⟩
    · exact .inl ⟨a, y, b, VR.mono T l nt v c⟩
    · exact .inr ⟨a, c, y, b, T.cell_keep l d nc, VR.mono T l nt v f⟩
theorem ER.mono (T : St C envs ι σ h) (l : Lat [] envs ι ι' h h') (R : ER C.p h ι penv env) : ER C.p h' ι' penv env := R.monoX T l NoTup.nil (fun _ m => nomatch m) fun m => nomatch m
end
structure Here {S : Type} (C : Cst S) (F : Fr) (n : Nat) (penv : Env) (env : MEnv) (W : Wd S) : Prop where
  A : AOk F n
  R : ER C.p W.h W.ι penv env
section
variable {S : Type} {C : Cst S} {F : Fr} {n : Nat} {penv : Env} {env : MEnv} {W W' : Wd S} {α β γ δ : Type} {ih : SemF S}
theorem Here.on (H : Here C F n penv env W) (z : Fut C F [] W W') : Here C F n penv env W' := ⟨H.A, H.R.mono z.S0 z.L⟩
variable (C) in
def EvOk (ih : SemF S) (n : Nat) : Prop := ∀ F W penv env e, Here C F n penv env W → Run C F W (eval e penv) (ih.ev env W.σ e) (VV C)
def tb (r : RF S V) : RF S Bool := rb r fun v s => vB .bad (fun b => .ok b s) v
def BB : Rl S Bool Bool := fun _ b c => c = b
variable (C) in
def TsOk (ih : SemF S) (n : Nat) : Prop := ∀ F W penv env e, Here C F n penv env W → Run C F W (isTrue e penv (eval e penv)) (tb (ih.ev env W.σ e)) BB
variable (C) in
def ClOk (ih : SemF S) (n : Nat) : Prop := ∀ F W f vs xs, AOk F n → VVL C W vs xs → Run C F W (call (.ref f) xs) (ih.cl f vs W.σ) (VV C)
theorem tb_rb (r : RF S V) (f : Bool → S → RF S α) : rb r (fun v s => vB .bad (fun b => f b s) v) = rb (tb r) f := by
  cases r with
  | ok v s => cases v <;> rfl
  | _ => rfl
theorem Run.test {t : Sem Bool} {r : RF S V} {k : Bool → Sem δ} {f : Bool → S → RF S γ} {R : Rl S γ δ} (h : Run C F W t (tb r) BB) (K : ∀ W' b, Fut C F [] W W' → Run C F W' (k b) (f b W'.σ) R) : Run C F W (t >>= k) (rb r fun v s => vB .bad (fun b => f b s) v) R :=
  tb_rb r f ▸ h.bind fun W' b c z e => e ▸ K W' b z
theorem Run.hold1 {W : Wd S} {vs : List Value} {t : Sem δ} {k : δ → Sem β} {r : RF S α} {R : Rl S α β} (h : Run C F W (t >>= k) r R) : Run C F W (PySem.holding vs t >>= k) r R := ⟨fun T Q E p => by
  refine fun Γ q hΓ kk => ?_
  have := h.go T Q E p Γ q hΓ kk
  rw [Sem.wp_bind'] at this ⊢
  rw [Sem.wp_holding]; exact this⟩
theorem allF_cons {f : α → Bool} {a : α} {l : List α} (h : allF f (a :: l) = true) : f a = true ∧ allF f l = true := by
  change bt (f a) (allF f l) false = true at h
  cases q : f a with
  | true => rw [q] at h; exact ⟨rfl, h⟩
  | false => rw [q] at h; injection h
theorem evL_run (hE : EvOk C ih n) (pos : Pos) {as : List Expr} {W : Wd S} {k : List Value → Sem β} {f : List V → S → RF S α} {R : Rl S α β} (hs : allF noStar as = true) (H : Here C F n penv env W)
    (K : ∀ W' vs ws, Fut C F [] W W' → VVL C W' vs ws → Run C F W' (k ws) (f vs W'.σ) R) : Run C F W (spliced (backTo pos (starEach as penv)) >>= k) (evL as ih env W.σ f) R := by
  induction as generalizing W k f with
  | nil => exact .sat fun T => .pre [] rfl (K _ [] [] (.refl T) rfl)
  | cons e es ih' =>
    obtain ⟨h1, h2⟩ := allF_cons hs
    have hc : starEach (e :: es) penv = (false, eval e penv) :: starEach es penv := by cases e <;> first | rfl | injection h1
    rw [hc]
    show Run C F W (spliced ((false, eval e penv) :: backTo pos (starEach es penv)) >>= k) (rb (ih.ev env W.σ e) fun v s => evL es ih env s fun vs s => f (v :: vs) s) R
    rw [spliced, bind_assoc]
    refine (hE F W penv env e H).bind fun W1 v y z r => ?_
    simp only [Bool.false_eq_true, if_false, pure_bind, bind_assoc]
    exact .hold1 (ih' h2 (H.on z) fun W2 vs ws z2 r2 => K W2 (v :: vs) (y :: ws) (z.trans z2) ⟨r.mono z2, r2⟩)
end
end
end Mine
namespace Mine
open PySem PyProof.Rows PySem.W
open PySem.Builtin
noncomputable section
section
variable {S : Type} {C : Cst S} {F : Fr} {n : Nat} {penv : Env} {env : MEnv} {W W' : Wd S} {α β γ δ : Type} {ih : SemF S} {t : Sem β} {r : RF S α} {R : Rl S α β}
theorem Run.kE {c : Bool} {f : CE S} {R : Rl S V β} (h : c = true → Run C F W t (f.run ih env W.σ) R) : Run C F W t ((kE c f).run ih env W.σ) R := by
  cases c with
  | false => exact .bad
  | true => exact h rfl
theorem not_true {c : Bool} (h : (not c) = true) : c = false := by cases c <;> first | rfl | injection h
theorem btf {c d : Bool} (h : bt c true d = false) : c = false ∧ d = false := by cases c <;> first | exact ⟨rfl, h⟩ | injection h
theorem btt {c d : Bool} (h : bt c d false = true) : c = true ∧ d = true := by cases c <;> first | exact ⟨rfl, h⟩ | injection h
theorem rb_rb (r : RF S α) (f : α → S → RF S V) : tb (rb r f) = rb r fun v s => tb (f v s) := by cases r <;> rfl
variable (C F penv env W ih) in
abbrev Ev (e : PySem.Expr) : Prop := Run C F W (eval e penv) ((cE C.D C.P e).run ih env W.σ) (VV C)
variable (C F penv env W ih) in
abbrev Ts (e : PySem.Expr) (whole : Sem Value) : Prop := Run C F W (PySem.isTrue e penv whole) (tb ((cE C.D C.P e).run ih env W.σ)) BB
theorem isGI_eq {o : Option NameKind} (h : isGI o = true) : o = some .globalImplicit := by
  cases o with
  | none => injection h
  | some k => cases k <;> first | rfl | injection h
theorem Sat.base_ns (T : Sat C F W) {a : Addr} {m : Str → Option Value} (n : C.base.Ns a m) : W.h.Ns a m := by
  refine ob_EEEA n fun o es ep e r => ?_
  exact ⟨o, es, ep, T.stays a o e, r⟩
theorem global_at (O : Okay C) (T : Sat C F W) (R : ER C.p W.h W.ι penv env) {x : Str} {v : V} (e : C.P.glob (kc x) = some v) {A : Around} {Q : Value → Shared → Prop} {E : Value → Shared → Prop} (h : ∀ y, VV C W v y → Q y (C.st W)) : wpAny C.M A (loadGlobal penv x) Q E (C.st W) := by
  refine ob_EEAA O.glob fun mg mb hg hb hx => ?_
  rcases hx x v e with ⟨y, hy, hv⟩ | ⟨hm, y, hy, hv⟩
  · exact Calls.loadGlobal_global (s := C.st W) (by rw [R.gl]; exact T.base_ns hg) hy (h y (hv _ _))
  · exact Calls.loadGlobal_builtin (s := C.st W) (by rw [R.gl]; exact T.base_ns hg) hm (by rw [R.bi]; exact T.base_ns hb) hy (h y (hv _ _))
theorem name_any (O : Okay C) (T : Sat C F W) (R : ER C.p W.h W.ι penv env) (x : Str) (q : Pos) {v : V} {σ' : S} (e : (cName C.P x).run ih env W.σ = .ok v σ') : σ' = W.σ ∧ ∀ {A : Around} {Q : Value → Shared → Prop} {E : Value → Shared → Prop}, (∀ y, VV C W v y → Q y (C.st W)) → wpAny C.M A (eval (.Name x q) penv) Q E (C.st W) := by
  unfold cName at e
  cases h : not (bt (Nat.beq (kc x) kDebug) true (Nat.beq (kc x) kClassd)) with
  | false => rw [h] at e; injection e
  | true =>
    rw [h] at e
    refine ob_A (btf (not_true h)) fun h1 h2 => ?_
    have hd : (x == ("__debug__" : Str)) = false := (kc_beq _ _).symm.trans h1
    have hc : (x == ("__classdict__" : Str)) = false := (kc_beq _ _).symm.trans h2
    change oo (bt (isGI (lukS env.sc (kc x))) (ob W.σ (C.P.glob (kc x))) .bad) (fun v => .ok v W.σ) (luk env.vars (kc x)) = .ok v σ' at e
    cases hl : luk env.vars (kc x) with
    | none =>
      rw [hl] at e
      cases hg : isGI (lukS env.sc (kc x)) with
      | false => rw [hg] at e; injection e
      | true =>
        rw [hg] at e
        cases hv : C.P.glob (kc x) with
        | none => rw [hv] at e; injection e
        | some u => rw [hv] at e; injection e with z1 z2; subst z1; subst z2; exact ⟨rfl, fun hQ => Calls.Name_function_global R.fn ((R.sc x).2 ((lukS_eq _ _).symm.trans (isGI_eq hg))) (global_at O T R hv hQ) hd⟩
    | some u =>
      rw [hl] at e; cases e
      refine ob_EA R.ns fun m hm hv => ?_
      refine ⟨rfl, fun hQ => ?_⟩
      rcases hv x v hl with ⟨hl, y, hy, r⟩ | ⟨hk | hk, c, y, g, hcell, r⟩
      · exact wpAny_Name (wpAny_loadName_local (s := C.st W) R.fn ((R.sc x).1 hl) hm hy (hQ y r)) hd
      · exact wpAny_Name (wpAny_loadName_cell (s := C.st W) R.fn hk g hcell (hQ y r)) hd
      · exact wpAny_Name (wpAny_loadName_free (s := C.st W) R.fn hk g hcell (hQ y r) hc) hd
theorem name_no {P : Prg} {x : Str} {s s' : S} {X : Addr} : (cName P x).run ih env s ≠ .exc X s' := by
  unfold cName
  cases not (bt (Nat.beq (kc x) kDebug) true (Nat.beq (kc x) kClassd)) with
  | false => exact fun q => nomatch q
  | true =>
    show oo (bt (isGI (lukS env.sc (kc x))) (ob s (P.glob (kc x))) .bad) (fun v => .ok v s) (luk env.vars (kc x)) ≠ _
    cases luk env.vars (kc x) <;> cases isGI (lukS env.sc (kc x)) <;> cases P.glob (kc x) <;> exact fun q => nomatch q
theorem name_ev (O : Okay C) (H : Here C F n penv env W) (x : Str) (q : Pos) : Run C F W (eval (.Name x q) penv) ((cName C.P x).run ih env W.σ) (VV C) := ⟨fun T Q E p => by
  cases e : (cName C.P x).run ih env W.σ with
  | bad => rw [e] at p; exact p.elim
  | exc X s => exact absurd e name_no
  | ok v s =>
    rw [e] at p
    refine ob_A (name_any O T H.R x q e) fun z1 h => ?_; subst z1
    exact wpC_of (h fun y r => p W y rfl (.refl T) r)⟩
theorem bytes_same (l : List UInt8) : (l.map UInt8.toNat).map UInt8.ofNat = l := by
  rw [List.map_map]
  exact (List.map_congr_left fun x _ => UInt8.ofNat_toNat).trans (List.map_id l)
theorem tok_small {p : Mp} (h : ∀ c, c < 256 → p.tok c = [c]) : ∀ l : List Nat, Bytes l → l.flatMap p.tok = l := fun l => by
  induction l with
  | nil => exact fun _ => rfl
  | cons c l ih => exact fun b => by rw [List.flatMap_cons, h c (b c (.head _)), ih fun x m => b x (.tail _ m)]; rfl
theorem bytes_toNat (l : List UInt8) : Bytes (l.map UInt8.toNat) := fun x m => by refine ob_EA (List.mem_map.mp m) fun u _u z1 => ?_; subst z1; exact u.toNat_lt
theorem const_ev (O : Okay C) (c : Const) (k : Nat) (q : Pos) : Ev C F penv env W ih (.Constant c k q) := by
  cases c with
  | none => exact .lib fun T Q E p => PyProof.Rows.Constant_none (p _ _ rfl)
  | bool b => exact .lib fun T Q E p => PyProof.Rows.Constant_bool (p _ _ rfl)
  | int i => exact .kE fun h => .lib fun T Q E p => wpAny_Constant_int (p _ _ ⟨W.tk, congrArg (Value.int · _) (O.ok.lit h).symm⟩)
  | str x => exact .lib fun T Q E p => Calls.Constant_str (p _ _ ⟨W.tk, rfl⟩)
  | bytes l =>
    have e := tok_small O.ok.tokb _ (bytes_toNat l)
    exact .lib fun T Q E p => Constant_bytes (p _ _ ⟨⟨W.tk, by rw [e]; unfold toB; rw [bytes_same]; rfl⟩, by rw [e]; exact bytes_toNat l⟩)
  | _ => exact .bad
theorem bin_ev (O : Okay C) (hE : EvOk C ih n) (H : Here C F n penv env W) (a : PySem.Expr) (op : Operator) (b : PySem.Expr) (q : Pos) : Ev C F penv env W ih (.BinOp a op b q) := by
  refine .of (arm_eval_BinOp a op b q penv) ((hE F W penv env a H).bind fun W1 v y z r => ?_)
  refine .hold1 ((hE F W1 penv env b (H.on z)).bind fun W2 v2 y2 z2 r2 => ?_)
  exact .stand (.operate (bin_run O.ok op (r.mono z2) r2))
theorem neg_ev (O : Okay C) (hE : EvOk C ih n) (H : Here C F n penv env W) (a : PySem.Expr) (q : Pos) : Ev C F penv env W ih (.UnaryOp .USub a q) := by
  refine .of (arm_eval_UnaryOp .USub a q penv) ((hE F W penv env a H).bind fun W1 v y z r => ?_)
  refine .stand (.holding (.xI (k := fun y => unaryOp .USub y) r fun i t => ?_))
  exact .on fun c e => .lib fun T Q E p => PyProof.Rows.neg_int (p _ _ ⟨_, congrArg (Value.int · _) (O.ok.neg e).symm⟩)
theorem Run.truth {k : Bool → Sem β} {b : Bool} {vs : List Value} (h : Run C F W (k b) r R) : Run C F W (PySem.holding vs (truthy (.bool b)) >>= k) r R := ⟨fun T Q E p => wpC_bind (wpC_holding (wpC_of (wpAny_truthy_bool (h.go T Q E p))))⟩
theorem Run.truth1 {b : Bool} {vs : List Value} : Run C F W (PySem.holding vs (truthy (.bool b))) (.ok b W.σ) BB := .holding (.lib fun T Q E p => wpAny_truthy_bool (p _ _ rfl))
theorem not_ev (hE : EvOk C ih n) (H : Here C F n penv env W) (a : PySem.Expr) (q : Pos) : Ev C F penv env W ih (.UnaryOp .Not a q) := by
  refine .of (arm_eval_UnaryOp .Not a q penv) ((hE F W penv env a H).bind fun W1 v y z r => ?_)
  refine .stand (.holding (.xB (k := fun y => unaryOp .Not y) r fun b => ?_))
  exact .lib fun T Q E p => PyProof.Rows.not_of (wpAny_truthy_bool (p _ _ rfl))
theorem ifexp_ev (hE : EvOk C ih n) (hT : TsOk C ih n) (H : Here C F n penv env W) (t a b : PySem.Expr) (q : Pos) : Ev C F penv env W ih (.IfExp t a b q) := by
  refine .of (arm_eval_IfExp t a b q penv) (.test (hT F W penv env t H) fun W1 c z => ?_)
  cases c with
  | true => exact hE F W1 penv env a (H.on z)
  | false => exact hE F W1 penv env b (H.on z)
theorem ts_plain {r : RF S V} {e : PySem.Expr} {whole : Sem Value} (he : PySem.isTrue e penv whole = (do let v ← whole; standAt e.pos; PySem.holding [v] (truthy v))) (h : Run C F W whole r (VV C)) : Run C F W (PySem.isTrue e penv whole) (tb r) BB := by
  refine .of he (h.bind fun W1 v y z rv => ?_)
  exact .stand (.xB (k := fun y => PySem.holding [y] (truthy y)) rv fun b => .truth1)
theorem ts_not (hT : TsOk C ih n) (H : Here C F n penv env W) (a : PySem.Expr) (q : Pos) {whole : Sem Value} : Ts C F penv env W ih (.UnaryOp .Not a q) whole := by
  refine .to (.of (arm_isTrue_UnaryOp a q penv whole) (.test (f := fun b s => .ok (not b) s) (R := BB) (hT F W penv env a H) fun W1 c z => ?_)) ?_
  · exact .pure rfl
  · show _ = tb (rb (ih.ev env W.σ a) _)
    rw [rb_rb]
    cases ih.ev env W.σ a with
    | ok v s => cases v <;> rfl
    | _ => rfl
theorem ts_ifexp (hT : TsOk C ih n) (H : Here C F n penv env W) (t a b : PySem.Expr) (q : Pos) {whole : Sem Value} : Ts C F penv env W ih (.IfExp t a b q) whole := by
  refine .to (.of (arm_isTrue_IfExp t a b q penv whole) (.test (f := fun c s => bt c (tb (ih.ev env s a)) (tb (ih.ev env s b))) (R := BB) (hT F W penv env t H) fun W1 c z => ?_)) ?_
  · cases c with
    | true => exact hT F W1 penv env a (H.on z)
    | false => exact hT F W1 penv env b (H.on z)
  · show _ = tb (rb (ih.ev env W.σ t) _)
    cases ih.ev env W.σ t with
    | ok v s =>
      cases v with
      | bool c => cases c <;> rfl
      | _ => rfl
    | _ => rfl
theorem behind_no (op : CmpOp) {e : PySem.Expr} (h : notSet e = true) (t : Sem Value) : markedBehindIn op e t = t := markedBehindIn_of_false (by cases e <;> first | rfl | injection h)
theorem AOk.eq40 (h : AOk F n) : F.A.units + 13 < cLine := by
  have := h.un
  show _ < 9900
  omega
theorem cmp_then {o : Option Bool} {t : Sem Value} {k : Value → Sem δ} (f : Bool → S → RF S γ) {R : Rl S γ δ} (h : Run C F W t (ob W.σ (on .bool o)) (VV C))
    (K : ∀ W' c, Fut C F [] W W' → Run C F W' (k (.bool c)) (f c W'.σ) R) : Run C F W (t >>= k) (oo .bad (fun c => f c W.σ) o) R := by
  refine .to (h.bind (f := fun v s => vB .bad (fun c => f c s) v) fun W' v z q r => .xB (k := k) r fun c => K W' c q) ?_
  cases o <;> rfl
theorem cmp1_ev (O : Okay C) (hE : EvOk C ih n) (H : Here C F n penv env W) (a : PySem.Expr) (op : CmpOp) (b : PySem.Expr) (q : Pos) : Ev C F penv env W ih (.Compare a [op] [b] q) := by
  refine .kE fun h => .of (eval_Compare1 ..) ?_
  rw [behind_no op h]
  refine (hE F W penv env a H).bind fun W1 v y z r => ?_
  refine .hold1 ((hE F W1 penv env b (H.on z)).bind fun W2 v2 y2 z2 r2 => ?_)
  exact .stand (.operate (cmp_run O.ok H.A.eq40 op (r.mono z2) r2))
theorem cmp1_ts (O : Okay C) (hE : EvOk C ih n) (H : Here C F n penv env W) (a : PySem.Expr) (op : CmpOp) (b : PySem.Expr) (q : Pos) {whole : Sem Value} : Ts C F penv env W ih (.Compare a [op] [b] q) whole := by
  show Run C F W _ (tb ((kE (notSet b) _).run ih env W.σ)) BB
  cases h : notSet b with
  | false => exact .bad
  | true =>
    refine .of (isTrue_Compare1 ..) ?_
    rw [behind_no op h]
    refine .to ((hE F W penv env a H).bind (R' := BB) fun W1 v y z r => ?_) (rb_rb _ _).symm
    refine .to (.hold1 ((hE F W1 penv env b (H.on z)).bind (R' := BB) fun W2 v2 y2 z2 r2 => ?_)) (rb_rb _ _).symm
    refine .to (.stand (cmp_then (fun c s => .ok c s) (.operate (cmp_run O.ok H.A.eq40 op (r.mono z2) r2)) fun W3 c z3 => .truth1)) ?_
    cases (cO C.D op).f v v2 W2.σ <;> rfl
theorem Run.rel1 {vs ks : List Value} {k : Unit → Sem β} (h : Run C F W (k ()) r R) : Run C F W (PySem.release vs ks >>= k) r R := ⟨fun T Q E p => wpC_bind (wpC_release (h.go T Q E p))⟩
theorem cmp2_ev (O : Okay C) (hE : EvOk C ih n) (H : Here C F n penv env W) (a : PySem.Expr) (op op' : CmpOp) (b c : PySem.Expr) (q : Pos) : Ev C F penv env W ih (.Compare a [op, op'] [b, c] q) := by
  refine .kE fun h => .of (u := eval a penv >>= fun x => compareChain q x [op, op'] [eval b penv, markedBehindIn op' c (eval c penv)]) rfl ?_
  rw [behind_no op' h]
  refine (hE F W penv env a H).bind fun W1 v y z r => ?_
  refine .hold1 ((hE F W1 penv env b (H.on z)).bind fun W2 v2 y2 z2 r2 => ?_)
  refine .stand (cmp_then (fun d s => bt d (rb (ih.ev env s c) fun z s => ob s (on V.bool ((cO C.D op').f v2 z s))) (.ok (V.bool false) s)) (.holding (cmp_run O.ok H.A.eq40 op (r.mono z2) r2)) fun W3 d z3 => .rel1 (.truth ?_))
  cases d with
  | false => exact .pure rfl
  | true =>
    refine .hold1 ((hE F W3 penv env c ((H.on z).on (z2.trans z3))).bind fun W4 v4 y4 z4 r4 => ?_)
    exact .stand (.operate (cmp_run O.ok H.A.eq40 op' ((r2.mono z3).mono z4) r4))
theorem cmp2_ts (O : Okay C) (hE : EvOk C ih n) (H : Here C F n penv env W) (a : PySem.Expr) (op op' : CmpOp) (b c : PySem.Expr) (q : Pos) {whole : Sem Value} : Ts C F penv env W ih (.Compare a [op, op'] [b, c] q) whole := by
  show Run C F W _ (tb ((kE (notSet c) _).run ih env W.σ)) BB
  cases h : notSet c with
  | false => exact .bad
  | true =>
    refine .of (u := eval a penv >>= fun x => testChain q x [op, op'] [eval b penv, markedBehindIn op' c (eval c penv)]) rfl ?_
    rw [behind_no op' h]
    refine .to ((hE F W penv env a H).bind (R' := BB) fun W1 v y z r => ?_) (rb_rb _ _).symm
    refine .to (.hold1 ((hE F W1 penv env b (H.on z)).bind (R' := BB) fun W2 v2 y2 z2 r2 => ?_)) (rb_rb _ _).symm
    refine .to (.stand (cmp_then (fun d s => bt d (tb (rb (ih.ev env s c) fun z s => ob s (on V.bool ((cO C.D op').f v2 z s)))) (.ok false s)) (.holding (cmp_run O.ok H.A.eq40 op (r.mono z2) r2)) fun W3 d z3 => .rel1 (.truth ?_))) ?_
    · cases d with
      | false => exact .pure rfl
      | true =>
        refine .to (.hold1 ((hE F W3 penv env c ((H.on z).on (z2.trans z3))).bind (R' := BB) fun W4 v4 y4 z4 r4 => ?_)) (rb_rb _ _).symm
        refine .to (.stand (cmp_then (fun c s => .ok c s) (.operate (cmp_run O.ok H.A.eq40 op' ((r2.mono z3).mono z4) r4)) fun W5 c z5 => .truth1)) ?_
        cases (cO C.D op').f v2 v4 W4.σ <;> rfl
    · cases (cO C.D op).f v v2 W2.σ with
      | none => rfl
      | some d => cases d <;> rfl
theorem bop_go (hE : EvOk C ih n) (q : Pos) (op : BoolOp) (es : List PySem.Expr) : ∀ {W : Wd S}, Here C F n penv env W → Run C F W (boolOp q op (evalEach es penv)) (bopF op es ih env W.σ) (VV C) := by
  induction es with
  | nil => exact fun _ => .bad
  | cons e r ih' =>
    intro W H
    cases r with
    | nil =>
      refine .of (bind_pure _).symm ((hE F W penv env e H).bind fun W1 v y z r => ?_)
      exact .xB (k := fun y => pure y) r fun b => .pure rfl
    | cons e2 r =>
      refine (hE F W penv env e H).bind fun W1 v y z rv => ?_
      refine .stand (.xB (k := fun y => PySem.holding [y] (truthy y) >>= fun t => match op, t with
        | .And, false | .Or, true => pure y
        | _, _ => boolOp q op (evalEach (e2 :: r) penv)) rv fun b => .truth ?_)
      cases op <;> cases b
      · exact .pure rfl
      · exact ih' (H.on z)
      · exact ih' (H.on z)
      · exact .pure rfl
theorem ts_go (hT : TsOk C ih n) (op : BoolOp) (es : List PySem.Expr) : ∀ {W : Wd S}, Here C F n penv env W → Run C F W (allTrue op es penv) (tb (bopF op es ih env W.σ)) BB := by
  induction es with
  | nil => exact fun _ => .bad
  | cons e r ih' =>
    intro W H
    refine .of (arm_allTrue_cons op e r penv) (.to (.test (R := BB) (f := fun b s => List.rec (motive := fun _ => RF S Bool) (.ok b s) (fun _ _ _ => BoolOp.rec (motive := fun _ => RF S Bool) (bt b (tb (bopF op r ih env s)) (.ok false s)) (bt b (.ok true s) (tb (bopF op r ih env s))) op) r) (hT F W penv env e H) fun W1 b z => ?_) ?_)
    · cases r with
      | nil => cases op <;> cases b <;> exact .pure rfl
      | cons e2 r =>
        cases op <;> cases b
        · exact .pure rfl
        · exact ih' (H.on z)
        · exact ih' (H.on z)
        · exact .pure rfl
    · show _ = tb (rb (ih.ev env W.σ e) _)
      rw [rb_rb]
      cases ih.ev env W.σ e with
      | ok v s =>
        cases v with
        | bool b => cases r <;> cases op <;> cases b <;> rfl
        | _ => rfl
      | _ => rfl
theorem sub_ev (O : Okay C) (hE : EvOk C ih n) (H : Here C F n penv env W) (o i : PySem.Expr) (q : Pos) (hs : ∀ o i', subscripted i false o i' = operate [o, i'] (getItem o i')) :
    Run C F W (eval (.Subscript o i q) penv) (rb (ih.ev env W.σ o) fun x s => rb (ih.ev env s i) fun y s => ixF C.D x y s) (VV C) := by
  refine .of (arm_eval_Subscript o i q penv) ((hE F W penv env o H).bind fun W1 v y z r => ?_)
  refine .hold1 ((hE F W1 penv env i (H.on z)).bind fun W2 v2 y2 z2 r2 => ?_)
  exact .stand (ix_run O.ok hs (r.mono z2) r2)
theorem evO_run (hE : EvOk C ih n) (H : Here C F n penv env W) (o : Option PySem.Expr) {k : Value → Sem β} {f : Option V → S → RF S α} (K : ∀ W' a x, Fut C F [] W W' → PR C W' a x → Run C F W' (k x) (f a W'.σ) R) :
    Run C F W (valueOrNone (evalOpt o penv) >>= k) (evO o ih env W.σ f) R := by
  cases o with
  | none => exact .sat fun T => .pre .none rfl (K W none .none (.refl T) rfl)
  | some e => exact (hE F W penv env e H).bind fun W1 v y z r => K W1 (some v) y z r
theorem slice_ev (O : Okay C) (hE : EvOk C ih n) (H : Here C F n penv env W) (o : PySem.Expr) (a b : Option PySem.Expr) (p q : Pos) : Ev C F penv env W ih (.Subscript o (.Slice a b none p) q) := by
  refine .of (arm_eval_Subscript o _ q penv) ((hE F W penv env o H).bind fun W1 v y z r => .hold1 ?_)
  rw [arm_eval_Slice, bind_assoc]
  refine evO_run hE (H.on z) a fun W2 u x z2 r2 => ?_
  rw [bind_assoc]
  refine .hold1 (evO_run hE ((H.on z).on z2) b fun W3 u' x' z3 r3 => ?_)
  rw [bind_assoc]
  exact .hold1 (.pre .none rfl (cut_run (lo := o) (hi := o) O ((r.mono z2).mono z3) (r2.mono z3) r3))
theorem tuple_ev (hE : EvOk C ih n) (H : Here C F n penv env W) (es : List PySem.Expr) (k : Nat) (q : Pos) : Ev C F penv env W ih (.Tuple es k q) := .kE fun h => by
  refine .of (arm_eval_Tuple es k q penv) (.stand (evL_run hE q h H fun W1 vs ws z r => .gd fun g => ?_))
  have sz : ws.length ≤ sizeLine := by rw [VRL.length r, ← lenF_eq]; exact Nat.le_trans (Nat.le_of_lt (ble_small g)) (by decide)
  exact .grow fun T Q E p => wpAny_newTuple (p _ _ W1.tk (Kp.push _ _) ⟨_, ws, rfl, ⟨_, Heap.get?_push_size _ rfl, rfl, _, rfl⟩, VRL.mono T (Lat.of_keeps (Kp.push _ _)) NoTup.nil _ r⟩) sz
theorem list_ev (O : Okay C) (hE : EvOk C ih n) (H : Here C F n penv env W) (es : List PySem.Expr) (q : Pos) : Ev C F penv env W ih (.List es q) := .kE fun h => by
  refine .of (arm_eval_List es q penv) (.stand (evL_run hE q h H fun W1 vs ws z r => .gd fun g => ?_))
  have sz : ws.length ≤ sizeLine := by rw [VRL.length r, ← lenF_eq]; exact Nat.le_trans (Nat.le_of_lt (ble_small g)) (by decide)
  exact .newL O.ok fun T Q E p => wpAny_newList (p _ _ W1.tk ws 0 (Kp.push _ _) (get_fresh _) (Heap.get?_push_size _ rfl) r) sz
end
end
end Mine
namespace Mine
open _root_.PySem _root_.PySem.W PyProof.Rows
noncomputable section
def topT (ok : Thread → Bool) (st : SharedT → Thread → Option (SharedT × Thread)) (n : Nat) : SharedT → Thread → Option SharedT :=
  Nat.rec (motive := fun _ => SharedT → Thread → Option SharedT) (fun _ _ => none) (fun _ ih s t => bt (through t) (some s) (bt (ok t) (oo none (fun r => ih r.1 r.2) (st s t)) none)) n
theorem topT_ok {tb : String → Option Builtin} {p : Program} {w : World} {m : Nat} {ann : Option Value} (n : Nat) : ∀ {s s' : SharedT} {t : Thread}, topT (stepOk m ann) (stepT (denote tb) p w) n s t = some s' → topRun tb p w m ann n s.abs t = some s'.abs := by
  induction n with
  | zero => intro s s' t h; injection h
  | succ n ih =>
    intro s s' t h
    unfold topRun
    change bt (through t) (some s) (bt (stepOk m ann t) (oo none (fun r => topT (stepOk m ann) (stepT (denote tb) p w) n r.1 r.2) (stepT (denote tb) p w s t)) none) = _ at h
    cases e : through t with
    | true => rw [e] at h; injection h with z1; subst z1; rfl
    | false =>
      rw [e] at h
      refine ob_A (bt_some h) fun e1 h => ?_
      refine ob_EA (oo_some h) fun z1 e2 h => ?_; obtain ⟨s2, t2⟩ := z1
      rw [e1, stepT_spec e2]
      exact ih h
def treeOf (l : List Obj) (n : Nat) : BT → BT := List.rec (motive := fun _ => Nat → BT → BT) (fun _ t => t) (fun o _ ih n t => ih n.succ (t.ins n o)) l n
def bootT (P : Params) (os : OsState) : SharedT := ⟨treeOf (boot_heap P).objs.toList 0 .nil, 11, (boot_heap P).life, Array.mk [], boot_drawn, boot_toks, os⟩
theorem boot_abs (P : Params) (os : OsState) : (bootT P os).abs = ⟨boot_heap P, Array.mk [], boot_drawn, boot_toks, os⟩ := by kernel_rfl
abbrev ann0 : Option Value := some (.ref 6)
theorem boot_size (P : Params) : ((boot_heap P).isNs mainGlobals && (Array.mk [] : Array GenState).size == 0, (boot_heap P).objs.size, (boot_heap P).nsMap mainGlobals "__annotations__") = (true, 11, ann0) := by kernel_rfl
def preB (p : Program) (P : Params) (s : Shared) : Bool := staticsOk (importedModules p.main.body) (boot_heap P) s.heap && namesBound p s.heap && gensDone s && laidKept (boot_heap P) s.heap
theorem left_T {p q : Program} {loose : List _root_.PySem.Str} {Xt : Shared → Bool} {α : Type} {Yf : Shared → α} {Ya : World → α} {N : Nat} (hop : opening p = plainProg p.main.scope.names) (hN : Nat.ble 600 N = true) (f : ∀ s, fenceModules? p s = some s)
    (run : ∀ w os, on (fun s => (preB p w.params s.abs, openSeen q loose (importedModules p.main.body) Xt true s.abs, Yf s.abs)) (topT (stepOk 11 ann0) (stepT (denote treeTable) p w) N (bootT w.params os) (topStub p)) = some (true, openGood q loose, Ya w)) : LeftO p q loose Xt Yf Ya N := fun w => by
  refine ob_EA (Option.map_eq_some_iff.mp (boot_open hop hN f w)) fun z1 e e' => ?_; obtain ⟨h, gs, d, k, os⟩ := z1
  refine ob_A (Prod.mk.inj e') fun z1 e' => ?_; subst z1
  refine ob_A (Prod.mk.inj e') fun z1 e' => ?_; subst z1
  refine ob_A (Prod.mk.inj e') fun z1 z2 => ?_; subst z1; subst z2
  refine ob_EA (on_some (run w os)) fun s r e3 => ?_
  refine ob_A (Prod.mk.inj e3) fun l1 e3 => ?_
  have r := topT_ok N r
  rw [boot_abs] at r
  refine ob_A (Prod.mk.inj (boot_size w.params)) fun z1 z2 => ?_
  refine ob_A (Prod.mk.inj z2) fun z2 z3 => ?_
  have t : topFrom treeTable p w N ⟨boot_heap w.params, Array.mk [], boot_drawn, boot_toks, os⟩ = some s.abs := by
    unfold topFrom
    rw [z1, z2, z3, r]
    show (match preB p w.params s.abs with | true => _ | false => _) = _
    rw [l1]
  unfold openEnds
  rw [e]
  show (topFrom treeTable p w N _).map _ = _
  rw [t]
  exact congrArg some e3
end
end Mine
namespace Mine
open PySem
noncomputable def top (i : Nat) : Stmt := PySem.Challenge.pw_pq0953_01.main.body.getD i (.Pass ⟨0, 0, 0, 0⟩)
noncomputable def inn (i j : Nat) : Stmt := match top i with
  | .ClassDef _ _ _ b _ _ _ _ _ _ _ => b.getD j (.Pass ⟨0, 0, 0, 0⟩)
  | s => s
noncomputable def fiOf (s : Stmt) (d : List V) (p : Bool) : FI := match s with
  | .FunctionDef _ a b _ _ _ s _ _ _ => ⟨a.args.map (·.arg), s.names, b, d, p⟩
  | _ => ⟨[], [], [], d, p⟩
noncomputable def gl (s : Str) (v : V) : Str × V := (s, v)
noncomputable def fl (a : Nat) (s : Stmt) (d : List V) (p : Bool) : Nat × FI := (a, fiOf s d p)
noncomputable def gls : List (Str × V) := [gl "Box" (.ref 175), gl "DELIMITER" (.str [47]), gl "INBOX_names" (.str [73, 78, 66, 79, 88]), gl "INBOX_store" (.str [73, 78, 66, 79, 88]), gl "Keeper" (.ref 685), gl "LAST_SIGN" (.int 1114111), gl "Letter" (.ref 137), gl "LogFault" (.ref 64), gl "MODULUS" (.int 65521), gl "MOST" (.int 4294967295), gl "MOST_DEPTH" (.int 20), gl "MOST_KEYWORD" (.int 60), gl "MOST_MODSEQ" (.int 9223372036854775807), gl "NO_KEYWORD" (.str [40, 41, 123, 32, 37, 42, 34, 92, 93]), gl "NUMBER" (.int 105), gl "NameFault" (.ref 52), gl "OCTETS" (.int 111), gl "PostError" (.ref 39), gl "ROW" (.int 114), gl "SHAPES" (.str [99, 114, 101, 97, 116, 101, 58, 116, 110, 32, 100, 101, 108, 101, 116, 101, 58, 116, 32, 114, 101, 110, 97, 109, 101, 58, 116, 116, 32, 97, 112, 112, 101, 110, 100, 58, 116, 102, 110, 111, 32, 102, 108, 97, 103, 115, 58, 116, 110, 102, 32, 115, 116, 111, 114, 101, 58, 116, 117, 116, 102, 110, 32, 101, 120, 112, 117, 110, 103, 101, 58, 116, 117, 32, 99, 111, 112, 121, 58, 116, 117, 116, 32, 109, 111, 118, 101, 58, 116, 117, 116, 32, 115, 117, 98, 115, 99, 114, 105, 98, 101, 58, 116, 32, 117, 110, 115, 117, 98, 115, 99, 114, 105, 98, 101, 58, 116, 32, 102, 111, 114, 103, 101, 116, 58, 116, 110, 32, 115, 110, 97, 112, 115, 104, 111, 116, 58, 110, 102, 114]), gl "SUM_WIDTH" (.int 4), gl "SYSTEM" (.str [92, 83, 101, 101, 110, 32, 92, 65, 110, 115, 119, 101, 114, 101, 100, 32, 92, 70, 108, 97, 103, 103, 101, 100, 32, 92, 68, 101, 108, 101, 116, 101, 100, 32, 92, 68, 114, 97, 102, 116]), gl "Store" (.ref 462), gl "StoreFault" (.ref 76), gl "TEXT" (.int 116), gl "WILD_SIGNS" (.str [37, 42]), gl "_law_boxes" (.ref 708), gl "_law_is_taken" (.ref 715), gl "_law_jar" (.ref 694), gl "_law_modseq" (.int 9223372036854775807), gl "_law_pull" (.ref 701), gl "_law_uid" (.int 4294967295), gl "abs" (.bi .abs), gl "add_letter" (.ref 205), gl "adler" (.ref 351), gl "all" (.bi .all), gl "append_letter" (.ref 577), gl "apply" (.ref 646), gl "are_numbers" (.ref 483), gl "are_texts" (.ref 478), gl "bool" (.bi .tBool), gl "bytearray" (.bi .tBytearray), gl "bytes" (.bi .tBytes), gl "check_name" (.ref 412), gl "check_row" (.ref 497), gl "chr" (.bi .chr), gl "copy_letters" (.ref 227), gl "copy_or_move" (.ref 603), gl "count_octets" (.ref 269), gl "create_box" (.ref 544), gl "delete_box" (.ref 551), gl "distinct" (.ref 257), gl "expunge" (.ref 222), gl "expunge_letters" (.ref 598), gl "first_part" (.ref 391), gl "fits_shape" (.ref 490), gl "flag_letter" (.ref 584), gl "flag_name" (.ref 99), gl "flag_tuple" (.ref 106), gl "flags_after" (.ref 217), gl "folded_number" (.ref 283), gl "forget_gone" (.ref 262), gl "framed" (.ref 365), gl "int" (.bi .tInt), gl "is_barred_code" (.ref 405), gl "is_below" (.ref 419), gl "is_box_told" (.ref 627), gl "is_half" (.ref 384), gl "is_keyword" (.ref 92), gl "is_letter_told" (.ref 622), gl "is_number" (.ref 473), gl "is_refused" (.ref 244), gl "is_row" (.ref 330), gl "is_sound" (.ref 237), gl "isinstance" (.bi .isinst), gl "law" (.ref 722), gl "len" (.bi .len), gl "list" (.bi .tList), gl "min" (.bi .min), gl "move_letters" (.ref 232), gl "need_modseqs" (.ref 511), gl "need_new" (.ref 525), gl "need_room" (.ref 518), gl "need_sound" (.ref 634), gl "need_uids" (.ref 537), gl "need_validity" (.ref 532), gl "normal_name" (.ref 398), gl "ord" (.bi .ord), gl "place_of" (.ref 191), gl "plain_number" (.ref 290), gl "raised" (.ref 198), gl "range" (.bi .tRange), gl "read_count" (.ref 276), gl "read_row" (.ref 344), gl "read_some" (.ref 316), gl "read_text" (.ref 309), gl "read_value" (.ref 323), gl "remade" (.ref 184), gl "rename_box" (.ref 563), gl "rename_inbox" (.ref 570), gl "renamed_pairs" (.ref 558), gl "restore" (.ref 639), gl "row_at" (.ref 372), gl "row_octets" (.ref 337), gl "set_flags" (.ref 212), gl "settled_name" (.ref 504), gl "sorted" (.bi .sorted), gl "store_flags" (.ref 250), gl "store_letters" (.ref 591), gl "str" (.bi .tStr), gl "subscribe_name" (.ref 610), gl "sum_octets" (.ref 358), gl "system_flags" (.ref 85), gl "text_codes" (.ref 297), gl "tuple" (.bi .tTuple), gl "unsubscribe_name" (.ref 615), gl "upper_text" (.ref 377), gl "value_octets" (.ref 302), gl "zip" (.bi .tZip)]
noncomputable def fns : List (Nat × FI) := [fl 85 (top 9) [] false, fl 92 (top 10) [] true, fl 99 (top 11) [] true, fl 106 (top 12) [] true, fl 120 (inn 13 0) [] false, fl 134 (inn 13 2) [] false, fl 155 (inn 14 0) [] false, fl 167 (inn 14 2) [] false, fl 172 (inn 14 3) [] false, fl 184 (top 15) [] false, fl 198 (top 17) [] false, fl 205 (top 18) [] false, fl 237 (top 24) [] false, fl 269 (top 39) [] true, fl 276 (top 40) [] true, fl 283 (top 41) [] true, fl 290 (top 42) [] true, fl 297 (top 43) [] true, fl 302 (top 44) [] true, fl 309 (top 45) [] true, fl 316 (top 46) [] true, fl 323 (top 47) [] true, fl 330 (top 48) [] true, fl 337 (top 49) [] true, fl 344 (top 50) [] true, fl 351 (top 51) [] true, fl 358 (top 52) [] true, fl 365 (top 53) [] true, fl 372 (top 54) [] true, fl 377 (top 56) [] true, fl 384 (top 61) [] true, fl 391 (top 62) [] true, fl 398 (top 63) [] true, fl 405 (top 64) [] true, fl 412 (top 65) [] true, fl 433 (inn 72 0) [] false, fl 447 (inn 72 2) [] false, fl 454 (inn 72 3) [] false, fl 459 (inn 72 4) [] false, fl 473 (top 73) [] true, fl 478 (top 74) [] true, fl 483 (top 75) [] true, fl 490 (top 76) [] true, fl 497 (top 77) [] true, fl 504 (top 78) [] true, fl 511 (top 79) [] false, fl 518 (top 80) [] false, fl 525 (top 81) [] false, fl 532 (top 82) [] false, fl 544 (top 84) [] false, fl 577 (top 89) [] false, fl 622 (top 96) [] true, fl 627 (top 97) [] true, fl 634 (top 98) [] false, fl 639 (top 99) [] false, fl 646 (top 100) [] false, fl 661 (inn 101 0) [.byt []] false, fl 668 (inn 101 1) [] false, fl 675 (inn 101 2) [] false, fl 682 (inn 101 3) [] false, fl 694 (top 105) [] false, fl 701 (top 106) [] false, fl 708 (top 107) [] false, fl 715 (top 108) [] false, fl 722 (top 109) [] false]
noncomputable def cls : List (Nat × CI) := [(52, ⟨29, [], [], true⟩), (64, ⟨29, [], [], true⟩), (76, ⟨29, [], [], true⟩), (137, ⟨120, [(kc "has", 127), (kc "told", 134)], [kc "uid", kc "octets", kc "flags", kc "instant", kc "modseq"], false⟩), (175, ⟨155, [(kc "letter", 162), (kc "uids", 167), (kc "told", 172)], [kc "name", kc "validity", kc "next_uid", kc "top", kc "floor", kc "letters", kc "gone"], false⟩), (462, ⟨433, [(kc "has", 440), (kc "box", 447), (kc "names", 454), (kc "told", 459)], [kc "boxes", kc "subscribed", kc "next_validity"], false⟩), (685, ⟨661, [(kc "replay", 668), (kc "do", 675), (kc "told", 682)], [kc "store", kc "data"], false⟩)]
noncomputable def PP (ls : Addr → Option (List V)) : Prg := ⟨lukS gls, luk fns, luk cls, ls⟩
noncomputable def noL : Addr → Option (List V) := fun _ => none
end Mine
namespace Mine
open PySem
noncomputable section
inductive Tri where
  | nil
  | leaf (o : MO)
  | node (h : Nat) (l r : Tri)
structure FS where
  n : Nat
  t : Tri
def Tri.look (t : Tri) : Nat → Option MO := Tri.rec (motive := fun _ => Nat → Option MO) (fun _ => none) (fun o i => Nat.rec (motive := fun _ => Option MO) (some o) (fun _ _ => none) i)
  (fun h _ _ gl gr i => bt (Nat.ble h i) (gr (Nat.sub i h)) (gl i)) t
def Tri.set (t : Tri) (o : MO) : Nat → Tri := Tri.rec (motive := fun _ => Nat → Tri) (fun i => Nat.rec (motive := fun _ => Tri) (.leaf o) (fun _ _ => .nil) i) (fun o' i => Nat.rec (motive := fun _ => Tri) (.leaf o) (fun _ _ => .leaf o') i)
  (fun h l r gl gr i => bt (Nat.ble h i) (.node h l (gr (Nat.sub i h))) (.node h (gl i) r)) t
def Tri.mk (k : Nat) : Tri := Nat.rec (motive := fun _ => Tri) .nil (fun k ih => .node (Nat.pow 2 k) ih ih) k
def ck (i : Int) : Nat := Int.rec (motive := fun _ => Nat) (fun n => Nat.div (Nat.add n 633825300114114700748351602688) 1267650600228229401496703205376) (fun _ => 0) i
def co (i : Int) : Int := i - Int.ofNat (Nat.mul (ck i) 1267650600228229401496703205376)
def isC (i : Int) : Bool := Int.rec (motive := fun _ => Bool) (fun n => Nat.ble n 633825300114114700748351602687) (fun _ => true) i
def iEq (a b : Int) : Bool := Int.rec (motive := fun _ => Bool) (fun a => Int.rec (motive := fun _ => Bool) (fun b => Nat.beq a b) (fun _ => false) b) (fun a => Int.rec (motive := fun _ => Bool) (fun _ => false) (fun b => Nat.beq a b) b) a
def iLe (a b : Int) : Bool := Int.rec (motive := fun _ => Bool) (fun a => Int.rec (motive := fun _ => Bool) (fun b => Nat.ble a b) (fun _ => false) b) (fun a => Int.rec (motive := fun _ => Bool) (fun _ => true) (fun b => Nat.ble b a) b) a
def iLt (a b : Int) : Bool := not (iLe b a)
def iNat (i : Int) : Option Nat := Int.rec (motive := fun _ => Option Nat) (fun n => bt (Nat.ble n 999999) (some n) none) (fun _ => none) i
def eq0 (a b : Nat) (x y : α) : α := bt (Nat.beq a b) x y
def cod (k o : Nat) : Int := .ofNat (Nat.add (Nat.mul k 1267650600228229401496703205376) o)
structure Tb where
  lo : Nat → Nat → Option Int
  pick : List V → Int → Option V
  add : Int → Int → Option Int
  sub : Int → Int → Option Int
  pres : List (Nat × List Nat)
section
variable (T : Tb)
def ltG (a b : Int) : Option Bool := oo none (fun d => bt (iLe 0 (d + (co a - co b))) (some false) none) (T.lo (ck a) (ck b))
def ltI2 (a b : Int) : Option Bool := oo (ltG T a b) (fun d => bt (iLe 1 (d + (co b - co a))) (some true) (ltG T a b)) (T.lo (ck b) (ck a))
def ltI (a b : Int) : Option Bool := bt (Nat.beq (ck a) (ck b)) (some (iLt a b)) (ltI2 T a b)
def neI (o d : Option Bool) : Option Bool := oo d (fun c => bt c (some false) d) o
def eqI (a b : Int) : Option Bool := bt (Nat.beq (ck a) (ck b)) (some (iEq a b)) (neI (ltI2 T a b) (neI (ltI2 T b a) none))
def mvI (a b c : Int) : Option Int := bt (isC b) (bt (Nat.beq (ck c) (ck a)) (some c) none) none
structure AO where
  f : Int → Int → Option Int
def arO (op : Operator) : AO := Operator.rec (motive := fun _ => AO) ⟨fun a b => oo (mvI a b (a + b)) some (T.add a b)⟩ ⟨fun a b => oo (mvI a b (a - b)) some (T.sub a b)⟩ ⟨fun _ _ => none⟩ ⟨fun _ _ => none⟩ ⟨fun _ _ => none⟩ ⟨fun _ _ => none⟩ ⟨fun _ _ => none⟩ ⟨fun _ _ => none⟩ ⟨fun _ _ => none⟩ ⟨fun _ _ => none⟩ ⟨fun _ _ => none⟩ ⟨fun _ _ => none⟩ ⟨fun _ _ => none⟩ op
def one1 (c : Nat) : Bool := Nat.ble c 299
def wt (x : List Nat) : Nat := List.rec (motive := fun _ => Nat) 0 (fun c _ n => bt (one1 c) (Nat.succ n) (Nat.add n 5000)) x
def fitT (x : List Nat) : Bool := Nat.ble (wt x) 99999
def ixT (x : List Nat) (i : Int) : Option Nat := oo none (fun pr => oo none (fun o => bt (eqL pr (takeF x (lenF pr))) (bt (Nat.beq (lenF (takeF (dropF (lenF pr) x) o)) o) (bt (allF one1 (takeF (dropF (lenF pr) x) o)) (some (Nat.add (lenF pr) o)) none) none) none) (iNat (co i))) (luk T.pres (ck i))
def lenT (x : List Nat) : Option Int := List.rec (motive := fun _ => Option Int) none (fun q _ ih => bt (eqL q.2 (takeF x (lenF q.2))) (bt (allF one1 (dropF (lenF q.2) x)) (some (cod q.1 (lenF (dropF (lenF q.2) x)))) ih) ih) T.pres
def DT : Dm FS where
  look := fun x i => x.t.look i
  set := fun x i o => ⟨x.n, x.t.set o i⟩
  len := fun x => x.n
  push := fun x o => bt (Nat.ble x.n 255) (some ⟨Nat.succ x.n, x.t.set o x.n⟩) none
  nil := ⟨0, Tri.mk 8⟩
  ar := fun op => (arO T op).f
  lt := ltI T
  eq := eqI T
  eqb := fun x y => bt (eqL x y) (some true) none
  nat := iNat
  ix := fun l i => oo (oo none (fun n => nth l n) (iNat i)) some (T.pick l i)
  cutb := fun x a b => oo none (fun i => oo none (fun j => bt (Nat.ble i j) (bt (fitT x) (some (takeF (dropF i x) (Nat.sub j i))) none) none) (oo (some (lenF x)) (ixT T x) b)) (oo (some 0) (ixT T x) a)
  fit := fitT
  lit := isC
  raw := allF fun c => Nat.ble c 255
  blen := fun x => bt (fitT x) (lenT T x) none
  bix := fun x i => oo none (fun j => oo none (fun c => bt (Nat.ble c 255) (bt (fitT x) (some c) none) none) (nth x j)) (ixT T x i)
end
def same (a : V) : V → Bool := V.rec (motive_1 := fun _ => V → Bool) (motive_2 := fun _ => List V → Bool) (fun b => vN true false b) (fun _ _ => false) (fun i b => vI false (fun j => iEq i j) b) (fun x b => vS false (fun y => eqL x y) b) (fun x b => vY false (fun y => eqL x y) b)
  (fun _ h b => vT false (fun m => h m) b) (fun _ _ => false) (fun _ _ => false) (fun _ _ => false)
  (fun m => List.rec (motive := fun _ => Bool) true (fun _ _ _ => false) m) (fun _ _ h k m => List.rec (motive := fun _ => Bool) false (fun b m _ => bt (h b) (k m) false) m) a
def rowA (w n : List Nat) (f : Nat → Int) : V := .tup [.str w, .str n, .int (f 1)]
def boxA (g : Bool) (f : Nat → Int) : V := .tup [.str [73, 78, 66, 79, 88], .int (f 2), .int (f 3), .int (f 4), .int (f 5), .tup [.tup [.int (f 6), .byt [121], .tup [.str [92, 83, 101, 101, 110], .str [97]], .int (f 7), .int (f 8)]], .tup (bt g [.tup [.int (f 9), .int (f 10)]] [])]
def snapA (b g : Bool) (f : Nat → Int) : V := .tup [.str [115, 110, 97, 112, 115, 104, 111, 116], .int (f 1), .tup [], .tup (bt b [boxA g f, .tup [.str [97], .int (f 11), .int (f 12), .int (f 13), .int (f 14), .tup [], .tup []]] [boxA g f])]
def kCreate : List Nat := [99, 114, 101, 97, 116, 101]
def kApp : List Nat := [97, 112, 112, 101, 110, 100]
def rowK (f : Nat → Int) (i : Nat) : V := eq0 i 0 (rowA kCreate [112] f) (eq0 i 1 (rowA kCreate [113] f) (eq0 i 2 (.tup [.str kApp, .str [73, 78, 66, 79, 88], .tup [], .int (f 1), .byt [120]]) (eq0 i 3 (.tup [.str kApp, .str [73, 78, 66, 79, 88], .tup [.str [107]], .int (f 1), .byt [122]])
  (eq0 i 4 (snapA false false f) (eq0 i 5 (snapA false true f) (eq0 i 6 (snapA true false f) (snapA true true f)))))))
def isT (r : RF FS V) : Bool := RF.rec (motive := fun _ => Bool) (fun v _ => vB false (fun b => b) v) (fun _ _ => false) false r
def isV {S : Type} (w : V) (r : RF S V) : Bool := RF.rec (motive := fun _ => Bool) (fun v _ => same w v) (fun _ _ => false) false r
end
end Mine
namespace Mine
open PySem
noncomputable section
def divI (a b : Int) : Option Int := Int.rec (motive := fun _ => Option Int) (fun n => bt (Nat.ble 1 n) (bt (Nat.ble n 1000000000) (some (Int.rec (motive := fun _ => Int) (fun m => .ofNat (Nat.div m n)) (fun m => .negSucc (Nat.div m n)) a)) none) none) (fun _ => none) b
def modI (a b : Int) : Option Int := Int.rec (motive := fun _ => Option Int) (fun n => bt (Nat.ble 1 n) (Int.rec (motive := fun _ => Option Int) (fun m => some (.ofNat (Nat.mod m n))) (fun _ => none) a) none) (fun _ => none) b
def big : Nat := Nat.pow 2 720
def mulI (a b : Int) : Option Int := bt (Nat.ble a.natAbs big) (bt (Nat.ble b.natAbs big) (some (a * b)) none) none
def shrI (a b : Int) : Option Int := Int.rec (motive := fun _ => Option Int) (fun n => bt (Nat.ble n 64) (Int.rec (motive := fun _ => Option Int) (fun m => some (.ofNat (Nat.div m (Nat.pow 2 n)))) (fun _ => none) a) none) (fun _ => none) b
def andI (a b : Int) : Option Int := bt (iEq b (.ofNat 255)) (Int.rec (motive := fun _ => Option Int) (fun m => some (.ofNat (Nat.mod m 256))) (fun _ => none) a) none
def powI (a b : Int) : Option Int := bt (iEq a (.ofNat 10)) (bt (iEq b (.ofNat 50)) (some (.ofNat 100000000000000000000000000000000000000000000000000)) none) none
def arX (op : Operator) : AO := Operator.rec (motive := fun _ => AO) ⟨fun a b => some (a + b)⟩ ⟨fun a b => some (a - b)⟩ ⟨mulI⟩ ⟨fun _ _ => none⟩ ⟨fun _ _ => none⟩ ⟨modI⟩ ⟨powI⟩ ⟨fun _ _ => none⟩ ⟨shrI⟩ ⟨fun _ _ => none⟩ ⟨fun _ _ => none⟩ ⟨andI⟩ ⟨divI⟩ op
def endX (d : Nat) (o : Option Int) : Option Nat := oo (some d) iNat o
def DX : Dm (List MO) where
  look := nth
  set := fun x i o => setN x o i
  len := lenF
  push := fun x o => some (app x [o])
  nil := []
  ar := fun op => (arX op).f
  lt := fun a b => some (iLt a b)
  eq := fun a b => some (iEq a b)
  eqb := fun x y => some (eqL x y)
  nat := iNat
  ix := fun l i => oo none (fun n => nth l n) (iNat i)
  cutb := fun x a b => oo none (fun i => oo none (fun j => bt (Nat.ble i j) (bt (Nat.ble j (lenF x)) (bt (smallF x) (some (takeF (dropF i x) (Nat.sub j i))) none) none) none) (endX (lenF x) b)) (endX 0 a)
  fit := fun x => Nat.ble (lenF x) 99999
  lit := fun _ => true
  raw := fun _ => true
  blen := fun x => bt (smallF x) (some (.ofNat (lenF x))) none
  bix := fun x i => oo none (fun n => bt (smallF x) (nth x n) none) (iNat i)
def noOrc (S : Type) : Addr → List V → S → Option (RF S V) := fun _ _ _ => none
abbrev SX (P : Prg) (n : Nat) : SemF (List MO) := sem DX P (noOrc _) n
end
end Mine
namespace Mine
open PySem
noncomputable section
def xA (k : Nat) : Int := cod k 0
def encT (v : V) : List Nat := V.rec (motive_1 := fun _ => List Nat) (motive_2 := fun _ => List Nat) [] (fun _ => []) (fun i => [105, Nat.add 300 (ck i)]) (fun s => 116 :: lenF s :: s) (fun b => 111 :: lenF b :: b) (fun l e => 114 :: lenF l :: e) (fun _ => []) (fun _ => []) (fun _ => []) [] (fun _ _ x y => app x y) v
def ends (x : List Nat) : Nat → List Nat := List.rec (motive := fun _ => Nat → List Nat) (fun _ => []) (fun c _ ih n => bt (one1 c) (ih (Nat.succ n)) (Nat.succ n :: ih (Nat.succ n))) x
def presF (b : Nat) (x : List Nat) : List (Nat × List Nat) := List.rec (motive := fun _ => Nat → List (Nat × List Nat)) (fun _ => []) (fun j _ ih b => (b, takeF x j) :: ih (Nat.succ b)) (ends x 0) b
def eE (i : Nat) : List Nat := encT (rowK xA i)
def frameT (i : Nat) : List Nat := app [351, 256, 257, 258, 259] (eE i)
def datT (i : Nat) : List Nat := 350 :: app (frameT i) [352]
def presC (i : Nat) : List (Nat × List Nat) := (0, []) :: app (presF 65 (eE i)) (presF 100 (datT i))
def w1 (x : List Nat) : Nat := List.rec (motive := fun _ => Nat) 0 (fun c _ n => bt (bt (Nat.beq c 350) true (Nat.beq c 352)) n (Nat.succ n)) x
def loP (ps : List (Nat × List Nat)) (k l : Nat) : Option Int := oo none (fun x => oo none (fun y => bt (eqL y (takeF x (lenF y))) (some (.ofNat (w1 (dropF (lenF y) x)))) none) (luk ps l)) (luk ps k)
def loC (i : Nat) (k l : Nat) : Option Int := bt (Nat.ble 1000 k) (eq0 l 0 (loP (presC i) (Nat.div (Nat.sub k 1000) 200) (Nat.mod (Nat.sub k 1000) 200)) none) (loP (presC i) k l)
def atC (i : Nat) (x : List Nat) : Int := oo 0 (fun c => c) (lenT ⟨fun _ _ => none, fun _ _ => none, fun _ _ => none, fun _ _ => none, presC i⟩ x)
def TC (i : Nat) : Tb where
  lo := loC i
  pick := fun _ _ => none
  add := fun a b => bt (iEq a (atC i [350, 351] + 4)) (bt (iEq b (atC i (eE i))) (some (atC i (350 :: frameT i))) none) none
  sub := fun a b => oo none (fun x => oo none (fun y => bt (Nat.ble (ck a) 199) (bt (Nat.ble (ck b) 199) (some (cod (Nat.add 1000 (Nat.add (Nat.mul (ck a) 200) (ck b))) 0 + (Int.ofNat x - Int.ofNat y))) none) none) (iNat (co b))) (iNat (co a))
  pres := presC i
structure Orc where
  f : Option (List V → Option V)
def at0 (c : Int) (a b : Nat) (k : Nat → Option V) : Option V := bt (iEq (co c) 0) (bt (Nat.ble a (ck c)) (bt (Nat.ble (ck c) b) (k (Nat.sub (ck c) a)) none) none) none
def numC (i t : Nat) : Option Int := bt (Nat.ble t 127) (some (.ofNat t)) (bt (bt (Nat.ble 301 t) (Nat.ble t 314) false) (some (cod (Nat.sub t 250) 0)) (eq0 t 351 (some (atC i (eE i))) none))
def readC (i : Nat) (vs : List V) (x : FS) : Option (RF FS V) := a2 none (fun v w => vY none (fun l => vI none (fun c => bt (fitT l) (oo none (fun j => eq0 j (lenF l) (some (.exc 64 x))
  (oo none (fun t => oo none (fun m => on (fun n => .ok (.tup [.int m, .int n]) x) (lenT (TC i) (takeF l (Nat.succ j)))) (numC i t)) (nth l j))) (ixT (TC i) l c)) none) w) v) vs
def orK (i a : Nat) : Orc :=
  eq0 a 269 ⟨some fun vs => a1 none (fun v => vI none (fun c => oo (bt (iEq c (atC i (eE i))) (some (.byt [351])) (at0 c 51 64 fun k => some (.byt [Nat.add 301 k]))) (fun n => bt (Nat.ble n 127) (some (.byt [n])) none) (iNat c)) v) vs⟩
  (eq0 a 283 ⟨some fun vs => a1 none (fun v => vI none (fun c => at0 c 1 14 fun k => some (.int (cod (Nat.add 51 k) 0))) v) vs⟩
  (eq0 a 290 ⟨some fun vs => a1 none (fun v => vI none (fun c => at0 c 51 64 fun k => some (.int (xA (Nat.succ k)))) v) vs⟩
  (eq0 a 351 ⟨some fun vs => a1 none (fun v => vY none (fun x => bt (eqL x (eE i)) (some (.int (cod 50 0))) none) v) vs⟩
  (eq0 a 358 ⟨some fun vs => a1 none (fun v => vI none (fun c => bt (iEq c (cod 50 0)) (some (.byt [256, 257, 258, 259])) none) v) vs⟩ ⟨none⟩))))
def orcC (i a : Nat) (vs : List V) (x : FS) : Option (RF FS V) := eq0 a 276 (readC i vs x) (oo none (fun g => on (fun v => .ok v x) (g vs)) (orK i a).f)
def clC (i a : Nat) (vs : List V) : RF FS V := (sem (DT (TC i)) (PP noL) (orcC i) 130).cl a vs (DT (TC i)).nil
def okC (i : Nat) : Bool := bt (isV (.byt (frameT i)) (clC i 365 [rowK xA i])) (bt (isV (.tup [rowK xA i, .int (atC i (350 :: frameT i))]) (clC i 372 [.byt (datT i), .int (atC i [350])])) (isV .none (clC i 497 [rowK xA i])) false) false
end
end Mine
namespace Mine
open PySem
noncomputable section
def aDN : Int := cod 1 0
def aNEXT : Int := cod 2 0
def aDU : Int := cod 3 0
def aUID : Int := cod 4 0
def aDT : Int := cod 5 0
def aTOP : Int := cod 6 0
def aDM : Int := cod 7 0
def aMOD : Int := cod 8 0
def aFLIX : Int := cod 9 0
def aFLOOR : Int := cod 10 0
def aDG : Int := cod 11 0
def aGONE : Int := cod 12 0
def aFOIX : Int := cod 13 0
def aFOL : Int := cod 14 0
def aSP : Int := cod 15 0
def uMax : Int := .ofNat 4294967295
def mMax : Int := .ofNat 9223372036854775807
structure Sh where
  t : Nat
  sp : Nat
  hg : Nat
  sb : Nat
  fo : Nat
  dn : Bool
  dt : Bool
def Sh.first (s : Sh) : Int := .ofNat (Nat.add s.t 2)
def loS (s : Sh) : List (Nat × Int) := [(2, bt s.dn (.ofNat 4294967296) (.ofNat 4294967293)), (4, .ofNat 4294967290), (6, bt s.dt (.ofNat 9223372036854775806) (.ofNat 9223372036854775803)), (8, .ofNat 9223372036854775801), (10, .ofNat 0), (12, .ofNat 9223372036854775801), (14, eq0 s.fo 2 (.ofNat 4294967294) s.first), (15, .ofNat 10)]
def hiS (s : Sh) : List (Nat × Int) := [(2, bt s.dn (.negSucc 4294967295) (eq0 s.sp 10 (.negSucc 4294967294) (.negSucc 4294967295))), (4, .negSucc 4294967294), (6, bt s.dt (.negSucc 9223372036854775806) (eq0 s.sp 10 (.negSucc 9223372036854775804) (.negSucc 9223372036854775806))), (8, .negSucc 9223372036854775806), (10, .negSucc 9223372036854775803), (12, .negSucc 9223372036854775806), (14, .negSucc 4294967294), (15, .negSucc 12)]
def twoS : List (Nat × Int) := [(204, .ofNat 1), (402, .negSucc 2), (608, .ofNat 0), (806, .negSucc 1), (610, .ofNat 3), (612, .ofNat 0), (1210, .ofNat 1)]
def loN (s : Sh) (k l : Nat) : Option Int := eq0 l 0 (luk (loS s) k) (eq0 k 0 (luk (hiS s) l) (bt (Nat.ble l 99) (luk twoS (Nat.add (Nat.mul k 100) l)) none))
def Sh.fol (s : Sh) : Int := eq0 s.fo 0 s.first aFOL
def l3 (f : Int → Int → Int → Bool) (r : Int) (l : List V) : Option V := List.rec (motive := fun _ => Option V) none (fun a l _ => a2 none (fun b c => vI none (fun a => vI none (fun b => vI none (fun c => bt (f a b c) (some (.int r)) none) c) b) a) l) l
def pickS (s : Sh) (l : List V) (i : Int) : Option V :=
  bt (iEq i aFLIX) (l3 (fun a b c => bt (iEq a 0) (bt (iEq b 5) (iEq c (aTOP - 3)) false) false) aFLOOR l)
  (bt (iEq i aFOIX) (l3 (fun a b c => bt (iEq a s.first) (bt (iEq b (uMax - 1)) (iEq c uMax) false) false) s.fol l) none)
def subS (a b : Int) : Option Int :=
  bt (iEq b aDN) (bt (iEq a (uMax + 1)) (some aNEXT) none)
  (bt (iEq b aDU) (bt (iEq a (aNEXT - 1)) (some aUID) none)
  (bt (iEq b aDT) (bt (iEq a mMax) (some aTOP) none)
  (bt (iEq b aDM) (bt (iEq a aTOP) (some aMOD) none)
  (bt (iEq b aDG) (bt (iEq a aTOP) (some aGONE) none) none))))
def Sh.fol2 (s : Sh) : Int := eq0 s.sp 0 (uMax + 1) (eq0 s.sp 1 (s.first - 1) s.fol)
def Sh.two (s : Sh) : Bool := bt (Nat.beq s.sb 1) (eq0 s.sp 0 true (eq0 s.sp 1 (Nat.ble 2 s.t) (eq0 s.t 0 (Nat.beq s.fo 2) true))) false
def Sh.leafs (s : Sh) : List Int := [0, s.fol2, eq0 s.sp 8 s.fol2 1, eq0 s.sp 2 (uMax + 2) aNEXT, eq0 s.sp 3 (mMax + 1) aTOP, eq0 s.sp 6 (aTOP + 1) aFLOOR, eq0 s.sp 4 aNEXT aUID, -1, eq0 s.sp 5 (aTOP + 1) aMOD, eq0 s.sp 7 aUID 3, eq0 s.sp 9 (aTOP + 1) aGONE, s.fol2 - 1, 1, 1, 0]
def Sh.kind (s : Sh) : Nat := Nat.add (bt s.two 6 4) (bt (bt (Nat.beq s.hg 1) true (bt (Nat.beq s.sp 7) true (Nat.beq s.sp 9))) 1 0)
structure Rw where
  i : Nat
  l : List Int
def Rw.f (r : Rw) (k : Nat) : Int := oo 0 (fun c => c) (nth r.l k)
def Rw.row (r : Rw) : V := rowK r.f r.i
def Sh.rws (s : Sh) : List Rw := app (eq0 s.t 0 [] (eq0 s.t 1 [⟨0, [0, 2]⟩] [⟨0, [0, 2]⟩, ⟨1, [0, 3]⟩])) [⟨2, [0, 0]⟩, ⟨s.kind, s.leafs⟩, ⟨3, [0, 7]⟩]
def Sh.rows (s : Sh) : List V := mapF Rw.row s.rws
def toks (n : Nat) : Nat → List Nat := Nat.rec (motive := fun _ => Nat → List Nat) (fun _ => []) (fun _ ih k => k :: ih (Nat.succ k)) n
def Sh.log (s : Sh) : List Nat := toks (lenF s.rws) 300
def presS (n : Nat) : List (Nat × List Nat) := (0, []) :: presF 21 (toks n 300)
section
variable (s : Sh)
def TS : Tb where
  lo := loN s
  pick := pickS s
  add := fun _ _ => none
  sub := subS
  pres := presS (lenF s.rws)
def DS : Dm FS := DT (TS s)
def rowIx (v : V) (l : List V) : Nat → Option Nat := List.rec (motive := fun _ => Nat → Option Nat) (fun _ => none) (fun r _ ih k => bt (same v r) (some k) (ih (Nat.succ k))) l
def posC (j : Nat) : Int := eq0 j 0 (.ofNat 0) (cod (Nat.add 20 j) 0)
def manyN : List Nat := [2, 13, 2, 3, 2, 4, 2, 2, 2, 1, 1]
def Sh.drawn (s : Sh) : List Int := [.ofNat s.t, eq0 s.sp 10 aSP (.ofNat s.sp), aFOIX, aDN, aDU, aDT, aDM, aFLIX, aDG, .ofNat s.hg, .ofNat s.sb]
def words : List V := [.str [73, 78, 66, 79, 88], .str [112], .str [113], .str [97]]
def flagsOk : List V := [.tup [], .tup [.str [92, 83, 101, 101, 110], .str [97]], .tup [.str [107]]]
def idO (l : List V) : Orc := ⟨some fun vs => a1 none (fun v => bt (anyF (fun u => same v u) l) (some v) none) vs⟩
def rowAt (l : List Nat) (i : Int) : Option V := oo none (fun j => bt (eqL l (takeF s.log (lenF l))) (eq0 j (lenF l) (some .none) (on (fun r => .tup [r, .int (posC (Nat.succ j))]) (nth s.rows j))) none) (ixT (TS s) l i)
def orM (a : Nat) : Orc :=
  eq0 a 365 ⟨some fun vs => a1 none (fun v => on (fun j => .byt [Nat.add 300 j]) (rowIx v s.rows 0)) vs⟩
  (eq0 a 372 ⟨some fun vs => a2 none (fun v w => vY none (fun l => vI none (fun i => rowAt s l i) w) v) vs⟩
  (eq0 a 497 ⟨some fun vs => a1 none (fun v => on (fun _ => .none) (rowIx v s.rows 0)) vs⟩
  (eq0 a 504 (idO words) (eq0 a 398 (idO words) (eq0 a 106 (idO flagsOk) ⟨none⟩)))))
def psK (c : Nat) (o : Option MO) : Option Nat := oo none (fun o => MO.rec (motive := fun _ => Option Nat) (fun _ => none) (fun _ => none) (fun _ _ => none) (fun _ => none) (fun c' k => eq0 c c' (some k) none) o) o
def jarR (l : Addr) (vs : List V) (x : FS) : RF FS V := a1 .bad (fun v => vR .bad (fun r => gd (Nat.beq r l) (gd (Nat.beq x.n 0) (.ok (.obj 1) ((DS s).set ((DS s).set ⟨2, x.t⟩ 0 (.ps 0 0)) 1 (.ps 1 0))))) (fun _ => .bad) v) vs
def pullO (vs : List V) (x : FS) : Option (Int × Nat) := a2 none (fun v w => vO none (fun i => vI none (fun m => bt (Nat.beq i 1) (oo none (fun k => oo none (fun k' => bt (Nat.beq k k')
  (oo none (fun m' => bt (iEq m (.ofNat (Nat.succ m'))) (on (fun c => (c, k)) (nth s.drawn k)) none) (nth manyN k)) none) (psK 1 (x.t.look 1))) (psK 0 (x.t.look 0))) none) w) v) vs
def pullR (vs : List V) (x : FS) : RF FS V := oo .bad (fun q => .ok (.int q.1) ((DS s).set ((DS s).set x 0 (.ps 0 (Nat.succ q.2))) 1 (.ps 1 (Nat.succ q.2)))) (pullO s vs x)
def orcS (l : Addr) (a : Nat) (vs : List V) (x : FS) : Option (RF FS V) := eq0 a 694 (some (jarR s l vs x)) (eq0 a 701 (some (pullR s vs x)) (oo none (fun g => some (ob x (g vs))) (orM s a).f))
def runS (l : Addr) : RF FS V := (sem (DS s) (PP noL) (orcS s l) 98).cl 722 [.ref l] (DS s).nil
end
end
end Mine
namespace Mine
open PySem PyProof.Rows PySem.W
open PySem.Builtin PySem.Builtin.Str
noncomputable section
theorem fold_size {γ : Type} (mk : List Nat → γ) (sz : γ → Nat) (k : Nat) (h : ∀ b, sz (mk b) = lenF b) (l : List (List Nat)) : ∀ a, (l.map mk).foldl (fun n x => n + sz x + k) a = a + joinSize k l := by
  induction l with
  | nil => exact fun a => rfl
  | cons b l ih =>
    intro a
    rw [List.map_cons, List.foldl_cons, ih, h, Nat.add_assoc, Nat.add_assoc]
    show a + (lenF b + (k + joinSize k l)) = a + (lenF b + k + joinSize k l)
    rw [Nat.add_assoc]
theorem strs_vals {p : Mp} {h : Heap} {ι : Io} (l : List (Str × Tok)) : VRL p h ι (mapF .str ((l.map (·.1)).map fun t => t.cps.toList)) (strValues l) := by
  induction l with
  | nil => rfl
  | cons a l ih => exact ⟨⟨a.2, rfl⟩, ih⟩
theorem vals_strs {ss : List Str} {ws : List Value} (r : StrsAre ws ss) : ∃ l : List (Str × Tok), ws = strValues l ∧ l.map (·.1) = ss := by
  induction r with
  | nil => exact ⟨[], rfl, rfl⟩
  | cons y t r ih => refine ob_EA ih fun l z1 z2 => ?_; subst z1; subst z2; exact ⟨(y, t) :: l, rfl, rfl⟩
theorem joinL_eq (sep : List Nat) (l : List (List Nat)) : Str.join (mkS sep) (l.map mkS) = mkS (joinL sep l) := by
  induction l with
  | nil => rfl
  | cons a l ih =>
    cases l with
    | nil => rfl
    | cons b r =>
      show mkS a ++ mkS sep ++ Str.join (mkS sep) ((b :: r).map mkS) = mkS (app a (app sep (joinL sep (b :: r))))
      rw [ih, app_eq, app_eq]
      show (⟨a.toArray ++ sep.toArray ++ (joinL sep (b :: r)).toArray⟩ : Str) = ⟨(a ++ (sep ++ joinL sep (b :: r))).toArray⟩
      rw [← List.append_toArray, ← List.append_toArray, Array.append_assoc]
theorem joinL_nil (l : List (List Nat)) : joinL [] l = l.flatten := by
  induction l with
  | nil => rfl
  | cons a l ih =>
    cases l with
    | nil => exact (List.append_nil a).symm
    | cons b r =>
      show app a (joinL [] (b :: r)) = _
      rw [ih, app_eq]; rfl
theorem joined_go (l : List (List Nat)) : ∀ (k : Nat) (acc : Array UInt8), ((l.map toB).zipIdx k).foldl (fun out (x : Array UInt8 × Nat) => (if x.2 > 0 then out ++ (#[] : Array UInt8) else out) ++ x.1) acc = acc ++ toB l.flatten := by
  induction l with
  | nil => exact fun k acc => Array.append_empty.symm
  | cons a r ih =>
    intro k acc
    rw [List.map_cons, List.zipIdx_cons, List.foldl_cons, ih, List.flatten_cons, ← toB_append, ← Array.append_assoc, Array.append_empty, ite_self]
theorem joined_nil (l : List (List Nat)) : Bytes.joined #[] (l.map toB) = toB (joinL [] l) := by
  rw [joinL_nil]
  exact (joined_go l 0 #[]).trans Array.empty_append
theorem lower_same {l : List Nat} (h1 : ascii l = true) : Txt.lower (mkS l) = mkS (mapF lower1 l) := by
  have e : lo1 = lower1 := funext fun c => by
    unfold lo1 lower1
    by_cases h : 65 ≤ c ∧ c ≤ 90
    · rw [if_pos h, Nat.ble_eq_true_of_le h.1, Nat.ble_eq_true_of_le h.2]; rfl
    · rw [if_neg h]
      by_cases h1 : 65 ≤ c
      · rw [show Nat.ble c 90 = false from Bool.eq_false_iff.mpr fun q => h ⟨h1, Nat.le_of_ble_eq_true q⟩]; cases Nat.ble 65 c <;> rfl
      · rw [show Nat.ble 65 c = false from Bool.eq_false_iff.mpr fun q => h1 (Nat.le_of_ble_eq_true q)]; rfl
  rw [mapF_eq, ← e]
  refine (lower_ascii (x := mkS l) fun c m => ?_).trans ?_
  · unfold ascii at h1
    rw [allF_eq] at h1
    exact Nat.lt_succ_of_le (Nat.le_of_ble_eq_true (List.all_eq_true.mp h1 c m))
  · show (⟨Array.map lo1 l.toArray⟩ : Str) = ⟨(l.map lo1).toArray⟩
    rw [List.map_toArray]
section
variable {S : Type} {C : Cst S} {F : Fr} {W : Wd S} {α β : Type} {t : Sem β} {r : RF S α} {R : Rl S α β} {vs : List V} {ws : List Value} {u : Tok}
theorem Run.one {γ : Type} {y : List γ} {g : γ → RF S α} (h : ∀ c, y = [c] → Run C F W t (g c) R) : Run C F W t (List.rec (motive := fun _ => RF S α) .bad (fun c r _ => List.rec (motive := fun _ => RF S α) (g c) (fun _ _ _ => .bad) r) y) R := by
  rcases y with _ | ⟨c, _ | _⟩ <;> first | exact .bad | exact h c rfl
theorem Run.none0 {γ : Type} {y : List γ} {g : RF S α} (h : y = [] → Run C F W t g R) : Run C F W t (List.rec (motive := fun _ => RF S α) g (fun _ _ _ => .bad) y) R := by
  cases y <;> first | exact .bad | exact h rfl
theorem split_m (ok : DmOk C.D C.p) {x : List Nat} (ra : VVL C W vs ws) : Run C F W (call (.builtin "str.split") (.str (mkS x) u :: ws)) (mSplit C.D x vs W.σ) (VV C) :=
  .a1 (k := fun ws => call (.builtin "str.split") (.str (mkS x) u :: ws)) ra fun v y r => .xS (k := fun y => call (.builtin "str.split") [.str (mkS x) u, y]) r fun s t => .one fun c e => .gd fun g => .newL ok fun T Q E p => by
    subst e
    refine split_call rfl (fun l k e => p _ _ k (strValues l) 0 (Kp.push _ _) (get_fresh _) (Heap.get?_push_size _ rfl) ?_) ?_
    · unfold splitF
      rw [← show l.map (·.1) = Txt.split ⟨x.toArray⟩ ⟨#[c]⟩ from e]; exact strs_vals l
    · have := ble_small g
      rw [lenF_eq] at this
      exact Nat.le_trans (Nat.add_le_add_right (Nat.le_of_lt this) 2) (by decide)
theorem find_m (ok : DmOk C.D C.p) {x : List Nat} (ra : VVL C W vs ws) : Run C F W (call (.builtin "str.find") (.str (mkS x) u :: ws)) (mFind C.D x vs W.σ) (VV C) :=
  .a1 (k := fun ws => call (.builtin "str.find") (.str (mkS x) u :: ws)) ra fun v y r => .xS (k := fun y => call (.builtin "str.find") [.str (mkS x) u, y]) r fun s t => .one fun c e => .bt (fun _ => .bad) fun g => .gd fun hx => .lib fun T Q E p => by
    subst e
    refine call_gives PySem.F.slot_str_find (typeIs_str _ _ _) PySem.F.entry_str_find (PySem.F.args_str_find_2 _ _) (gives_str_find _ _ u t) ?_
    have : occurrences (mkS x) ⟨[c].toArray⟩ 0 (mkS x).length 1 = [] := List.isEmpty_iff.mp (by
      have e := PySem.StrLaws.found_one (mkS x) c
      rw [any_nat] at g
      cases q : (occurrences (mkS x) ⟨[c].toArray⟩ 0 (mkS x).length 1).isEmpty with
      | true => rfl
      | false => exact nomatch ((show false = true from (by
          have := e.trans g
          rw [show (⟨#[c]⟩ : Str) = ⟨[c].toArray⟩ from rfl, q] at this
          exact this.symm))))
    rw [this]
    exact p _ _ ⟨W.tk, by rw [ok.lit hx]; rfl⟩
theorem lower_m {x : List Nat} (ra : VVL C W vs ws) : Run C F W (call (.builtin "str.lower") (.str (mkS x) u :: ws)) (mLower x vs W.σ) (VV C) := .none0 fun e => .gd fun g1 => .gd fun g2 => .lib fun T Q E p => by
  subst e
  rw [show ws = [] from ra]
  have e : (⟨placed (mkS x) fun i _ => Unicode.lowerAt (mkS x).cps i⟩ : Str) = mkS (mapF lower1 x) := lower_same g1
  have e2 : placed (mkS x) (fun i _ => Unicode.lowerAt (mkS x).cps i) = (mkS (mapF lower1 x)).cps := congrArg Str.cps e
  have h2 : (mapF lower1 x).length ≤ sizeLine := by
    rw [mapF_eq, List.length_map, ← lenF_eq]; exact Nat.le_trans (Nat.le_of_lt (ble_small g2)) (by decide)
  refine call_gives PySem.F.slot_str_lower (typeIs_str _ _ _) PySem.F.entry_str_lower (PySem.F.args_str_lower_1 _) (gives_str_lower _ u ?_) ?_
  · rw [e2]
    exact decide_eq_false (Nat.not_lt.mpr h2)
  · rw [e]
    exact ⟨h2, p _ _ ⟨_, rfl⟩⟩
theorem join_m {x : List Nat} (ra : VVL C W vs ws) : Run C F W (call (.builtin "str.join") (.str (mkS x) u :: ws)) (mJoin C.D x vs W.σ) (VV C) :=
  .a1 (k := fun ws => call (.builtin "str.join") (.str (mkS x) u :: ws)) ra fun v y r => .xO (k := fun y => call (.builtin "str.join") [.str (mkS x) u, y]) r fun i a d pl => .oL pl (fun l ws pl L r2 => .oo fun ss e => .gd fun g => .lib fun T Q E p => by
    refine ob_EA (vals_strs (strs_are l e r2)) fun l' z1 h2 => ?_; subst z1
    have g := ble_small g
    have hf := fold_size mkS (fun x => x.length) (lenF x) (fun b => (lenF_eq b).symm) ss 0
    rw [Nat.zero_add] at hf
    have hsz : tooLong ((l'.map (·.1)).toArray.foldl (· + ·.length + (mkS x).length) 0) = false := by
      rw [h2, ← Array.foldl_toList, show (mkS x).length = lenF x from (lenF_eq x).symm, hf]
      exact decide_eq_false (Nat.not_lt.mpr (Nat.le_trans (Nat.le_of_lt g) (by decide)))
    have hj : glued (mkS x) (l'.map (·.1)) = mkS (joinL x ss) := by rw [h2, StrLaws.glued_eq_join, joinL_eq]
    have hl : (joinL x ss).length ≤ joinSize (lenF x) ss := by
      clear hj hsz hf h2 g e p
      rename_i g; clear g
      induction ss with
      | nil => exact Nat.le_refl 0
      | cons a r ih =>
        cases r with
        | nil => exact Nat.le_trans (Nat.le_of_eq (lenF_eq a).symm) (Nat.le_add_right ..)
        | cons b r =>
          show (app a (app x (joinL x (b :: r)))).length ≤ lenF a + lenF x + joinSize (lenF x) (b :: r)
          rw [app_eq, app_eq, List.length_append, List.length_append, ← Nat.add_assoc, lenF_eq a, lenF_eq x]
          exact Nat.add_le_add_left (lenF_eq x ▸ ih) _
    refine call_meets PySem.F.slot_str_join (typeIs_str _ _ _) PySem.F.entry_str_join (PySem.F.args_str_join_2 _ _) (meets_str_join_list _ u a l' hsz) ⟨L, ?_⟩
    have big : ∀ l2 : List (Str × Tok), glued (mkS x) (l2.map (·.1)) = mkS (joinL x ss) → (Made.str (glued (mkS x) (l2.map (·.1)))).post (fun v s' => wants Q E (.ok (.ret v)) s') (C.st W) := fun l2 e => by
      rw [e]
      exact ⟨Nat.le_trans hl (Nat.le_trans (Nat.le_of_lt g) (by decide)), p _ _ ⟨_, rfl⟩⟩
    rcases l' with _ | ⟨p1, _ | ⟨p2, l2⟩⟩
    · exact big [] hj
    · have e1 : p1.1 = mkS (joinL x ss) := hj
      show wants Q E (.ok (.ret (.str p1.1 p1.2))) (C.st W)
      rw [e1]
      exact p _ W.tk ⟨_, rfl⟩
    · exact big (p1 :: p2 :: l2) hj) .bad
theorem flat_tok (f : Nat → List Nat) (l : List (List Nat)) : (l.map (List.flatMap f)).flatten = l.flatten.flatMap f := by
  induction l with
  | nil => rfl
  | cons a l ih => rw [List.map_cons, List.flatten_cons, List.flatten_cons, List.flatMap_append, ih]
theorem joinSize_nil (l : List (List Nat)) : joinSize 0 l = l.flatten.length := by
  induction l with
  | nil => rfl
  | cons a l ih =>
    show lenF a + 0 + joinSize 0 l = _
    rw [ih, List.flatten_cons, List.length_append, lenF_eq]; rfl
theorem byts_are {p : Mp} {h : Heap} {ι : Io} (l : List V) : ∀ {bs : List (List Nat)} {ws : List Value}, mapO bytOf l = some bs → VRL p h ι l ws → ∃ ps : List (Array UInt8 × Tok), ws = ps.map (fun p => Value.bytes p.1 p.2) ∧ ps.map (·.1) = (bs.map (List.flatMap p.tok)).map toB ∧ ∀ b ∈ bs.map (List.flatMap p.tok), Mine.Bytes b := by
  induction l with
  | nil => intro bs ws e r; injection e with z1; subst z1; rw [show ws = [] from r]; exact ⟨[], rfl, rfl, fun _ m => nomatch m⟩
  | cons v l ih =>
    intro is ws e r
    refine ob_EEAA (mapO_cons e) fun b r' e1 e2 z1 => ?_; subst z1
    refine ob_EEAA r.cons_inv fun w u z1 r1 r2 => ?_; subst z1
    refine ob_EA (vY_some e1) fun x z1 e1 => ?_; subst z1
    injection e1 with z1; subst z1
    refine ob_A r1 fun z1 hb => ?_; obtain ⟨t, rfl⟩ := z1
    refine ob_EAA (ih e2 r2) fun ps z1 h2 h3 => ?_; subst z1
    exact ⟨(_, t) :: ps, rfl, congrArg (_ :: ·) h2, List.forall_mem_cons.mpr ⟨hb, h3⟩⟩
theorem bjoin_m (ok : DmOk C.D C.p) {x : List Nat} (ra : VVL C W vs ws) : Run C F W (call (.builtin "bytes.join") (.bytes (toB (x.flatMap C.p.tok)) u :: ws)) (mBjoin C.D x vs W.σ) (VV C) :=
  .a1 (k := fun ws => call (.builtin "bytes.join") (.bytes (toB (x.flatMap C.p.tok)) u :: ws)) ra fun v y r => .xO (k := fun y => call (.builtin "bytes.join") [.bytes (toB (x.flatMap C.p.tok)) u, y]) r fun i a d pl => .oL pl (fun l ws pl L r2 => .oo fun ss e => .none0 fun e0 => .gd fun g => .lib fun T Q E p => by
    subst e0
    refine ob_EAA (byts_are l e r2) fun ps z1 h2 h3 => ?_; subst z1
    have g := Nat.le_trans (Nat.le_of_lt (ok.fit g)) (by decide : 100000 ≤ sizeLine)
    have hf := fold_size toB (fun x => x.size) 0 (fun b => (toB_size b).trans (lenF_eq b).symm) (ss.map (List.flatMap C.p.tok)) 0
    have p' : ∀ u k, Mine.Bytes ((joinL [] ss).flatMap C.p.tok) → Q (.bytes (toB ((joinL [] ss).flatMap C.p.tok)) u) (C.sh W.h k) := fun u k hb => p _ k ⟨⟨u, rfl⟩, hb⟩
    clear p
    rw [joinL_nil, ← flat_tok] at g p'
    generalize ss.map (List.flatMap C.p.tok) = ss at *
    rw [Nat.zero_add, joinSize_nil] at hf
    have hj : Bytes.joined #[] (ps.map (·.1)) = toB ss.flatten := by rw [h2, ← joinL_nil]; exact joined_nil ss
    refine join_call L ?_ ?_ (fun p1 hp => ?_) fun u k => ?_
    · refine Nat.le_trans (Nat.le_of_eq (congrArg Array.size hj)) ?_
      rw [toB_size]; exact g
    · rw [h2]
      refine decide_eq_false (Nat.not_lt.mpr ?_)
      rw [← Array.foldl_toList]
      exact Nat.le_trans (Nat.le_of_eq ((congrArg (fun n => List.foldl _ n _) (Nat.zero_mul _)).trans hf)) g
    · rw [hp]
      exact Array.empty_append.symm
    · exact (congrArg (fun b => Q (.bytes b u) (C.sh W.h k)) hj.symm).mp (p' u k fun c m => ob_EA (List.mem_flatten.mp m) fun b hb hc => h3 b hb c hc)) .bad
theorem Run.turn {γ : Type} {t : Sem γ} {R : Rl S V γ} {i : Nat} {a b : Addr} {d : Option Addr} {mo : MO} (y : γ) (hr : ∀ W', R W' .none y) (ok : DmOk C.D C.p) (pl : Pl W.ι i a d) (hb : b = a ∨ d = some b)
    (h : Sat C F W → ∀ (Q : γ → Shared → Prop) E, (∀ h' tk, Heap.SameBut b W.h h' → (∃ o, h'.get? b = some o) → (Lat [] F.envs W.ι W.ι W.h h' → OR C.prog C.w C.p h' W.ι a d mo) → Q y (C.sh h' tk)) → wpC C.M F.A t Q E (C.st W)) :
    Run C F W t (.ok .none (C.D.set W.σ i mo)) R := ⟨fun T Q E p => h T Q E fun h' tk hs hd O =>
  have L := Lat.upd (envs := F.envs) pl hb hs hd
  p ⟨W.ι, C.D.set W.σ i mo, h', tk⟩ y rfl ⟨T, T.upd ok pl hb hs hd (O L), L⟩ (hr _)⟩
theorem Run.oLp {f : List V → RF S α} {r : RF S α} {i : Nat} {a : Addr} {d : Option Addr} (pl : Pl W.ι i a d) (h : ∀ l ws, Pl W.ι i a none → W.h.PlainList a ws.toArray → VVL C W l ws → Run C F W t (f l) R) (h' : Run C F W t r R) : Run C F W t (Mine.oL r f (C.D.look W.σ i)) R := .sat fun T => by
  cases e : C.D.look W.σ i with
  | none => exact h'
  | some o =>
    cases o with
    | list l =>
      refine ob_EEAAEEA (T.objs i _ e) fun a' d' e' z1 n ws g q => ?_; subst z1
      refine ob_A (e'.fn pl) fun z1 z2 => ?_; subst z1; subst z2
      exact h l ws pl ⟨n, g⟩ q
    | _ => exact h'
theorem append_m (ok : DmOk C.D C.p) {i : Nat} {a : Addr} {d : Option Addr} (pl : Pl W.ι i a d) (ra : VVL C W vs ws) : Run C F W (call (.builtin "list.append") (.ref a :: ws)) (mApp C.D i vs W.σ) (VV C) :=
  .a1 (k := fun ws => call (.builtin "list.append") (.ref a :: ws)) ra fun v y r => .oLp pl (fun l ws pl L r2 => .gd fun g => .turn (mo := .list (app l [v])) .none (fun _ => rfl) ok pl (.inl rfl) fun T Q E p => wpC_of (wpAny_list_append_plain L (fun h' q1 hs => ob_E q1 fun n hp => p h' W.tk hs ⟨_, hp⟩ fun L => ⟨rfl, n, ws ++ [y], by rw [hp, List.push_toArray], VRL.append (show VRL C.p h' W.ι [v] [y] from ⟨VR.mono T L NoTup.nil _ r, rfl⟩) l (VRL.mono T L NoTup.nil _ r2)⟩)
    (by rw [VVL.size r2]; exact Nat.le_trans (Nat.le_of_lt (ble_small g)) (by decide)))) .bad
theorem bappend_m (ok : DmOk C.D C.p) {i : Nat} {a : Addr} {d : Option Addr} (pl : Pl W.ι i a d) (ra : VVL C W vs ws) : Run C F W (call (.builtin "bytearray.append") (.ref a :: ws)) (mBapp C.D i vs W.σ) (VV C) :=
  .a1 (k := fun ws => call (.builtin "bytearray.append") (.ref a :: ws)) ra fun v y r => .oo fun n e => .oY pl (fun b pl g hB => .gd fun q => .turn .none (fun _ => rfl) ok pl (.inl rfl) fun T Q E p => by
    refine ob_EA (vI_some e) fun j z1 e => ?_; subst z1
    refine ob_EA (oo_some e) fun m e1 e => ?_
    refine ob_E r fun t z1 => ?_; subst z1
    have q1 : Nat.ble m 255 = true := by cases c : Nat.ble m 255 with | true => rfl | false => rw [c] at e; injection e
    rw [q1] at e; cases e
    have hn := Nat.lt_succ_of_le (Nat.le_of_ble_eq_true q1)
    rw [(ok.nat e1).1]
    refine append_call g (Int.natCast_nonneg n) (Int.ofNat_lt.mpr hn) (by rw [toB_size, ← lenF_eq]; exact Nat.lt_of_lt_of_le (ble_small q) (by decide)) fun h' g' hs => p h' W.tk hs ⟨_, g'⟩ fun L => ⟨rfl, ?_, ?_⟩
    · rw [g', app_eq, ← toB_append]; rfl
    · rw [app_eq]; exact hB.append fun x m => List.mem_singleton.mp m ▸ hn) .bad
theorem bextend_m (ok : DmOk C.D C.p) {i : Nat} {a : Addr} {d : Option Addr} (pl : Pl W.ι i a d) (ra : VVL C W vs ws) : Run C F W (call (.builtin "bytearray.extend") (.ref a :: ws)) (mBext C.D i vs W.σ) (VV C) :=
  .a1 (k := fun ws => call (.builtin "bytearray.extend") (.ref a :: ws)) ra fun v y r => .xY (k := fun y => call (.builtin "bytearray.extend") [.ref a, y]) r fun c t hC => .gd fun hx => .oY pl (fun b pl g hB => .gd fun q => .gd fun q2 => .turn .none (fun _ => rfl) ok pl (.inl rfl) fun T Q E p => by
    rw [ok.raw hx] at hC ⊢
    refine extend_call g ?_ fun h' g' hs => p h' W.tk hs ⟨_, g'⟩ fun L => ⟨rfl, ?_, ?_⟩
    · rw [toB_size, toB_size, ← lenF_eq, ← lenF_eq]; exact Nat.le_trans (Nat.add_le_add (Nat.le_of_lt (ble_small q)) (Nat.le_of_lt (ble_small q2))) (by decide)
    · rw [g', app_eq, ← toB_append]
    · rw [app_eq]; exact hB.append hC) .bad
end
end
end Mine
namespace Mine
open PySem PyProof.Rows PySem.W
open PySem.Builtin
noncomputable section
section
variable {p : Mp} {h : Heap} {ι : Io}
theorem getL_cons {d : DictEntry} {X x : Str} {t : Tok} (hk : d.key = .str X t) (r : List DictEntry) : PySem.W.getL x (d :: r) = bt (Nat.beq (kc X) (kc x)) (some (some d.val)) (PySem.W.getL x r) := by
  unfold PySem.W.getL
  rw [List.find?_cons, List.any_cons, show d.refKey = false by unfold DictEntry.refKey; rw [hk], show d.key.isStr x = Nat.beq (kc X) (kc x) from (congrArg (fun k => k.isStr x) hk).trans (kc_beq X x).symm]
  cases Nat.beq (kc X) (kc x) <;> rfl
theorem FR.at (x : Str) (fs : List (Nat × V)) : ∀ {ds : List DictEntry}, FR p h ι fs ds → ∃ o, PySem.W.getL x ds = some o ∧ (luk fs (kc x) = none → o = none) ∧ ∀ v, luk fs (kc x) = some v → ∃ y, o = some y ∧ VR p h ι v y := by
  induction fs with
  | nil => intro ds r; rw [show ds = [] from r]; exact ⟨none, rfl, fun _ => rfl, fun _ q => (nomatch q)⟩
  | cons e fs ih =>
    intro ds r
    cases ds with
    | nil => exact r.elim
    | cons d r' =>
      refine ob_AA r fun z1 hv hr => ?_; refine ob_EEA z1 fun X t hk hx => ?_
      rw [getL_cons hk, hx]
      show ∃ o, bt (Nat.beq e.1 (kc x)) (some (some d.val)) (PySem.W.getL x r') = some o ∧ (bt (Nat.beq e.1 (kc x)) (some e.2) (luk fs (kc x)) = none → o = none) ∧ ∀ v, bt (Nat.beq e.1 (kc x)) (some e.2) (luk fs (kc x)) = some v → ∃ y, o = some y ∧ VR p h ι v y
      cases Nat.beq e.1 (kc x) with
      | true => exact ⟨_, rfl, fun q => (nomatch q), fun v q => by injection q with z1; subst z1; exact ⟨_, rfl, hv⟩⟩
      | false => exact ih hr
theorem FR.len (fs : List (Nat × V)) : ∀ {ds : List DictEntry}, FR p h ι fs ds → ds.length = lenF fs := by
  induction fs with
  | nil => intro ds r; rw [show ds = [] from r]; rfl
  | cons e fs ih =>
    intro ds r
    cases ds with
    | nil => exact r.elim
    | cons d r' => exact congrArg Nat.succ (ih r.2.2)
theorem FR.put {x : Str} {v : V} {y : Value} {hsh : Int} {t : Tok} (hv : VR p h ι v y) (fs : List (Nat × V)) : ∀ {ds : List DictEntry}, FR p h ι fs ds → FR p h ι (put fs (kc x) v) (PySem.W.putL x hsh (.str x t) y ds) := by
  induction fs with
  | nil => intro ds r; rw [show ds = [] from r]; exact ⟨⟨x, t, rfl, rfl⟩, hv, rfl⟩
  | cons e fs ih =>
    intro ds r
    cases ds with
    | nil => exact r.elim
    | cons d r' =>
      refine ob_AA r fun z1 hu hr => ?_; refine ob_EEA z1 fun X u hk hx => ?_
      show FR p h ι (bt (Nat.beq e.1 (kc x)) ((e.1, v) :: fs) (e :: Mine.put fs (kc x) v)) (if d.key.isStr x then _ else _)
      rw [show d.key.isStr x = Nat.beq e.1 (kc x) from (congrArg (fun k => k.isStr x) hk).trans ((kc_beq X x).symm.trans (congrArg (fun n => Nat.beq n (kc x)) hx))]
      cases Nat.beq e.1 (kc x) with
      | true => exact ⟨⟨X, u, hk, hx⟩, hv, hr⟩
      | false => exact ⟨⟨X, u, hk, hx⟩, hu, ih hr⟩
theorem putL_len (x : Str) (hsh : Int) (k y : Value) (ds : List DictEntry) : (PySem.W.putL x hsh k y ds).length ≤ ds.length + 1 := by
  induction ds with
  | nil => exact Nat.le_refl _
  | cons d ds ih =>
    unfold PySem.W.putL
    split
    · exact Nat.le_succ _
    · exact Nat.succ_le_succ ih
theorem VR.handed {v : V} {x : Value} (r : VR p h ι v x) : handedIn x = true := by
  cases v with
  | none => rw [show x = _ from r]; rfl
  | bool b => rw [show x = _ from r]; rfl
  | int i => refine ob_E r fun t z1 => ?_; subst z1; rfl
  | str i => refine ob_E r fun t z1 => ?_; subst z1; rfl
  | byt i => refine ob_A r fun z1 _u => ?_; obtain ⟨t, rfl⟩ := z1; rfl
  | tup l => refine ob_EEA r fun a ws z1 _u => ?_; subst z1; rfl
  | obj i => refine ob_EEA r fun a d _u z1 => ?_; subst z1; rfl
  | ref a => rw [show x = _ from r]; rfl
  | bi b => rw [show x = _ from r]; cases b <;> decide +kernel
end
theorem oo_true {α : Type} {o : Option α} {f : α → Bool} (h : oo false f o = true) : ∃ v, o = some v ∧ f v = true := by cases o <;> first | injection h | exact ⟨_, rfl, h⟩
theorem inst_at {h : Heap} {a b C : Addr} {ds : List DictEntry} {k : Nat} (g : h.get? a = some { cls := .ref C, dict := some b, data := .plain }) (g' : h.get? b = some { cls := .type "dict", data := .dict ds.toArray k }) :
    PySem.W.InstAt h a (instObj C b) C (some (PySem.W.dictOf ds k)) := ⟨g, rfl, rfl, g'⟩
theorem store_attr {prog : Program} {w : World} {A : Around} {K : Frag} {s : Shared} {a b C : Addr} {ds : List DictEntry} {k : Nat} {name : PySem.Str} {v : Value} {tk : Tok} {R : Result → Shared → Prop} (X : K.In s.heap) (g : s.heap.get? a = some { cls := .ref C, dict := some b, data := .plain }) (g' : s.heap.get? b = some { cls := .type "dict", data := .dict ds.toArray k })
    (hp : plainOver K C = true) (ht : takerIn K C name = some none) (hh : hasDictIn K C = true) (hl : (PySem.W.getL name ds).isSome = true) (hz : ds.length < 1000000)
    (h : ∀ h' k', h'.get? b = some { cls := .type "dict", data := .dict (PySem.W.putL name (PyData.keyHash w.params name) (.str name s.toks) v ds).toArray k' } → Heap.SameBut b s.heap h' → R (.ok (.ret .none)) { s with heap := h', toks := s.toks + 1 }) :
    codeAny (model prog w) A (.call (.builtin "object.__setattr__") ⟨[.ref a, .str name tk, v], []⟩) R s := by
  refine osa_open X (inst_at g g') hp ht fun _ => ?_
  refine ob_EA (any_some hh) fun cd hc hd' => ?_
  have e : Obj.putName name (PyData.keyHash w.params name) (.str name s.toks) v (PySem.W.dictOf ds k) = PySem.W.dictOf (PySem.W.putL name (PyData.keyHash w.params name) (.str name s.toks) v ds) (putN name ds k) := putName_dict ..
  have D' : (s.heap.update b (Obj.putName name (PyData.keyHash w.params name) (.str name s.toks) v)).get? b = some (PySem.W.dictOf (PySem.W.putL name (PyData.keyHash w.params name) (.str name s.toks) v ds) (putN name ds k)) := e ▸ Heap.get?_update_self _ g' (by rw [e]; rfl)
  refine wpAny_bind (wpAny_pure (wpAny_bind (wpAny_bind (wpAny_loadPart g (wpAny_bind ((looks_clsIn X hc).here ?_))))))
  rw [hd']
  refine wpAny_pure (a := some b) (wpAny_bind (wpAny_pure (wpAny_bind ?_)))
  unfold nsSet
  refine wpAny_bind (wpAny_bind (wpAny_askSetting (wpAny_pure (wpAny_bind (wpAny_mkText (wpAny_bind (wpAny_loadPart g' ?_)))))))
  dsimp only
  have c : (!ds.toArray.any (·.key.isStr name) && ds.toArray.any (·.refKey)) = false := by
    rw [← Array.any_toList, ← Array.any_toList]
    show (!ds.any _ && ds.any _) = false
    unfold PySem.W.getL at hl
    split at hl
    · rename_i en he
      rw [List.any_eq_true.mpr ⟨en, List.mem_of_find?_eq_some he, List.find?_some (p := fun (x : DictEntry) => x.key.isStr name) he⟩]; rfl
    · split at hl
      · injection hl
      · rename_i z; rw [Bool.not_eq_true] at z; rw [z, Bool.and_false]
  rw [aRefKeyMayBeTheName_at, c]
  refine wpAny_updatePart g' (wpAny_bind (wpAny_lookBehind D' (pastItsLine_dict ?_) (wpAny_pure (h _ _ D' (Heap.SameBut.update ..)))))
  rw [List.size_toArray]
  exact Nat.le_trans (putL_len ..) (Nat.le_trans hz (by decide))
section
variable {S : Type} {C : Cst S} {F : Fr} {n : Nat} {penv : Env} {env : MEnv} {W W' : Wd S} {α β γ δ : Type} {ih : SemF S} {t : Sem β} {r : RF S α} {R : Rl S α β} {v u : V} {x : Str} {y z : Value}
theorem Sat.inK (O : Okay C) (T : Sat C F W) : C.K.In W.h := O.X.keeps T.stays
theorem attr_run (O : Okay C) (rv : VV C W v y) : Run C F W (getAttr y x true) (attrF C.D C.P v (kc x) W.σ) (VV C) :=
  .xO (k := fun y => getAttr y x true) rv fun i a d pl => .oI pl fun X fs b n ds pl g g' fr => .gd fun h => .ob fun v e => .lib fun T Q E p => by
    refine ob_EA (oo_true h) fun ci hci h => ?_
    refine ob_AAAA ((O.cls X ci hci).attrs x h) fun h1 h2 h3 h4 h5 => ?_
    refine ob_EAA (fr.at x) fun o e1 _u e2 => ?_
    refine ob_EA (e2 v e) fun y' z1 ry => ?_; subst z1
    exact get_value (T.inK O) (inst_at g g') (plainGet_of h1).1 (findObj_own h2 h5 rfl e1) ry.handed (p _ _ ry)
def UU : Rl S V Unit := fun _ _ _ => True
theorem seta_run (O : Okay C) (rv : VV C W v y) (ru : VV C W u z) : Run C F W (setAttr y x z) (setA C.D C.P v (kc x) u W.σ) UU :=
  .xO (k := fun y => setAttr y x z) rv fun i a d pl => .oI pl fun X fs b n ds pl g g' fr => .gd fun h => .gd fun hz => .turn () (fun _ => trivial) O.ok pl (.inr rfl) fun T Q E p => by
    refine ob_EA (oo_true h) fun ci hci h => ?_
    refine ob_AAAA ((O.cls X ci hci).attrs x h) fun h1 h2 h3 h4 h5 => ?_
    have X := T.inK O
    refine ob_EA (fr.at x) fun o e1 _u => ?_
    refine wpC_of (set_plain X (inst_at g g') h3 (store_attr (s := C.sh W.h (W.tk + 1)) X g g' h4 (by unfold takerIn; rw [h5]; rfl) h2 (by rw [e1]; rfl) (by rw [fr.len]; exact ble_small hz) fun h' k' gd hs => ?_))
    have na : a ≠ b := fun q => by subst q; exact nomatch g.symm.trans g'
    exact p h' (W.tk + 1 + 1) hs ⟨_, gd⟩ fun L => ⟨b, rfl, (hs.2 a na).trans g, k', _, gd, FR.put (VR.mono T L NoTup.nil _ ru) _ (fr.mono T L NoTup.nil)⟩
theorem Run.tail {t : Sem β} {k : β → Sem δ} {r : RF S α} {R : Rl S α β} {R' : Rl S α δ} (h : Run C F W t r R) (K : ∀ W' v y, Fut C F [] W W' → R W' v y → Run C F W' (k y) (.ok v W'.σ) R') : Run C F W (t >>= k) r R' :=
  .to (h.bind (f := fun v s => .ok v s) K) (by cases r <;> rfl)
theorem Run.here {t : Sem γ} {k : γ → Sem β} (a : γ) (h : ∀ (Q : γ → Shared → Prop) E, Q a (C.st W) → wpAny C.M F.A t Q E (C.st W)) (h2 : Run C F W (k a) r R) : Run C F W (t >>= k) r R := ⟨fun T Q E p => wpC_bind (wpC_of (h _ E (h2.go T Q E p)))⟩
theorem attributeBase_no {o : PySem.Expr} (h : noSuper o = true) (x : Str) (env : Env) (t : Sem Value) : attributeBase o x env t = t := by
  cases o with
  | Call f as ks p =>
    cases f with
    | Name y q =>
      cases as with
      | nil => injection h
      | cons _ _ => rfl
    | _ => rfl
  | _ => rfl
theorem attr_ev (O : Okay C) (hE : EvOk C ih n) (H : Here C F n penv env W) (o : PySem.Expr) (x : Str) (q : Pos) : Ev C F penv env W ih (.Attribute o x q) := .kE fun h => by
  refine .of (arm_eval_Attribute o x q penv) ?_
  rw [attributeBase_no h]
  refine (hE F W penv env o H).bind fun W1 v y z r => .stand (.hold1 ((attr_run O r).tail fun W2 v2 y2 z2 r2 => ?_))
  exact .here () (fun Q E p => wpAny_letTemporaryGo p) (.pure r2)
end
end
end Mine
namespace Mine
open PySem PyProof.Rows PySem.W
open PySem.Builtin
noncomputable section
section
variable {S : Type} {C : Cst S} {F : Fr} {n : Nat} {penv : Env} {env : MEnv} {W W' : Wd S} {α β γ δ : Type} {ih : SemF S} {t : Sem β} {r : RF S α} {R : Rl S α β} {v u : V} {x : Str} {y z : Value}
theorem star_cons {e : PySem.Expr} (h : noStar e = true) (es : List PySem.Expr) : starEach (e :: es) penv = (false, eval e penv) :: starEach es penv := by cases e <;> first | rfl | injection h
theorem args_plain (pos : Pos) {as : List PySem.Expr} (h : allF noStar as = true) : (backTo pos (starEach as penv)).any (·.1) = false := by
  induction as with
  | nil => rfl
  | cons e es ih =>
    refine ob_A (allF_cons h) fun h1 h2 => ?_
    rw [star_cons h1]
    exact ih h2
theorem star_len (as : List PySem.Expr) : lenF as = as.length := lenF_eq as
theorem evalArgs_eq (f : Value) {ts : List (Bool × Sem Value)} (h : ts.any (·.1) = false) : evalArgs f true ts [] = (PySem.spliced ts >>= fun vs => (pure (vs, none) : Sem (List Value × Option Value)) >>= fun x => PySem.holding (x.1 ++ x.2.toList) (pure ⟨vs, []⟩)) := by
  rcases ts with _ | ⟨⟨b, t⟩, rest⟩
  · rfl
  · cases b with
    | false => rfl
    | true => injection h
def Kept (M : Model) (h : Heap) (f : Value) : Prop := ∃ k, (k = Keeper.frame ∨ k = Keeper.machine) ∧ Looks M h (keeperOf f) k
theorem Run.assoc {m : Sem γ} {k1 : γ → Sem δ} {k : δ → Sem β} (h : Run C F W (m >>= fun a => k1 a >>= k) r R) : Run C F W ((m >>= k1) >>= k) r R := .of (bind_assoc ..) h
theorem callWith_run {R : Rl S α Value} (hE : EvOk C ih n) (pos : Pos) {f : Value} {first : List Value} {as : List PySem.Expr} {g : List V → S → RF S α} (hs : allF noStar as = true) (H : Here C F n penv env W)
    (K : ∀ W' vs ws, Fut C F [] W W' → VVL C W' vs ws → Kept C.M W'.h f ∧ Run C F W' (call f (first ++ ws)) (g vs W'.σ) R) :
    Run C F W (callWith pos f first (backTo pos (starEach as penv)) []) (evL as ih env W.σ g) R := by
  unfold callWith
  rw [evalArgs_eq f (args_plain pos hs), args_plain pos hs]
  refine .hold1 (.assoc (evL_run hE pos hs H fun W1 vs ws z r => ?_))
  refine ob_A (K W1 vs ws z r) fun z1 hc => ?_; refine ob_EA z1 fun k hk L => ?_
  refine .assoc (.pre (ws, none) rfl (.hold1 (.pre ⟨ws, []⟩ rfl (.stand (.here k (fun Q E p => L.here p) ?_)))))
  have tail : ∀ {t : Sem Value}, Run C F W1 t (g vs W1.σ) R → Run C F W1 (t >>= fun r => PySem.holding [r] point >>= fun _ => pure r) (g vs W1.σ) R := fun ht =>
    ht.tail fun W2 v y z q => .here () (fun Q E p => wpAny_holding (wpAny_point p)) (.pure q)
  rcases hk with rfl | rfl
  · show Run C F W1 (if (backTo pos (starEach as penv)).length + 2 * ([] : List (Option Str × Sem Value)).length > 30 then call f (first ++ ws) [] >>= _ else callMarked plainCall f (first ++ ws) [] >>= _) _ _
    split
    · exact tail hc
    · exact tail ⟨fun T Q E p Γ q hΓ kk => by unfold callMarked; rw [Sem.wp_keep]; exact hc.go T Q E p Γ q hΓ kk⟩
  · exact tail hc
theorem kept_bi (b : BI) (h : Heap) : Kept C.M h b.val := ⟨.machine, .inr rfl, by cases b <;> exact Looks.of_pure rfl⟩
theorem kept_str (id : String) (h : Heap) : Kept C.M h (.builtin id) := ⟨.machine, .inr rfl, Looks.of_pure rfl⟩
theorem kept_K {f : Value} {h : Heap} (X : C.K.In h) (e : keepIn C.K f = true) : Kept C.M h f := looks_keep e X
theorem make_C {prog : Program} {w : World} {A : Around} {s : Shared} {Q : Value → Shared → Prop} {E : Value → Shared → Prop} {C : Addr} {rest : List Value} {init : Value} (Y : Makes (model prog w) s.heap C) (hi : Looks (model prog w) s.heap (typeLookup (.ref C) "__init__") (some init))
    (hb : ∀ self, Looks (model prog w) s.heap (bindSpecial init self) (init, [self])) (hne : (some init != some (Value.builtin "object.__init__")) = true)
    (hq : wpC (model prog w) (A.under (.builtin "type.__call__" ⟨.ref C :: rest, []⟩)) (call init (.ref (s.heap.objs.size + 1) :: rest)) (fun r s' => r = .none ∧ Q (.ref (s.heap.objs.size + 1)) s') E
      { s with heap := (s.heap.push emptyDict).push (instObj C s.heap.objs.size) }) :
    wpC (model prog w) A (call (.ref C) rest) Q E s := by
  have Y' := Y
  obtain ⟨⟨oc, od, cd, sl, hC, e1, e2, e4⟩, made, base, self, top, cal, typ⟩ := Y
  refine wpC_call (codeC_of_tree rfl ?_)
  have start : ∀ {Q : Fin → Shared → Prop} {E : Value → Shared → Prop}, Q (Fin.again (.call (.builtin "type.__call__") ⟨.ref C :: rest, []⟩)) s → wpAny (model prog w) A.in1 (callAny (.ref C) ⟨rest, []⟩) Q E s := by
    intro Q E hq
    refine nd_load hC ?_
    show wpAny _ _ (callAny.viaDunder (.ref C) _) _ _ _
    unfold callAny.viaDunder
    refine wpAny_bind (cal.here ?_)
    dsimp only
    rw [tc_bind]
    exact wpAny_bind (wpAny_pure (wpAny_bind (wpAny_pure (wpAny_pure hq))))
  refine wpC_of (start ⟨rfl, ?_⟩)
  refine codeC_of_tree rfl ?_
  show wpC _ A.in1 (do checkBuiltinCall "type.__call__" ⟨.ref C :: rest, []⟩; again (.builtin "type.__call__" ⟨.ref C :: rest, []⟩)) _ _ s
  refine wpC_bind (wpC_of (check_slot tc_kind tc_split typ (tc_args _ _ _) (wpC_pure (And.intro (Code.quiet_builtin _ (by decide +kernel)) ?_))))
  refine codeC_builtin (by decide) entry_typeCall ?_
  unfold Builtin.«type.__call__»
  dsimp only
  rw [if_neg (by simp)]
  have hm : Looks (model prog w) s.heap (mroOf (.ref C)) cd.mro := ((Looks.ld (part := none) hC).andThen .now).andThen .now
  refine wpC_bind (wpC_of (hm.here ?_))
  rw [if_neg (by rw [e4]; decide)]
  refine wpC_bind (wpC_of (made.here (wpC_bind (wpC_pure (wpC_bind (wpC_holding (wpC_call (codeC_of (new_K Y' hi (.inl hne) ?_)))))))))
  have k : ∀ b o, s.heap.get? b = some o → ((s.heap.push emptyDict).push (instObj C s.heap.objs.size)).get? b = some o := fun b o e => Heap.get?_push_of_some _ (Heap.get?_push_of_some _ e)
  have hx : ((s.heap.push emptyDict).push (instObj C s.heap.objs.size)).get? (s.heap.objs.size + 1) = some (instObj C s.heap.objs.size) := Heap.size_push s.heap emptyDict ▸ Heap.get?_push_size _ rfl
  have t1 : Looks (model prog w) ((s.heap.push emptyDict).push (instObj C s.heap.objs.size)) (typeOf (.ref (s.heap.objs.size + 1))) (.ref C) := (Looks.ld hx).andThen .now
  have isi : Looks (model prog w) ((s.heap.push emptyDict).push (instObj C s.heap.objs.size)) (isInstance (.ref (s.heap.objs.size + 1)) (.ref C)) true := t1.andThen (self.keeps k)
  have sp : Looks (model prog w) ((s.heap.push emptyDict).push (instObj C s.heap.objs.size)) (specialOf (.ref (s.heap.objs.size + 1)) (PySem.Str.ofString "__init__")) (some init) := t1.andThen (hi.keeps k)
  refine wpC_bind (wpC_of (isi.at ?_))
  rw [if_neg (by decide)]
  refine wpC_bind (wpC_holding ?_)
  unfold callSpecial?
  refine wpC_bind (wpC_of (sp.at ?_))
  refine wpC_holding (wpC_bind (wpC_of (((hb _).keeps k).at ?_)))
  refine wpC_bind (wpC_monoQ hq fun r s' h' => ?_)
  obtain ⟨rfl, z⟩ := h'
  refine wpC_pure ?_
  dsimp only
  rw [if_neg (by decide)]
  exact wpC_pure z
theorem AOk.under_cls {a : Addr} {rest : List Value} (h : AOk F (n + 1)) : AOk ⟨F.A.under (.builtin "type.__call__" ⟨.ref a :: rest, []⟩), F.envs⟩ n := by
  obtain ⟨⟨hd, d, fr, gs, u⟩, envs⟩ := F
  obtain ⟨h1, h2, h3, h4⟩ := h
  have h1 : fr = some envs := h1
  have h2 : hd = none := h2
  subst h1; subst h2
  exact ⟨rfl, rfl, by show d + 1 + n < 900; rw [Nat.add_assoc, Nat.add_comm 1 n]; exact h3, Nat.lt_of_le_of_lt (by show u + 1 + 12 * n ≤ u + 12 * (n + 1); rw [Nat.mul_succ, Nat.add_assoc, Nat.add_comm 1]; exact Nat.add_le_add_left (Nat.add_le_add_left (by decide) _) u) h4⟩
theorem Sat.newI (ok : DmOk C.D C.p) (T : Sat C F W) {a : Addr} {σ' : S} (e : C.D.push W.σ (.inst a []) = some σ') : ∃ W1 : Wd S, W1.σ = σ' ∧ Pl W1.ι (C.D.len W.σ) (W.h.objs.size + 1) (some W.h.objs.size) ∧ Fut C F [] W W1 ∧ C.st W1 = { C.st W with heap := (W.h.push emptyDict).push (instObj a W.h.objs.size) } := by
  have k : Kp W.h ((W.h.push emptyDict).push (instObj a W.h.objs.size)) := fun b o e => Heap.get?_push_of_some _ (Heap.get?_push_of_some _ e)
  have fr : ∀ x, (x = W.h.objs.size + 1 ∨ some W.h.objs.size = some x) → W.h.get? x = none := fun x q => q.elim (fun q => q ▸ at_fresh W.h) fun q => Option.some.inj q ▸ get_fresh W.h
  have pl : Pl (W.ι ++ [(W.h.objs.size + 1, some W.h.objs.size)]) (C.D.len W.σ) (W.h.objs.size + 1) (some W.h.objs.size) := T.len ▸ .new
  refine ⟨⟨_, σ', _, W.tk⟩, rfl, pl, ⟨T, T.more ok k fr e ⟨_, rfl, ?_, 0, [], Heap.get?_push_of_some _ (Heap.get?_push_size _ rfl), rfl⟩, .more k fr⟩, rfl⟩
  exact Heap.size_push W.h emptyDict ▸ Heap.get?_push_size _ rfl
theorem make_run (O : Okay C) (hC : ClOk C ih n) (hA : AOk F (n + 1)) {a : Addr} {ci : CI} {vs : List V} {xs : List Value} (hc : C.P.cls a = some ci) (he : ci.exc = false) (rs : VVL C W vs xs) :
    Run C F W (call (.ref a) xs) (pushF C.D W.σ (.inst a []) fun i s => rb (ih.cl ci.init (.obj i :: vs) s) fun v s => vN (.ok (.obj i) s) .bad v) (VV C) := ⟨fun T Q E p => by
  unfold pushF at p
  cases e : C.D.push W.σ (.inst a []) with
  | none => rw [e] at p; exact p.elim
  | some σ' =>
    rw [e] at p
    refine ob_EAAA (T.newI O.ok e) fun W1 e1 pl z e2 => ?_
    refine ob_AAA ((O.cls a ci hc).made he) fun m1 m2 m3 m4 => ?_
    have X := T.inK O
    refine make_C (makes_of X m1) (looks_findIn X m2) (fun self => bind_fn X self m3) rfl ?_
    refine e2 ▸ (hC ⟨F.A.under _, F.envs⟩ W1 ci.init (.obj (C.D.len W.σ) :: vs) (.ref (W.h.objs.size + 1) :: xs) hA.under_cls ⟨⟨_, _, pl, rfl⟩, rs.mono z⟩).go z.S1 _ _ ?_
    rw [e1]
    change Ens C F W (rb (ih.cl ci.init (.obj (C.D.len W.σ) :: vs) σ') fun v s => vN (.ok (.obj (C.D.len W.σ)) s) .bad v) (VV C) Q E at p
    cases hr : ih.cl ci.init (.obj (C.D.len W.σ) :: vs) σ' with
    | bad => rw [hr] at p; exact p
    | exc X s => rw [hr] at p; exact fun W2 e es z2 x => p W2 e es (z.trans ⟨z2.S0, z2.S1, z2.L⟩) (x.from z.dom)
    | ok v s =>
      rw [hr] at p
      intro W2 y es z2 q
      cases v with
      | none =>
        refine ob_EA (z2.L.ext _ _ _ pl) fun d' pl' _u => ?_
        exact ⟨q, p W2 _ es (z.trans ⟨z2.S0, z2.S1, z2.L⟩) ⟨_, _, pl', rfl⟩⟩
      | _ => exact p.elim⟩
theorem callF_run (O : Okay C) (hC : ClOk C ih n) (hA : AOk F (n + 1)) {fv : V} {f : Value} {vs : List V} {xs : List Value} (rf : VV C W fv f) (rs : VVL C W vs xs) : Run C F W (call f xs) (callF C.D C.P ih fv vs W.σ) (VV C) := by
  refine .xR (k := fun f => call f xs) rf (fun a => ?_) fun b => bi_run O hA.hd b rs
  cases C.P.fn a with
  | some fi => exact hC F W a vs xs (hA.less (Nat.le_succ n)) rs
  | none => exact .oo fun c hc => .gd fun he => make_run O hC hA hc (not_true he) rs
theorem isCal_kept (O : Okay C) {fv : V} {f : Value} (rf : VV C W fv f) (h : isCal C.P fv = true) {h' : Heap} (st : C.base.StaysIn h') : Kept C.M h' f := by
  have X := O.X.keeps st
  cases fv with
  | ref a =>
    rw [show f = _ from rf]
    change oo (oo false (fun c => not c.exc) (C.P.cls a)) (fun _ => true) (C.P.fn a) = true at h
    cases hf : C.P.fn a with
    | some fi => exact kept_K X (O.keepf a fi hf)
    | none => rw [hf] at h; refine ob_EA (oo_true h) fun c hc h => ?_; exact kept_K X ((O.cls a c hc).made (not_true h)).2.2.2
  | bi b => rw [show f = _ from rf]; exact kept_bi b _
  | _ => injection h
theorem call_ev (O : Okay C) (hC : ClOk C ih n) (hE : EvOk C ih (n + 1)) (H : Here C F (n + 1) penv env W) (x : Str) (q : Pos) (as : List PySem.Expr) (p : Pos) : Ev C F penv env W ih (.Call (.Name x q) as [] p) := .kE fun h => by
  refine .of (u := eval (.Name x q) penv >>= fun f => callWith p f [] (backTo p (starEach as penv)) []) rfl ((hE F W penv env _ H).bind fun W1 v y z r => .gd fun hc => ?_)
  exact callWith_run hE p h (H.on z) fun W2 vs ws z2 r2 => ⟨isCal_kept O r hc z2.S1.stays, callF_run O hC H.A (r.mono z2) r2⟩
end
end
end Mine
namespace Mine
open PySem PyProof.Rows PySem.W
open PySem.Builtin
noncomputable section
section
variable {S : Type} {C : Cst S} {F : Fr} {n : Nat} {penv : Env} {env : MEnv} {W W' : Wd S} {α β γ δ : Type} {ih : SemF S} {t : Sem β} {r : RF S α} {R : Rl S α β} {v u : V} {x : Str} {y z : Value} {o : PySem.Expr} {as : List PySem.Expr} {q p : Pos}
structure Few (as : List PySem.Expr) (q p : Pos) : Prop where
  ln : q.endLine = p.line
  few : lenF as ≤ 29
  st : allF noStar as = true
theorem meth_k (hE : EvOk C ih n) (H : Here C F n penv env W) (X : Few as q p) {fv : Value} {g : List V → S → RF S V} (hg : ∀ pl (Q : Value × List Value → Shared → Prop) E, Q (fv, [y]) (C.st W) → wpAny C.M F.A (getMethod y x pl) Q E (C.st W))
    (K : ∀ W' vs ws, Fut C F [] W W' → VVL C W' vs ws → Kept C.M W'.h fv ∧ Run C F W' (call fv (y :: ws)) (g vs W'.σ) (VV C)) :
    Run C F W (methodCall o x q p penv y (as.length + 0) (backTo p (starEach as penv)) []) (evL as ih env W.σ g) (VV C) := by
  have few : methodCallForm (as.length + 0) (backTo p (starEach as penv)) [] = true := by
    unfold methodCallForm
    rw [← List.not_any_eq_all_not, args_plain p X.st]
    exact decide_eq_true (Nat.lt_of_le_of_lt (lenF_eq as ▸ X.few) (by decide))
  unfold methodCall
  rw [few]
  refine .hold1 (.here (fv, [y]) (fun Q E p => hg _ Q E p) (.pre p ?_ (callWith_run hE p X.st H K)))
  unfold methodCallPos
  rw [X.ln, beq_self_eq_true]
  rfl
theorem meth_run (O : Okay C) (hC : ClOk C ih n) (hE : EvOk C ih (n + 1)) (H : Here C F (n + 1) penv env W) (X : Few as q p) (rv : VV C W v y) :
    Run C F W (methodCall o x q p penv y (as.length + 0) (backTo p (starEach as penv)) []) (methF C.D C.P ih v (kc x) W.σ fun f => evL as ih env W.σ f) (VV C) := by
  have ok := O.ok
  refine .xE (k := fun y => methodCall o x q p penv y (as.length + 0) (backTo p (starEach as penv)) []) rv .bad (fun _ => .bad) (fun _ _ => .bad) (fun s t => ?_) (fun b t hb => ?_) (fun _ _ _ _ _ => .bad) (fun i a d pl => ?_) (fun _ => .bad) fun _ => .bad
  · refine .bt (fun e => ?_) fun _ => .bt (fun e => ?_) fun _ => .bt (fun e => ?_) fun _ => .bt (fun e => ?_) fun _ => .bad <;> (have z0 := kc_inj (Nat.eq_of_beq_eq_true e); subst z0)
    · exact meth_k hE H X (fun pl Q E p => GM.split p) fun W' vs ws z r => ⟨kept_str _ _, split_m ok r⟩
    · exact meth_k hE H X (fun pl Q E p => GM.find p) fun W' vs ws z r => ⟨kept_str _ _, find_m ok r⟩
    · exact meth_k hE H X (fun pl Q E p => GM.lower p) fun W' vs ws z r => ⟨kept_str _ _, lower_m r⟩
    · exact meth_k hE H X (fun pl Q E p => GM.join p) fun W' vs ws z r => ⟨kept_str _ _, join_m r⟩
  · refine .gd fun e => ?_
    have z0 := kc_inj (Nat.eq_of_beq_eq_true e); subst z0
    exact meth_k hE H X (fun pl Q E p => getMethod_builtin (typeIs_bytes _ _ _) FB.plainAttrs_bytes FM.slot_bjoin FM.type_bjoin (fun a q => nomatch q) p) fun W' vs ws z r => ⟨kept_str _ _, bjoin_m ok r⟩
  · refine .sat fun T => .oo fun o' e => ?_
    refine ob_EEA (T.objs i _ e) fun a' d' e' OO => ?_
    refine ob_A (e'.fn pl) fun z1 z2 => ?_; subst z1; subst z2
    cases o' with
    | list l =>
      refine .gd fun e => ?_
      have z0 := kc_inj (Nat.eq_of_beq_eq_true e); subst z0
      refine ob_AEEA OO fun _u k ws g _u => ?_
      exact meth_k hE H X (fun pl Q E p => PySem.Calls.getMethod_list_append (s := C.st W) g rfl rfl p) fun W' vs ws z r => ob_EA (z.L.ext _ _ _ pl) fun d pl' _u => ⟨kept_str _ _, append_m ok pl' r⟩
    | barr b =>
      refine ob_AA OO fun _u g _u => ?_
      have hT : (C.st W).TypeIs (.ref a') "bytearray" := ⟨_, g, rfl⟩
      have hd : ∀ a, Value.ref a' = .ref a → ∃ o, W.h.get? a = some o ∧ o.dict = none := fun a q => by injection q with z1; subst z1; exact ⟨_, g, rfl⟩
      refine .bt (fun e => ?_) fun _ => .gd fun e => ?_ <;> (have z0 := kc_inj (Nat.eq_of_beq_eq_true e); subst z0)
      · exact meth_k hE H X (fun pl Q E p => getMethod_builtin hT FM.plainAttrs_barr FM.slot_bappend FM.type_bappend hd p) fun W' vs ws z r => ob_EA (z.L.ext _ _ _ pl) fun d pl' _u => ⟨kept_str _ _, bappend_m ok pl' r⟩
      · exact meth_k hE H X (fun pl Q E p => getMethod_builtin hT FM.plainAttrs_barr FM.slot_bextend FM.type_bextend hd p) fun W' vs ws z r => ob_EA (z.L.ext _ _ _ pl) fun d pl' _u => ⟨kept_str _ _, bextend_m ok pl' r⟩
    | inst Y fs =>
      refine ob_EAAEEA OO fun b z1 g k ds g' fr => ?_; subst z1
      refine ob_EAA (fr.at x) fun o e1 e2 _u => ?_
      show Run C F W _ (oo (oo .bad _ _) (fun _ => .bad) (luk fs (kc x))) _
      cases hl : luk fs (kc x) with
      | some _ => exact .bad
      | none =>
        rw [e2 hl] at e1
        refine .oo fun f hf => ?_
        refine ob_EA (oo_some hf) fun ci hci hf => ?_
        refine ob_AAA ((O.cls Y ci hci).meths x f hf) fun m1 m2 m3 m4 => ?_
        exact meth_k hE H X (fun pl Q E p => method_fn (T.inK O) (inst_at g g') (plainGet_of m1).1 (plainGet_of m1).2 m2 m3 (congrArg (Option.map Option.isSome) e1) p)
          fun W' vs ws z r => ⟨kept_K (O.X.keeps z.S1.stays) m4, hC F W' f (.obj i :: vs) (.ref a' :: ws) (H.A.less (Nat.le_succ n)) ⟨ob_EA (z.L.ext _ _ _ pl) fun d pl' _u => ⟨_, _, pl', rfl⟩, r⟩⟩
    | _ => exact .bad
theorem meth_ev (O : Okay C) (hC : ClOk C ih n) (hE : EvOk C ih (n + 1)) (H : Here C F (n + 1) penv env W) (o : PySem.Expr) (x : Str) (q : Pos) (as : List PySem.Expr) (p : Pos) : Ev C F penv env W ih (.Call (.Attribute o x q) as [] p) := .kE fun h => by
  obtain ⟨h1, h⟩ := btt h
  obtain ⟨h2, h⟩ := btt h
  obtain ⟨h3, h4⟩ := btt h
  refine .of (arm_eval_Call o x q as [] p penv) ?_
  rw [attributeBase_no h1]
  exact (hE F W penv env o H).bind fun W1 v y z r => .stand (meth_run O hC hE (H.on z) ⟨Nat.eq_of_beq_eq_true h2, Nat.le_of_ble_eq_true h3, h4⟩ r)
theorem mapSeq_set_plain (its : Array Value) (n j : Nat) (v : Value) : ∃ n', Obj.mapSeq (·.setIfInBounds j v) { cls := .type "list", data := .seq its n } = { cls := .type "list", data := .seq (its.setIfInBounds j v) n' } := by
  simp [Obj.mapSeq]
theorem setItem_list_plain {prog : Program} {w : World} {A : Around} {s : Shared} {E : Value → Shared → Prop} {l : Addr} {items : Array Value} {k : Int} {j n : Nat} {t : Tok} {v : Value} {Q : Unit → Shared → Prop} (ho : s.heap.get? l = some { cls := .type "list", data := .seq items n })
    (hk : k = Int.ofNat j) (hfit : k < 2 ^ 63) (hj : j < items.size)
    (hQ : ∀ h' n', h'.get? l = some { cls := .type "list", data := .seq (items.setIfInBounds j v) n' } → Heap.SameBut l s.heap h' → Q () { s with heap := h' }) :
    wpAny (model prog w) A (setItem (.ref l) (.int k t) v) Q E s := by
  have hl : s.heap.IsList l items := ⟨_, ho, rfl, n, rfl⟩
  unfold setItem
  refine wpAny_holding ?_
  refine wpAny_bind (wpAny_sequenceKey hl.typeIs (by decide) ?_)
  refine wpAny_bind (wpAny_callSpecial?_slot (name := PySem.Str.ofString "__setitem__") hl.typeIs slot_list_setitem
    (wpAny_call_entry slot_list_setitem hl.typeIs entry_list_setitem ?_ (args_list_setitem _ _ _)))
  show wpAny _ _ (Builtin.List.listSubscript? (.int k t) >>= _) _ _ s
  refine wpAny_bind (wpAny_listSubscript_int (fitsIndex_of (hk ▸ Int.natCast_nonneg j) hfit) ?_)
  clear hfit
  subst hk
  refine wpAny_bind (wpAny_bind (wpAny_seqItemAt ho rfl (wpAny_pure ?_)))
  rw [Array.getElem?_eq_getElem hj]
  refine ob_E (mapSeq_set_plain items n j v) fun n' e => ?_
  exact wpAny_bind (wpAny_setSeqItemAt ho rfl (wpAny_pure ⟨.none, rfl, wpAny_pure (hQ _ _ (by rw [Heap.get?_update_self _ ho (by rw [e]; rfl), e]) (Heap.SameBut.update ..))⟩))
theorem VRL.setN {p : Mp} {h : Heap} {ι : Io} {v : V} {y : Value} (r : VR p h ι v y) (l : List V) : ∀ {ws : List Value} {j : Nat}, VRL p h ι l ws → VRL p h ι (Mine.setN l v j) (ws.set j y) := by
  induction l with
  | nil => intro ws j q; rw [show ws = [] from q]; rfl
  | cons u l ih =>
    intro ws j q
    refine ob_EEAA q.cons_inv fun x ws z1 a b => ?_; subst z1
    cases j with
    | zero => exact ⟨r, b⟩
    | succ j => exact ⟨a, ih b⟩
end
end
end Mine
namespace Mine
open PySem PyProof.Rows PySem.W
open PySem.Builtin
noncomputable section
section
variable {S : Type} {C : Cst S} {F : Fr} {n : Nat} {penv : Env} {env : MEnv} {W W' : Wd S} {α β γ δ : Type} {ih : SemF S} {t : Sem β} {r : RF S α} {R : Rl S α β} {i v o : V} {x y z : Value}
theorem put_k (ok : DmOk C.D C.p) (T : Sat C F W) {a : Addr} {es es' : List (V × V)} {x v : V} {y : Value} (O : OR C.prog C.w C.p W.h W.ι a none (.dict es)) (rx : VV C W x y) (e : putK C.D es x v = some es') {P : Prop}
    (k : ∀ {K : Type} [DecidableEq K] (knd : KeyKind C.prog C.w K) (kk : K) (kvs : List (K × Value)), knd.is kk y = true → W.h.DictOf knd a kvs → kvs.length = lenF es →
      (∀ {h' z}, Lat [] F.envs W.ι W.ι W.h h' → VR C.p h' W.ι v z → h'.DictOf knd a (stored kvs kk z) → OR C.prog C.w C.p h' W.ι a none (.dict es')) → P) : P := by
  unfold putK at e
  cases hk : isKey x with
  | false => rw [hk] at e; injection e
  | true =>
    rw [hk] at e
    refine ob_EA (oo_some (show oo none (fun c => bt c none (some (app es [(x, v)]))) (hasK C.D es x) = some es' from e)) fun c e1 e => ?_
    cases c with
    | true => injection e
    | false =>
      injection e with z1; subst z1
      refine ob_EA (oo_some e1) fun o e2 e3 => ?_
      cases o with
      | some _ => (injection e3 with z1; injection z1)
      | none =>
        rcases isKey_cases hk with ⟨i, rfl⟩ | ⟨s, rfl⟩
        · refine ob_E rx fun t z1 => ?_; subst z1
          refine ob_EA (dict_int O e2) fun kvs Dd r => ?_
          refine k (intKind C.prog C.w) (C.p.f i) kvs (intKind_is ..) Dd (DR.len es r) fun {h' z} L rv D3 => ⟨rfl, .inr ⟨kvs ++ [(C.p.f i, z)], (stored_new ((DR.get (kok_i ok) rfl es r e2).1 rfl)) ▸ D3, DR.app (κ := κi C.p) rfl rv es (r.mono T L NoTup.nil)⟩⟩
        · refine ob_E rx fun t z1 => ?_; subst z1
          refine ob_EA (dict_str O e2) fun kvs Dd r => ?_
          refine k (PySem.strKind C.prog C.w) (mkS s) kvs (strKind_is ..) Dd (DR.len es r) fun {h' z} L rv D3 => ⟨rfl, .inl ⟨kvs ++ [(mkS s, z)], (stored_new ((DR.get (D := C.D) kok_s rfl es r e2).1 rfl)) ▸ D3, DR.app (κ := κs) rfl rv es (r.mono T L NoTup.nil)⟩⟩
theorem dict_there {K : Type} [DecidableEq K] {prog : Program} {w : World} {knd : KeyKind prog w K} {h : Heap} {a : Addr} {kvs : List (K × Value)} (D : h.DictOf knd a kvs) : ∃ o, h.get? a = some o := let ⟨o, _, _, ho, _⟩ := D; ⟨o, ho⟩
theorem seti_run (O : Okay C) (ro : VV C W o x) (ri : VV C W i y) (rv : VV C W v z) : Run C F W (setItem x y z) (setI C.D o i v W.σ) UU :=
  .xO (k := fun x => setItem x y z) ro fun j a d pl => .oLp pl (fun l ws pl L r => .xI (k := fun y => setItem (.ref a) y z) ri fun n t => .oo fun m e => .gd fun g => .turn () (fun _ => trivial) O.ok pl (.inl rfl) fun T Q E p => wpC_of (by
      refine ob_E L fun k L => ?_
      refine ob_A (O.ok.nat e) fun e1 e2 => ?_
      refine setItem_list_plain (s := C.st W) L e1 (e1 ▸ fit63 e2) (VVL.size r ▸ Nat.ble_eq.mp g) fun h' n' g' hs => p h' W.tk hs ⟨_, g'⟩ fun L => ⟨rfl, n', ws.set m z, by rw [g', List.setIfInBounds_toArray], VRL.setN (VR.mono T L NoTup.nil _ rv) l (VRL.mono T L NoTup.nil _ r)⟩))
    (.oD pl fun es pl OO ns => .gd fun g => .oo fun es' e => .turn () (fun _ => trivial) O.ok pl (.inl rfl) fun T Q E p => wpC_of (put_k O.ok T OO ri e fun knd kk kvs h1 h2 h3 h4 => wpAny_setItem_pairs (s := C.st W) h1 h2 (fun h' D3 hs => p h' (W.tk + 1) hs (dict_there D3) fun L => h4 L (VR.mono T L NoTup.nil _ rv) D3)
      (h3 ▸ Nat.le_trans (Nat.le_of_lt (ble_small g)) (by decide))))
theorem dset_run (ok : DmOk C.D C.p) {j : Nat} {a : Addr} {d : Option Addr} (pl : Pl W.ι j a d) (ri : VV C W i y) (rv : VV C W v z) : Run C F W (dictSet a y z) (setD C.D j i v W.σ) UU :=
  .oD pl fun es pl OO ns => .gd fun g => .oo fun es' e => .turn () (fun _ => trivial) ok pl (.inl rfl) fun T Q E p => wpC_of (put_k ok T OO ri e fun knd kk kvs h1 h2 h3 h4 => wpAny_dictSet_pairs (s := C.st W) h1 h2 (fun h' D3 hs => p h' (W.tk + 1) hs (dict_there D3) fun L => h4 L (VR.mono T L NoTup.nil _ rv) D3)
    (h3 ▸ Nat.le_trans (Nat.le_of_lt (ble_small g)) (by decide)))
theorem Run.newK {t : Sem γ} {k : γ → Sem β} {o : MO} {f : Nat → S → RF S α} {G : γ → Addr → Prop} (ok : DmOk C.D C.p) (h : ∀ (Q : γ → Shared → Prop) E, (∀ y a d h' tk, Kp W.h h' → (∀ x, (x = a ∨ d = some x) → W.h.get? x = none) → (∀ {ι}, OR C.prog C.w C.p h' ι a d o) → G y a → Q y (C.sh h' tk)) → wpAny C.M F.A t Q E (C.st W))
    (K : ∀ W' y a d, Fut C F [] W W' → Pl W'.ι (C.D.len W.σ) a d → G y a → Run C F W' (k y) (f (C.D.len W.σ) W'.σ) R) : Run C F W (t >>= k) (pushF C.D W.σ o f) R := ⟨fun T Q E p => by
  unfold pushF at p
  cases e : C.D.push W.σ o with
  | none => rw [e] at p; exact p.elim
  | some σ' =>
    rw [e] at p
    refine wpC_bind (wpC_of (h _ E fun y a d h' tk kp fr O g => ?_))
    have z : Fut C F [] W ⟨W.ι ++ [(a, d)], σ', h', tk⟩ := ⟨T, T.more ok kp fr e O, Lat.more kp fr⟩
    exact (K _ y a d z (T.len ▸ .new) g).go z.S1 Q E (Ens.later z p)⟩
theorem dict0 (prog : Program) (w : World) (h : Heap) {p : Mp} {ι : Io} : OR prog w p (h.push { cls := .type "dict", data := .dict #[] }) ι h.objs.size none (.dict []) := ⟨rfl, .inl ⟨[], Heap.DictOf.new h, rfl⟩⟩
theorem dict_ev (O : Okay C) (hE : EvOk C ih n) (H : Here C F n penv env W) (ks : List (Option PySem.Expr)) (vs : List PySem.Expr) (q : Pos) : Ev C F penv env W ih (.Dict ks vs q) := by
  refine .of (arm_eval_Dict ks vs q penv) (.stand ?_)
  show Run C F W _ ((cDict C.D ks vs).run ih env W.σ) (VV C)
  rcases ks with _ | ⟨_ | k, _ | _⟩ <;> rcases vs with _ | ⟨v, _ | _⟩ <;> first | exact .bad | skip
  · exact .newO (t := PySem.newDict #[]) O.ok fun T Q E p => wpAny_newObj_type (p _ none _ W.tk (Kp.push _ _) (fun x q => q.elim (fun q => q ▸ get_fresh _) fun q => nomatch q) fun _ => dict0 ..) (Nat.zero_le _)
  · show Run C F W _ (pushF C.D W.σ (.dict []) fun i s => rb (ih.ev env s k) fun kv s => rb (ih.ev env s v) fun vv s => rb (setD C.D i kv vv s) fun _ s => .ok (V.obj i) s) _
    refine .of (dictDisplay_pairs [(eval k penv, do let x ← eval v penv; standAt q; pure x)] (by simp) (by simp)) ?_
    unfold subDict
    refine .assoc (.newK (G := fun y a => y = a) O.ok (fun Q E p => wpAny_alloc (p _ _ none _ W.tk (Kp.push _ _) (fun x q => q.elim (fun q => q ▸ get_fresh _) fun q => nomatch q) (dict0 ..) rfl)) fun W1 y a d z pl e => ?_)
    subst e
    refine .assoc (.hold1 ?_)
    rw [if_pos (by simp)]
    unfold evalPairs evalPairs
    refine .assoc (.assoc ((hE F W1 penv env k (H.on z)).bind fun W2 v2 y2 z2 r2 => .assoc (.hold1 (.assoc ((hE F W2 penv env v ((H.on z).on z2)).bind fun W3 v3 y3 z3 r3 => ?_)))))
    refine .assoc (.stand (.pre y3 rfl ?_))
    refine .assoc (.hold1 (.pre [] rfl (.pre [(y2, y3)] rfl (.hold1 ?_))))
    refine ob_EA ((z2.trans z3).L.ext _ _ _ pl) fun d' pl' _u => ?_
    rw [List.forIn_cons]
    refine .assoc (.assoc (.assoc ((dset_run O.ok pl' (r2.mono z3) r3).bind fun W4 v4 y4 z4 _ => ?_)))
    refine ob_EA (z4.L.ext _ _ _ pl') fun d' pl' _u => ?_
    refine .pre (ForInStep.yield PUnit.unit) rfl ?_
    exact .pre PUnit.unit List.forIn_nil (.pre _ rfl (.pre y rfl (.pure ⟨_, _, pl', rfl⟩)))
end
end
end Mine
namespace Mine
open PySem PyProof.Rows PySem.W
open PySem.Builtin
noncomputable section
section
variable {S : Type} (C : Cst S) (F : Fr)
structure Loose (W : Wd S) (x : Addr) : Prop where
  own : ¬ Own W.ι x
  nb : C.base.get? x = none
  ob : ∃ o, W.h.get? x = some o ∧ (∀ ws n, o.data ≠ .seq ws n) ∧ ∀ v, o.data ≠ .cell v
structure Step (x : Addr) (W W' : Wd S) : Prop where
  S0 : Sat C F W
  S1 : Sat C F W'
  l : Loose C W x
  eι : W'.ι = W.ι
  k : Heap.ExtBut x W.h W'.h
end
section
variable {S : Type} {C : Cst S} {F : Fr} {n : Nat} {penv : Env} {env : MEnv} {W W' W0 : Wd S} {α β γ δ : Type} {ih : SemF S} {t : Sem β} {r : RF S α} {R : Rl S α β} {i : Nat} {v : V} {x I : Addr} {y : Value} {h' : Heap} {tk : Nat}
theorem Loose.noTup (l : Loose C W x) : NoTup [x] W.h := fun a m ws t => by
  refine ob_EAA l.ob fun o e c _u => ?_
  refine ob_EAAE t fun o' e' _u k d => ?_
  rw [List.mem_singleton.mp m, e] at e'; injection e' with z1; subst z1; exact c _ k d
theorem Step.L (s : Step C F x W W') : Lat [x] F.envs W.ι W'.ι W.h W'.h := by
  rw [s.eι]
  exact ⟨fun _ _ d e => ⟨d, e, .inr rfl⟩, fun _ m n => absurd m n, fun b o e _ nx _ => s.k b o (fun q => nx (q ▸ .head _)) e, fun b o e _ _ nx => ⟨o.slots, s.k b o (fun q => nx (q ▸ .head _)) e⟩, fun b o e nx => ⟨o, s.k b o (fun q => nx (q ▸ .head _)) e⟩, fun b m => List.mem_singleton.mp m ▸ s.l.own⟩
theorem VV.step (r : VV C W v y) (s : Step C F x W W') : VV C W' v y := VR.mono s.S0 s.L s.l.noTup v r
theorem VVL.step {v : List V} {y : List Value} (r : VVL C W v y) (s : Step C F x W W') : VVL C W' v y := VRL.mono s.S0 s.L s.l.noTup v r
theorem Step.of (T : Sat C F W) (l : Loose C W x) (k : Heap.ExtBut x W.h h') (fr : x ∈ fadr F.envs → ∃ o es ep, h'.get? x = some o ∧ o.data = .dict es ep) : Step C F x W { W with h := h', tk := tk } := by
  have L : Lat [x] F.envs W.ι W.ι W.h h' := ⟨fun _ _ d e => ⟨d, e, .inr rfl⟩, fun _ m n => absurd m n, fun b o e _ nx _ => k b o (fun q => nx (q ▸ .head _)) e, fun b o e _ _ nx => ⟨o.slots, k b o (fun q => nx (q ▸ .head _)) e⟩, fun b o e nx => ⟨o, k b o (fun q => nx (q ▸ .head _)) e⟩, fun b m => List.mem_singleton.mp m ▸ l.own⟩
  have same : ∀ {i a d}, Pl W.ι i a d → ∀ b, (b = a ∨ d = some b) → h'.get? b = W.h.get? b := fun e b q => by
    refine ob_EA (T.odd ⟨_, _, _, e, q⟩) fun o e' _u => ?_
    rw [e']; exact k b o (fun z => l.own (z ▸ ⟨_, _, _, e, q⟩)) e'
  refine ⟨T, ⟨fun b o e => k b o (fun q => ?_) (T.stays b o e), fun env m => ?_, T.len, fun i mo e => ?_, fun i a d e => ?_, T.apart, T.fresh, T.sysm⟩, l, rfl, k⟩
  · subst q; exact nomatch l.nb.symm.trans e
  · refine ob_AEEEEAAAA (T.frs env m) fun c L o es ep b c' d' e f => ?_
    by_cases q : L = x
    · refine ob_EEEA (fr (q ▸ List.mem_filterMap.mpr ⟨env, m, b⟩)) fun o' es' ep' e' d' => ?_
      exact ⟨c, L, o', es', ep', b, c', q ▸ e', d', f⟩
    · exact ⟨c, L, o, es, ep, b, c', k L o q d', e, f⟩
  · refine ob_EEA (T.objs i mo e) fun a d e' O => ?_
    exact ⟨a, d, e', O.mono T L l.noTup (same e')⟩
  · refine ob_E (T.all i a d e) fun mo O => ?_
    exact ⟨mo, O.mono T L l.noTup (same e)⟩
theorem Step.fut {X : List Addr} (z : Fut C F X W0 W) (s : Step C F x W W') (f : W0.h.get? x = none) : Fut C F X W0 W' := by
  have ne : ∀ {b o}, W0.h.get? b = some o → b ≠ x := fun e q => by subst q; exact nomatch f.symm.trans e
  refine ⟨z.S0, s.S1, ?_⟩
  rw [s.eι]
  refine ⟨z.L.ext, z.L.new, fun b o e n nx nf => s.k b o (ne e) (z.L.keep b o e n nx nf), fun b o e q n nx => ?_, fun b o e nx => ?_, z.L.xs⟩
  · refine ob_E (z.L.frk b o e q n nx) fun sl e' => ?_
    exact ⟨sl, s.k b _ (ne e) e'⟩
  · refine ob_E (z.L.dom b o e nx) fun o' e' => ?_
    exact ⟨o', s.k b o' (ne e) e'⟩
theorem ER.step (R : ER C.p W.h W.ι penv env) (s : Step C F x W W') (ne : penv.locals ≠ x) : ER C.p W'.h W'.ι penv env :=
  R.monoX s.S0 s.L s.l.noTup (fun a m o e v q => by
    refine ob_EAA s.l.ob fun o' e' _u nc => ?_
    have z0 := (List.mem_singleton.mp m ▸ e).symm.trans e'; injection z0 with z1; subst z1
    exact nc v q) fun m => ne (List.mem_singleton.mp m)
theorem Loose.later {X : List Addr} (l : Loose C W x) (z : Fut C F X W W') (nf : x ∉ fadr F.envs) (nx : x ∉ X := by exact fun m => nomatch m) : Loose C W' x ∧ ∀ o, W.h.get? x = some o → W'.h.get? x = some o := by
  have k : ∀ o, W.h.get? x = some o → W'.h.get? x = some o := fun o e => z.L.keep x o e l.own nx nf
  refine ob_EA l.ob fun o e q => ?_
  exact ⟨⟨fun m => (nomatch e.symm.trans (z.L.new x m l.own)), l.nb, o, k o e, q⟩, k⟩
theorem Loose.step {z : Addr} (l : Loose C W x) (s : Step C F z W W') (ne : x ≠ z) : Loose C W' x := by
  refine ob_EA l.ob fun o e q => ?_
  exact ⟨s.eι ▸ l.own, l.nb, o, s.k x o ne e, q⟩
theorem Loose.re (l : Loose C W x) (s : Step C F x W W') (h : ∃ o, W'.h.get? x = some o ∧ (∀ ws n, o.data ≠ .seq ws n) ∧ ∀ v, o.data ≠ .cell v) : Loose C W' x := ⟨s.eι ▸ l.own, l.nb, h⟩
theorem Loose.new (T : Sat C F W) (f : W.h.get? x = none) {W' : Wd S} (z : Fut C F [] W W') (no : ¬ Own W'.ι x) (h : ∃ o, W'.h.get? x = some o ∧ (∀ ws n, o.data ≠ .seq ws n) ∧ ∀ v, o.data ≠ .cell v) : Loose C W' x ∧ x ∉ fadr F.envs := by
  refine ⟨⟨no, ?_, h⟩, fun m => ?_⟩
  · cases e : C.base.get? x with
    | none => rfl
    | some o => exact nomatch f.symm.trans (T.stays x o e)
  · refine ob_EA (List.mem_filterMap.mp m) fun env m b => ?_
    refine ob_AEEEEAAA (T.frs env m) fun _u L o _u _u b' _u e _u => ?_
    have z0 := b.symm.trans b'; injection z0 with z1; subst z1
    exact nomatch f.symm.trans e
variable (C) in
def ItR (W : Wd S) (src : Src) (I : Addr) (i : Nat) : Prop := Src.rec (motive := fun _ => Prop) (fun v => vE False (fun _ => False) (fun _ => False) (fun s => ∃ t, W.h.IsStrIter I "str_ascii_iterator" ⟨s.toArray⟩ t i) (fun b => Bytes b ∧ ∃ t, KBw.IsBytesIter W.h I (toB b) t i)
  (fun l => ∃ a ws, a ≠ I ∧ IsTup W.h a ws.toArray ∧ VVL C W l ws ∧ W.h.IsTupleIter I a i) (fun o => ∃ a d, Pl W.ι o a d ∧ a ≠ I ∧ W.h.IsListIter I a i) (fun _ => False) (fun _ => False) v) (fun n => IsRangeIter W.h I (i : Int) ((n : Int) - (i : Int)) 1) src
theorem ItR.move {src : Src} (it : ItR C W src I i) (kI : ∀ o, W.h.get? I = some o → W'.h.get? I = some o) (kt : ∀ a ws, a ≠ I → IsTup W.h a ws → IsTup W'.h a ws) (kr : ∀ l ws, VVL C W l ws → VVL C W' l ws) (ke : ∀ o a d, Pl W.ι o a d → ∃ d', Pl W'.ι o a d') : ItR C W' src I i := by
  cases src with
  | range n => exact kI _ it
  | v v =>
    cases v with
    | str s => refine ob_EEA it fun t o g r => ?_; exact ⟨t, o, kI o g, r⟩
    | byt b => refine ob_AEEA it fun hB t o g r => ?_; exact ⟨hB, t, o, kI o g, r⟩
    | tup l => refine ob_EEAAAEA it fun a ws na T r1 o g r => ?_; exact ⟨a, ws, na, kt a _ na T, kr l ws r1, o, kI o g, r⟩
    | obj j => refine ob_EEAAEA it fun a d e na o g r => ?_; refine ob_E (ke j a d e) fun d' e' => ?_; exact ⟨a, d', e', na, o, kI o g, r⟩
    | _ => exact it.elim
theorem ItR.later {X : List Addr} {src : Src} (it : ItR C W src I i) (l : Loose C W I) (z : Fut C F X W W') (nf : I ∉ fadr F.envs) (nx : I ∉ X := by exact fun m => nomatch m) (nt : NoTup X W.h := by exact NoTup.nil) : ItR C W' src I i :=
  it.move (l.later z nf nx).2 (fun a ws _ t => z.S0.tup_keep z.L t fun q => nt a q _ t) (fun _ _ r => VRL.mono z.S0 z.L nt _ r) fun o a d e => ob_EA (z.L.ext o a d e) fun d' e' _u => ⟨d', e'⟩
theorem ItR.step {src : Src} (it : ItR C W src I i) (s : Step C F x W W') (ne : I ≠ x) : ItR C W' src I i :=
  it.move (fun o e => s.k I o ne e) (fun a ws _ t => by
    refine ob_EA (id t) fun o g r => ?_
    exact ⟨o, s.k a o (fun q => s.l.noTup x (.head _) ws (q ▸ t)) g, r⟩) (fun _ _ r => r.step s) fun o a d e => ⟨d, s.eι ▸ e⟩
theorem next_at (ok : DmOk C.D C.p) (hh : F.A.handled = none) (T : Sat C F W) (l : Loose C W I) (nf : I ∉ fadr F.envs) {src : Src} (it : ItR C W src I i) {r : Option V} (e : itF C.D src W.σ i = some r) {Q : Option Value → Shared → Prop} {E : Value → Shared → Prop}
    (h0 : r = none → ∀ W', W'.σ = W.σ → Step C F I W W' → Q none (C.st W')) (h1 : ∀ v W' y, r = some v → W'.σ = W.σ → Step C F I W W' → VV C W' v y → ItR C W' src I (i + 1) → Loose C W' I → Q (some y) (C.st W')) : wpAny C.M F.A (pyNext (.ref I)) Q E (C.st W) := by
  have st : ∀ {h' tk}, Heap.ExtBut I W.h h' → Step C F I W { W with h := h', tk := tk } := fun k => .of T l k fun m => absurd m nf
  have fin : r = none → ∀ h', Heap.ExtBut I W.h h' → Q none (C.sh h' W.tk) := fun e h' k => h0 e { W with h := h' } rfl (st k)
  have re : ∀ {h' tk o vs}, Heap.ExtBut I W.h h' → h'.get? I = some o → o.data = .fields vs → Loose C { W with h := h', tk := tk } I := fun k e d => l.re (st k) ⟨_, e, fun _ _ q => (nomatch d.symm.trans q), fun _ q => nomatch d.symm.trans q⟩
  cases src with
  | range n =>
    refine ob_A (bt_some e) fun g e => ?_
    cases c : Nat.ble (Nat.succ i) n with
    | false =>
      rw [c] at e; injection e with z1; subst z1
      have : n ≤ i := Nat.not_lt.mp fun q => nomatch c.symm.trans (Nat.ble_eq_true_of_le q)
      exact wpAny_pyNext_range_end (s := C.st W) hh it (by omega) fun h' k => fin rfl h' k
    | true =>
      rw [c] at e; injection e with z1; subst z1
      have := Nat.le_of_ble_eq_true c
      refine wpAny_pyNext_range_item (s := C.st W) it (by omega) fun h' it' hs => h1 _ { W with h := h', tk := W.tk + 1 } _ rfl rfl (st hs.extBut) ⟨W.tk, congrArg (Value.int · _) (ok.num i (Nat.lt_of_lt_of_le (ble_small g) (by decide))).symm⟩ ?_ (re hs.extBut it' rfl)
      show IsRangeIter h' I ((i + 1 : Nat) : Int) ((n : Int) - ((i + 1 : Nat) : Int)) 1
      rw [Int.natCast_add, ← Int.sub_sub]
      exact it'
  | v v =>
    cases v with
    | str s =>
      refine ob_A (bt_some e) fun g e => ?_
      refine ob_E it fun t it => ?_
      cases c : nth s i with
      | none => rw [c] at e; injection e with z1; subst z1; exact wpAny_pyNext_ascii_end (s := C.st W) hh it ((List.getElem?_toArray ..).trans ((nth_eq s i).symm.trans c)) fun h' k => fin rfl h' k
      | some d =>
        rw [c] at e; injection e with z1; subst z1
        exact wpAny_pyNext_ascii_item (s := C.st W) it ((List.getElem?_toArray ..).trans ((nth_eq s i).symm.trans c)) fun h' it' hs => h1 _ { W with h := h', tk := W.tk + 1 } _ rfl rfl (st hs.extBut) ⟨_, rfl⟩ ⟨t, it'⟩ (let ⟨_, g, _, d⟩ := it'; re hs.extBut g d)
    | byt b =>
      refine ob_A (bt_some e) fun g e => ?_
      refine ob_AE it fun hB t it => ?_
      cases c : nth b i with
      | none => rw [c] at e; injection e with z1; subst z1; exact KBw.next_end (s := C.st W) hh it (by unfold toB; rw [List.getElem?_toArray, List.getElem?_map, ← nth_eq, c]; rfl) fun h' k => fin rfl h' k
      | some d =>
        rw [c] at e; injection e with z1; subst z1
        have hd : d < 256 := hB d (List.mem_of_getElem? ((nth_eq b i).symm.trans c))
        refine KBw.next_item (s := C.st W) it (c := UInt8.ofNat d) (by unfold toB; rw [List.getElem?_toArray, List.getElem?_map, ← nth_eq, c]; rfl) fun h' it' hs => h1 _ { W with h := h', tk := W.tk + 1 } _ rfl rfl (st hs.extBut) ⟨W.tk, congrArg (Value.int · _) ?_⟩ ⟨hB, t, it'⟩ (let ⟨_, g, _, d⟩ := it'; re hs.extBut g d)
        rw [ok.num d (Nat.lt_trans hd (by decide)), UInt8.toNat_ofNat', Nat.mod_eq_of_lt hd]; rfl
    | tup vs =>
      injection e with z1; subst z1
      refine ob_EEAAA it fun a ws na t r1 it => ?_
      cases c : nth vs i with
      | none => exact wpAny_pyNext_tuple_end (s := C.st W) hh it t (by rw [List.getElem?_toArray, List.getElem?_eq_none]; rw [VRL.length r1]; exact List.getElem?_eq_none_iff.mp ((nth_eq vs i).symm.trans c)) fun h' k => fin c h' k
      | some v =>
        refine ob_EA (VRL.nth vs r1 c) fun y hy ry => ?_
        exact wpAny_pyNext_tuple_item (s := C.st W) it t (x := y) ((List.getElem?_toArray ..).trans hy) fun h' it' hs => h1 v { W with h := h' } y c rfl (st hs.extBut) (VV.step ry (st hs.extBut)) ⟨a, ws, na, (let ⟨o, g, q⟩ := t; ⟨o, (hs.2 a na).trans g, q⟩), VVL.step r1 (st hs.extBut), it'⟩ (let ⟨_, g, _, d⟩ := it'; re hs.extBut g d)
    | obj j =>
      obtain ⟨vs, e1, e⟩ | e := oL_some e
      case inr => injection e
      injection e with z1; subst z1
      refine ob_EEAA it fun a d pl na it => ?_
      refine ob_EEAAEEA (T.objs j _ e1) fun a' d' e' _u n ws g r1 => ?_
      refine ob_A (pl.fn e') fun z1 _u => ?_; subst z1
      have L : W.h.IsList a ws.toArray := ⟨_, g, rfl, n, rfl⟩
      cases c : nth vs i with
      | none => exact wpAny_pyNext_list_end (s := C.st W) hh it L (by rw [List.getElem?_toArray, List.getElem?_eq_none]; rw [VRL.length r1]; exact List.getElem?_eq_none_iff.mp ((nth_eq vs i).symm.trans c)) fun h' k => fin c h' k
      | some v =>
        refine ob_EA (VRL.nth vs r1 c) fun y hy ry => ?_
        exact wpAny_pyNext_list_item (s := C.st W) it L (x := y) ((List.getElem?_toArray ..).trans hy) fun h' it' hs => h1 v { W with h := h' } y c rfl (st hs.extBut) (VV.step ry (st hs.extBut)) ⟨a, d, pl, na, it'⟩ (let ⟨_, g, _, d⟩ := it'; re hs.extBut g d)
    | _ => injection e
end
end
end Mine
namespace Mine
open PySem PyProof.Rows PySem.W
open PySem.Builtin
noncomputable section
section
variable {S : Type} {C : Cst S} {F : Fr} {n : Nat} {penv : Env} {env : MEnv} {W W' W0 : Wd S} {i : Nat} {v : V} {I : Addr} {y : Value} {Q : Value → Shared → Prop} {E : Value → Shared → Prop}
theorem Sat.record (T : Sat C F W) (c : Value) (vs : Array Value) : let W' : Wd S := { W with h := W.h.push { cls := c, data := .fields vs } }; Fut C F [] W W' ∧ W.h.get? W.h.objs.size = none ∧ Loose C W' W.h.objs.size ∧ W.h.objs.size ∉ fadr F.envs := by
  have f := get_fresh W.h
  have z : Fut C F [] W { W with h := W.h.push { cls := c, data := .fields vs } } := Fut.grow T (Kp.push _ _)
  exact ⟨z, f, Loose.new T f z (T.own_none f) ⟨_, Heap.get?_push_size _ rfl, fun _ _ q => (nomatch q), fun _ q => nomatch q⟩⟩
theorem iter_at (ok : DmOk C.D C.p) (T : Sat C F W) (r : VV C W v y) {o : Option V} (e : itF C.D (.v v) W.σ 0 = some o)
    (h : ∀ I W', W'.σ = W.σ → Fut C F [] W W' → W.h.get? I = none → Loose C W' I → I ∉ fadr F.envs → ItR C W' (.v v) I 0 → Q (.ref I) (C.st W')) : wpAny C.M F.A (pyIter y) Q E (C.st W) := by
  have go : ∀ c vs, ItR C { W with h := W.h.push { cls := c, data := .fields vs } } (.v v) W.h.objs.size 0 → Q (.ref W.h.objs.size) (C.st { W with h := W.h.push { cls := c, data := .fields vs } }) := fun c vs it => by
    refine ob_AAA (T.record c vs) fun z f l nf => ?_
    exact h _ _ rfl z f l nf it
  cases v with
  | str s =>
    refine ob_E r fun t z1 => ?_; subst z1
    refine ob_A (bt_some e) fun g e => ?_
    refine wpAny_pyIter_ascii (s := C.st W) ?_ (go _ _ ⟨t, _, Heap.get?_push_size _ rfl, rfl, rfl⟩)
    unfold ascii at g
    rw [allF_eq] at g
    rw [Array.all_eq_true']
    exact fun c m => decide_eq_true (Nat.lt_succ_of_le (Nat.le_of_ble_eq_true (List.all_eq_true.mp g c (List.mem_toArray.mp m))))
  | byt b =>
    refine ob_A (bt_some e) fun g e => ?_
    refine ob_A r fun z1 hB => ?_; obtain ⟨t, rfl⟩ := z1
    rw [ok.raw g] at hB ⊢
    exact KBw.pyIter_bytes (s := C.st W) (go _ _ ⟨hB, t, _, Heap.get?_push_size _ rfl, rfl, rfl⟩)
  | tup l =>
    refine ob_EEAA r fun a ws z1 t r1 => ?_; subst z1
    refine ob_A (T.record (.type "tuple_iterator") #[.ref a, .int 0 0]) fun z _u => ?_
    exact wpAny_pyIter_tuple (s := C.st W) t (go _ _ ⟨a, ws, (ob_EA (t) fun o ho _u => Nat.ne_of_lt (Heap.lt_size ho)), t.keeps (Kp.push _ _), VVL.mono r1 z, _, Heap.get?_push_size _ rfl, rfl, rfl⟩)
  | obj j =>
    obtain ⟨vs, e1, _⟩ | e := oL_some e
    case inr => injection e
    refine ob_EEA r fun a d pl z1 => ?_; subst z1
    refine ob_EEAAEEA (T.objs j _ e1) fun a' d' e' _u n ws g r1 => ?_
    refine ob_A (pl.fn e') fun z1 _u => ?_; subst z1
    exact wpAny_pyIter_list (s := C.st W) ⟨_, g, rfl, n, rfl⟩ (go _ _ ⟨a, d, pl, Nat.ne_of_lt (Heap.lt_size g), _, Heap.get?_push_size _ rfl, rfl, rfl⟩)
  | _ => injection e
theorem iter_self {src : Src} (it : ItR C W src I i) (h : Q (.ref I) (C.st W)) : wpAny C.M F.A (pyIter (.ref I)) Q E (C.st W) := by
  cases src with
  | range n => exact wpAny_pyIter_rangeiter it h
  | v v =>
    cases v with
    | str s => refine ob_E it fun t it => ?_; exact wpAny_pyIter_striter_ascii it h
    | byt b => refine ob_AE it fun _u t it => ?_; exact KBw.pyIter_self it h
    | tup l => refine ob_EEAAA it fun a ws _u _u _u it => ?_; exact wpAny_pyIter_tupleiter it h
    | obj j => refine ob_EEAA it fun a d _u _u it => ?_; exact wpAny_pyIter_listiter it h
    | _ => exact it.elim
def owners : List String := ["enumerate", "zip", "dict_itemiterator", "dict_reverseitemiterator", "odict_iterator", "itertools.zip_longest", "itertools.pairwise"]
theorem ItR.cls {src : Src} (it : ItR C W src I i) : ∃ o T vs, W.h.get? I = some o ∧ o.cls = .type T ∧ o.data = .fields vs ∧ owners.contains T = false := by
  cases src with
  | range n => exact ⟨_, _, _, it, rfl, rfl, by decide⟩
  | v v =>
    cases v with
    | str s => refine ob_EEAA it fun t o g c d => ?_; exact ⟨o, _, _, g, c, d, by decide⟩
    | byt b => refine ob_AEEAA it fun _u t o g c d => ?_; exact ⟨o, _, _, g, c, d, by decide⟩
    | tup l => refine ob_EEAAAEAA it fun a ws _u _u _u o g c d => ?_; exact ⟨o, _, _, g, c, d, by decide⟩
    | obj j => refine ob_EEAAEAA it fun a d _u _u o g c d => ?_; exact ⟨o, _, _, g, c, d, by decide⟩
    | _ => exact it.elim
def nameOf (e : PySem.Expr) : Option Str := match e with
  | .Name x _ => some x
  | _ => none
theorem nameOf_some {e : PySem.Expr} {x : Str} (h : nameOf e = some x) : ∃ p, e = .Name x p := by cases e <;> first | (cases h; exact ⟨_, rfl⟩) | injection h
inductive Tgt : PySem.Expr → Type where
  | one (x : Str) (p : Pos) : Tgt (.Name x p)
  | many (es : List PySem.Expr) (k : Nat) (p : Pos) (xs : List Str) (h : mapO nameOf es = some xs) : Tgt (.Tuple es k p)
theorem tgt {t : PySem.Expr} {sc : List (Str × NameKind)} (h : (cT t).ok sc = true) : Nonempty (Tgt t) := by
  cases t with
  | Name x p => exact ⟨.one x p⟩
  | Tuple es k p =>
    cases e : mapO nameOf es with
    | none =>
      have : cT (.Tuple es k p) = ⟨fun _ _ => none, fun _ => false⟩ := (congrArg (fun o => oo _ _ o) e : _)
      rw [this] at h; injection h
    | some xs => exact ⟨.many es k p xs e⟩
  | _ => injection h
theorem owned_go {src : Src} {Q : Unit → Shared → Prop} (it : ItR C W src I i) {t : PySem.Expr} (g : Tgt t) (x : Value) (h : Q () (C.st W)) : wpAny C.M F.A (letOwnedTupleGo t (.ref I) x) Q E (C.st W) := by
  refine ob_EEEAAA it.cls fun o T vs e c d q => ?_
  cases g with
  | one => exact wpAny_pure h
  | many es k p xs =>
    cases x with
    | ref a =>
      show wpAny _ _ (load I >>= fun o => match o.cls, o.data with
          | .type n, .fields vs => if (owners.contains n && vs[0]? == some (rawInt a)) = true then do
              rule "for.unpacks-the-owned-tuple"
              updateField I 0 .none
            else pure ()
          | _, _ => pure ()) _ _ _
      refine wpAny_bind (wpAny_load (s := C.st W) e ?_)
      rw [c, d]
      dsimp only
      rw [q, Bool.false_and, if_neg Bool.false_ne_true]
      exact wpAny_pure h
    | _ => exact wpAny_pure h
section
variable {sc : List (Str × NameKind)} {vars vars' : List (Nat × V)} {Q : Unit → Shared → Prop}
theorem isLo_eq {o : Option NameKind} (h : isLo o = true) : o = some .local := by
  cases o with
  | none => injection h
  | some k => cases k <;> first | rfl | injection h
theorem ER.loose (R : ER C.p W.h W.ι penv env) (nb : C.base.get? penv.locals = none) : Loose C W penv.locals := by
  refine ob_EA R.ns fun _u z1 _u => ?_; refine ob_EEEAA z1 fun o es ep e d _u => ?_
  exact ⟨R.lo, nb, o, e, fun _ _ q => (nomatch d.symm.trans q), fun _ q => nomatch d.symm.trans q⟩
theorem store_at (T : Sat C F W) (R : ER C.p W.h W.ι penv ⟨sc, vars⟩) (nb : C.base.get? penv.locals = none) {x : Str} (loc : isLo (lukS sc (kc x)) = true) (r : VV C W v y)
    (h : ∀ W', W'.σ = W.σ → Step C F penv.locals W W' → ER C.p W'.h W'.ι penv ⟨sc, put vars (kc x) v⟩ → Q () (C.st W')) : wpAny C.M F.A (storeName penv x y) Q E (C.st W) := by
  refine ob_EA R.ns fun m hn hv => ?_
  have hl : sc.lookup x = some .local := (lukS_eq _ _).symm.trans (isLo_eq loc)
  refine wpAny_storeName_local (s := C.st W) ((R.sc x).1 hl) hn (fun h' hn' hs => ?_) (by rw [R.fn]; rfl)
  have s : Step C F penv.locals W { W with h := h', tk := W.tk + 1 } := .of T (R.loose nb) hs.extBut fun _ => ob_EEEAA (hn') fun o es ep e d _u => ⟨o, es, ep, e, d⟩
  refine h { W with h := h', tk := W.tk + 1 } rfl s ⟨R.fn, R.gl, R.bi, R.sc, R.lo, _, hn', fun z u e => ?_⟩
  rw [luk_put, kc_beq] at e
  cases q : x == z with
  | true =>
    rw [q] at e; injection e with z1; subst z1
    rw [← eq_of_beq q]
    exact .inl ⟨hl, y, if_pos rfl, VV.step r s⟩
  | false =>
    rw [q] at e
    refine (hv z u e).imp (fun q1 => ob_AEA q1 fun a y' b c => ⟨a, y', by rw [if_neg fun f => nomatch q.symm.trans (beq_iff_eq.mpr f.symm)]; exact b, VV.step c s⟩) fun q1 => ob_AEEAA q1 fun a c y' b q2 f => ob_EA q2 fun o e1 e2 => ⟨a, c, y', b, ⟨o, s.k c o (fun q => ?_) e1, e2⟩, VV.step f s⟩
    refine ob_EAA s.l.ob fun o' e' _u nc => ?_
    rw [q, e'] at e1; injection e1 with z1; subst z1; exact nc _ e2
theorem Step.trans {x : Addr} {W1 : Wd S} (a : Step C F x W W1) (b : Step C F x W1 W') : Step C F x W W' := ⟨a.S0, b.S1, a.l, b.eι.trans a.eι, fun c o n e => b.k c o n (a.k c o n e)⟩
theorem Step.refl {x : Addr} (T : Sat C F W) (l : Loose C W x) : Step C F x W W := ⟨T, T, l, rfl, fun _ _ _ e => e⟩
theorem stores_at (nb : C.base.get? penv.locals = none) (es : List PySem.Expr) : ∀ {xs : List Str} {vs : List V} {ws : List Value} {vars : List (Nat × V)} {W : Wd S}, mapO nameOf es = some xs → Sat C F W → ER C.p W.h W.ι penv ⟨sc, vars⟩ → locals sc xs = true → VVL C W vs ws → putL xs vs vars = some vars' →
    (∀ W', W'.σ = W.σ → Step C F penv.locals W W' → ER C.p W'.h W'.ι penv ⟨sc, vars'⟩ → Q () (C.st W')) → wpAny C.M F.A (assignInOrder ((assignEach es penv).map (·.2)) ws) Q E (C.st W) := by
  induction es with
  | nil =>
    intro xs vs ws vars W hx T R loc r e h
    injection hx with z1; subst z1
    cases vs with
    | nil => (injection e with z1; subst z1); rw [show ws = [] from r]; exact wpAny_assignInOrder_none (h W rfl (.refl T (R.loose nb)) R)
    | cons _ _ => injection e
  | cons e0 es ih =>
    intro xs vs ws vars W hx T R loc r e h
    refine ob_EEAA (mapO_cons hx) fun x xs' h1 h2 z1 => ?_; subst z1
    refine ob_E (nameOf_some h1) fun p z1 => ?_; subst z1
    cases vs with
    | nil => injection e
    | cons v vs =>
      refine ob_EEAA (VRL.cons_inv r) fun w u z1 r1 r2 => ?_; subst z1
      refine ob_A (allF_cons loc) fun l1 l2 => ?_
      exact wpAny_assignInOrder_more (wpAny_assign_Name (store_at T R nb l1 r1 fun W1 e1 s1 R1 => ih h2 s1.S1 R1 l2 (VVL.step r2 s1) e fun W2 e2 s2 R2 => h W2 (e2.trans e1) (s1.trans s2) R2))
theorem names_each (es : List PySem.Expr) : ∀ {xs : List Str}, mapO nameOf es = some xs → (assignEach es penv).findIdx? (·.1) = none ∧ (assignEach es penv).length = lenF xs := by
  induction es with
  | nil => intro xs hx; injection hx with z1; subst z1; exact ⟨rfl, rfl⟩
  | cons e0 es ih =>
    intro xs hx
    refine ob_EEAA (mapO_cons hx) fun x xs' h1 h2 z1 => ?_; subst z1
    refine ob_E (nameOf_some h1) fun p z1 => ?_; subst z1
    refine ob_A (ih h2) fun i1 i2 => ?_
    refine ⟨?_, congrArg Nat.succ i2⟩
    show ((false, assign (.Name x p) penv) :: assignEach es penv).findIdx? (·.1) = none
    rw [List.findIdx?_cons, i1]; rfl
theorem putL_len' (xs : List Str) : ∀ {vs : List V} {vars vars' : List (Nat × V)}, putL xs vs vars = some vars' → lenF xs = lenF vs := by
  induction xs with
  | nil => intro vs vars vars' e; cases vs with | nil => rfl | cons _ _ => injection e
  | cons x xs ih => intro vs vars vars' e; cases vs with | nil => injection e | cons v vs => exact congrArg Nat.succ (ih e)
theorem assign_at (hh : F.A.handled = none) (T : Sat C F W) (R : ER C.p W.h W.ι penv ⟨sc, vars⟩) (nb : C.base.get? penv.locals = none) {t : PySem.Expr} (g : Tgt t) (hok : (cT t).ok sc = true) (r : VV C W v y) (e : (cT t).f v vars = some vars')
    (h : ∀ W', W'.σ = W.σ → Step C F penv.locals W W' → ER C.p W'.h W'.ι penv ⟨sc, vars'⟩ → Q () (C.st W')) : wpAny C.M F.A (assign t penv y) Q E (C.st W) := by
  cases g with
  | one x p => (injection e with z1; subst z1); exact wpAny_assign_Name (store_at T R nb hok r h)
  | many es k p xs hx =>
    have ec : cT (.Tuple es k p) = ⟨fun v vars => vT none (fun vs => putL xs vs vars) v, fun sc => locals sc xs⟩ := (congrArg (fun o => oo _ _ o) hx : _)
    rw [ec] at e hok
    refine ob_EA (vT_some e) fun l z1 e => ?_; subst z1
    refine ob_EEAA r fun a ws z1 t r1 => ?_; subst z1
    refine ob_A (names_each (penv := penv) es hx) fun n1 n2 => ?_
    refine wpAny_assign_Tuple (s := C.st W) hh t (by rw [n2, putL_len' xs e, VVL.size r1]) n1 fun h1 ext => ?_
    have kk : Kp W.h h1 := fun b o e => ext b o (Nat.ne_of_lt (Heap.lt_size e)) e
    have z : Fut C F [] W { W with h := h1 } := Fut.grow T kk
    exact stores_at (W := { W with h := h1 }) nb es hx z.S1 (R.mono T z.L) hok (VVL.mono r1 z) e fun W' e' s R' => h W' e' ⟨T, s.S1, R.loose nb, s.eι, fun b o n e => s.k b o n (kk b o e)⟩ R'
end
end
end
end Mine
namespace Mine
open PySem PyProof.Rows PySem.W
open PySem.Builtin
noncomputable section
abbrev Cells := List (Str × Addr)
def cloF (penv : Env) (x : Str × NameKind) (r : Cells) : Sem (ForInStep Cells) := if (x.2 == NameKind.free) = true then do let c ← cellOf penv x.1; pure (ForInStep.yield ((x.1, c) :: r)) else pure (ForInStep.yield r)
structure Capt (penv : Env) (env : MEnv) (sc : List (Str × NameKind)) (r : List (Str × NameKind)) (cs cl : Cells) (vars : List (Nat × V)) : Prop where
  run : (forIn r cs (cloF penv) : Sem Cells) = pure cl
  at_ : ∀ p ∈ cl, penv.cells.lookup p.1 = some p.2
  inc : ∀ p ∈ cs, p ∈ cl
  nc : ∀ x ∈ r, x.2 ≠ .cell
  lo : ∀ x ∈ r, x.2 = .local → sc.lookup x.1 = some .local
  vs : ∀ x v, luk vars (kc x) = some v → luk env.vars (kc x) = some v ∧ sc.lookup x = some .free ∧ env.sc.lookup x ≠ some .local ∧ ∃ p ∈ cl, p.1 = x
theorem capt_at {penv : Env} {env : MEnv} {sc : List (Str × NameKind)} (hv : ∀ x v, luk env.vars (kc x) = some v → env.sc.lookup x ≠ some .local → ∃ c, penv.cells.lookup x = some c) (r : List (Str × NameKind)) :
    ∀ {vars : List (Nat × V)} {cs : Cells}, (∀ p ∈ cs, penv.cells.lookup p.1 = some p.2) → List.rec (motive := fun _ => Option (List (Nat × V))) (some [])
      (fun p _ ih => NameKind.rec (motive := fun _ => Option (List (Nat × V))) (bt (isLo (lukS sc (kc p.1))) ih none) none
        (oo none (fun k => oo none (fun k' => NameKind.rec (motive := fun _ => Option (List (Nat × V))) none none (bt (NameKind.rec (motive := fun _ => Bool) false true true false false k') (oo none (fun v => oo none (fun r => some ((kc p.1, v) :: r)) ih) (luk env.vars (kc p.1))) none) none none k) (lukS env.sc (kc p.1))) (lukS sc (kc p.1)))
        ih ih p.2) r = some vars → ∃ cl, Capt penv env sc r cs cl vars := by
  induction r with
  | nil => intro vars cs hc e; injection e with z1; subst z1; exact ⟨cs, rfl, hc, fun _ m => m, fun _ m => (nomatch m), fun _ m => (nomatch m), fun _ _ q => nomatch q⟩
  | cons p r ih =>
    intro vars cs hc e
    obtain ⟨z, k⟩ := p
    have skip : k ≠ .cell → k ≠ .free → (k = .local → sc.lookup z = some .local) → (∃ cl, Capt penv env sc r cs cl vars) → ∃ cl, Capt penv env sc ((z, k) :: r) cs cl vars := fun k1 k2 k3 q1 => ob_E q1 fun cl a => by
      refine ⟨cl, ?_, a.at_, a.inc, List.forall_mem_cons.mpr ⟨k1, a.nc⟩, List.forall_mem_cons.mpr ⟨k3, a.lo⟩, a.vs⟩
      rw [List.forIn_cons]
      show (if (k == NameKind.free) = true then _ else pure (ForInStep.yield cs)) >>= _ = _
      rw [if_neg (by rw [beq_eq_false_iff_ne.mpr k2]; exact Bool.false_ne_true)]
      exact a.run
    cases k with
    | cell => injection e
    | «local» => refine ob_A (bt_some e) fun h e => ?_; exact skip (fun q => nomatch q) (fun q => nomatch q) (fun _ => (lukS_eq sc z).symm.trans (isLo_eq h)) (ih hc e)
    | free =>
      refine ob_EA (oo_some e) fun k h1 e => ?_
      refine ob_EA (oo_some e) fun k' h2 e => ?_
      have hk : k = .free := by cases k <;> first | rfl | injection e
      subst hk
      refine ob_A (bt_some e) fun h3 e => ?_
      refine ob_EA (oo_some e) fun v h4 e => ?_
      refine ob_EA (oo_some e) fun vs h5 e => ?_
      injection e with z1; subst z1
      rw [lukS_eq] at h1 h2
      have nl : env.sc.lookup z ≠ some .local := fun q => by rw [h2] at q; injection q with z1; subst z1; injection h3
      refine ob_E (hv z v h4 nl) fun c hz => ?_
      refine ob_E (ih (cs := (z, c) :: cs) (List.forall_mem_cons.mpr ⟨hz, hc⟩) h5) fun cl a => ?_
      refine ⟨cl, ?_, a.at_, fun p m => a.inc p (.tail _ m), List.forall_mem_cons.mpr ⟨fun q => (nomatch q), a.nc⟩, List.forall_mem_cons.mpr ⟨fun q => (nomatch q), a.lo⟩, fun x u q => ?_⟩
      · rw [List.forIn_cons]
        show (cellOf penv z >>= fun c => pure (ForInStep.yield ((z, c) :: cs))) >>= _ = _
        unfold cellOf
        rw [hz]
        exact a.run
      · change bt (Nat.beq (kc z) (kc x)) (some v) (luk vs (kc x)) = some u at q
        rw [kc_beq] at q
        cases hb : z == x with
        | true => rw [hb] at q; injection q with z1; subst z1; rw [← eq_of_beq hb]; exact ⟨h4, h1, nl, (z, c), a.inc _ (.head _), rfl⟩
        | false => rw [hb] at q; exact a.vs x u q
    | _ => exact skip (fun q => nomatch q) (fun q => nomatch q) (fun q => nomatch q) (ih hc e)
theorem lookup_cl {f : Str → Option Addr} (cl : Cells) {n : Str} (h : ∀ p ∈ cl, f p.1 = some p.2) (m : ∃ p ∈ cl, p.1 = n) : cl.lookup n = f n := by
  induction cl with
  | nil => refine ob_EA m fun _u m _u => ?_; cases m
  | cons p r ih =>
    obtain ⟨x, c⟩ := p
    rw [List.lookup_cons]
    cases q : n == x with
    | true => rw [eq_of_beq q]; exact (h (x, c) (.head _)).symm
    | false =>
      refine ob_EA m fun p m e => ?_
      refine ih (fun p m => h p (.tail _ m)) ⟨p, (List.mem_cons.mp m).resolve_left fun z => ?_, e⟩
      rw [← e, z, beq_self_eq_true] at q; injection q
theorem lookup_relabel {penv : Env} (names : List (Str × NameKind)) {x : Str} {k : NameKind} (h : names.lookup x = some k) :
    (names.map fun (n, k) => if (k == NameKind.free && penv.scope.kind == .function && penv.kindOf n == some .cell) then (n, NameKind.cell) else (n, k)).lookup x = some (if (k == NameKind.free && penv.scope.kind == .function && penv.kindOf x == some .cell) then NameKind.cell else k) := by
  induction names with
  | nil => injection h
  | cons p r ih =>
    obtain ⟨n, k'⟩ := p
    rw [List.map_cons]
    rw [List.lookup_cons] at h
    cases hx : x == n with
    | true =>
      rw [hx] at h
      injection h with z1; subst z1
      rw [eq_of_beq hx]
      dsimp only
      split <;> rw [List.lookup_cons, beq_self_eq_true]
    | false =>
      rw [hx] at h
      dsimp only
      split <;> (rw [List.lookup_cons, hx]; exact ih h)
section
variable {S : Type} {C : Cst S} {F : Fr} {n : Nat} {penv : Env} {env : MEnv} {W W' W0 : Wd S}
theorem ER.cell (R : ER C.p W.h W.ι penv env) {x : Str} {v : V} (e : luk env.vars (kc x) = some v) (nl : env.sc.lookup x ≠ some .local) : ∃ c y, penv.cells.lookup x = some c ∧ W.h.IsCell c (some y) ∧ VV C W v y := by
  refine ob_EA R.ns fun m _u hv => ?_
  rcases hv x v e with ⟨q, _⟩ | ⟨_, c, y, q⟩
  · exact absurd q nl
  · exact ⟨c, y, q⟩
theorem ER.comp (R : ER C.p W.h W.ι penv env) {sc : Scope} {vars : List (Nat × V)} {cl : Cells} (hk : sc.kind = .function) (c : Capt penv env sc.names sc.names [] cl vars) {L : Addr} {m : Str → Option Value} (hn : W.h.Ns L m) (nL : ¬ Own W.ι L) : ER C.p W.h W.ι (compEnvC sc cl L penv) ⟨sc.names, vars⟩ := by
  have look : ∀ {x k}, sc.names.lookup x = some k → (compEnvC sc cl L penv).kindOf x = some (if (k == NameKind.free && penv.scope.kind == .function && penv.kindOf x == some .cell) then NameKind.cell else k) := fun q => lookup_relabel sc.names q
  refine ⟨hk, R.gl, R.bi, fun x => ⟨fun q => look q, fun q => look q⟩, nL, m, hn, fun x v q => .inr ?_⟩
  refine ob_AAA (c.vs x v q) fun q1 q2 q3 q4 => ?_
  refine ob_EEAA (R.cell q1 q3) fun a y q5 q6 q7 => ?_
  refine ⟨?_, a, y, (lookup_cl (f := fun n => penv.cells.lookup n) cl c.at_ q4).trans q5, q6, q7⟩
  rw [look q2]
  split
  · exact .inl rfl
  · exact .inr rfl
end
end
end Mine
namespace Mine
open PySem PyProof.Rows PySem.W
open PySem.Builtin
noncomputable section
abbrev testsIn (l : List PySem.Expr) (penv : Env) (b : Bool) : Sem Bool := forIn l b fun c r => if r = true then do let ok ← PySem.isTrue c penv (eval c penv); pure (ForInStep.yield ok) else pure (ForInStep.yield r)
section
variable {S : Type} {C : Cst S} {F : Fr} {n : Nat} {penv cenv : Env} {env : MEnv} {W W' W0 : Wd S} {α β γ δ : Type} {ih : SemF S} {t : Sem β} {r : RF S α} {R : Rl S α β} {I : Addr}
theorem tests_false (l : List PySem.Expr) (T : Sat C F W) : Run C F W (testsIn l penv false) (.ok false W.σ) BB := by
  induction l with
  | nil => exact .pure rfl
  | cons e l ih =>
    unfold testsIn
    rw [List.forIn_cons]
    exact .pre (ForInStep.yield false) rfl ih
theorem tests_run (hT : TsOk C ih n) (l : List PySem.Expr) : ∀ {W : Wd S}, Here C F n penv env W → Run C F W (testsIn l penv true) (tstV l ih env W.σ) BB := by
  induction l with
  | nil => exact fun _ => .pure rfl
  | cons e l ih' =>
    intro W H
    unfold testsIn
    rw [List.forIn_cons]
    refine .assoc (.test (hT F W penv env e H) fun W1 b z => .pre (ForInStep.yield b) rfl ?_)
    cases b with
    | true => exact ih' (H.on z)
    | false => exact tests_false l z.S1
theorem Ens.bindN {f : α → S → RF S γ} {R' : Rl S γ δ} {Q : δ → Shared → Prop} {E E' : Value → Shared → Prop} {Q' : ε → Shared → Prop} {k : β → Sem ε} (z : Fut C F [] W0 W) (h : Run C F W t r R) (p : Ens C F W0 (rn r f) R' Q E)
    (K : ∀ W' v y, Fut C F [] W W' → R W' v y → Ens C F W0 (f v W'.σ) R' Q E → wpC C.M F.A (k y) Q' E' (C.st W')) : wpC C.M F.A (t >>= k) Q' E' (C.st W) := by
  refine wpC_bind (h.go z.S1 _ E' ?_)
  cases r with
  | ok v s => exact fun W' y e z' r => K W' v y z' r (by rw [e]; exact p)
  | _ => exact p.elim
structure CompE (C : Cst S) (e : PySem.Expr) : Prop where
  un : ∀ (A : Around) it acc env, A.under (.compLoop e 0 it acc env) = A
  unS : ∀ (A : Around) it acc env, A.under (.compStart e 0 it acc env) = A
  den : ∀ it acc env, C.M.den (.compLoop e 0 it acc env) = (compTurn e 0 it acc env).onRaise (fun x => do noteFrame x env; theTreesLotGoes x)
  denS : ∀ it acc env, C.M.den (.compStart e 0 it acc env) = (compStart e 0 it acc env).onRaise (fun x => do noteFrame x env; standAt theWindowsPlace)
structure CL (C : Cst S) (F : Fr) (W0 : Wd S) (sc : List (Str × NameKind)) (cenv : Env) (I : Addr) (vars : List (Nat × V)) (W : Wd S) : Prop where
  z : Fut C F [] W0 W
  R : ER C.p W.h W.ι cenv ⟨sc, vars⟩
  l : Loose C W I
structure CLc (C : Cst S) (F : Fr) (W0 : Wd S) (cenv : Env) (I : Addr) : Prop where
  nI : I ∉ fadr F.envs
  fI : W0.h.get? I = none
  nb : C.base.get? cenv.locals = none
  fC : W0.h.get? cenv.locals = none
  ne : cenv.locals ≠ I
def LE (C : Cst S) (L : Addr) (j : Nat) (D : Addr) : Rl S V Unit := fun W _ _ => ¬ Own W.ι L ∧ (∃ m, W.h.Ns L m) ∧ ∃ d, Pl W.ι j D d
theorem comp_loop (O : Okay C) {e : PySem.Expr} (ce : CompE C e) (hT : TsOk C ih n) (hA : AOk F n) {sc : List (Str × NameKind)} {it t : PySem.Expr} {ifs : List PySem.Expr} {emit : Sem Unit} {j : Nat} {D : Addr} {add : MEnv → S → RF S V} {src : V} {Q : Unit → Shared → Prop} {E : Value → Shared → Prop} (g : Tgt t) (hok : (cT t).ok sc = true)
    (ht : compTurn e 0 (.ref I) (.ref D) cenv = (do standAt it.pos; match ← pyNext (.ref I) with | none => pure (.done .next) | some v => (do letOwnedTupleGo t (.ref I) v; assign t cenv v; let ok ← testsIn ifs cenv true; if ok = true then (do emit; again (.compLoop e 0 (.ref I) (.ref D) cenv)) else again (.compLoop e 0 (.ref I) (.ref D) cenv))))
    (he : ∀ W' env' d, Here C F n cenv env' W' → Pl W'.ι j D d → Run C F W' emit (add env' W'.σ) UU) (c : CLc C F W0 cenv I) (k : Nat) :
    ∀ {i : Nat} {vars : List (Nat × V)} {W : Wd S} {d : Option Addr}, CL C F W0 sc cenv I vars W → ItR C W (.v src) I i → Pl W.ι j D d → Ens C F W0 (compF C.D ih sc (cT t) ifs add src k i vars W.σ) (LE C cenv.locals j D) Q E →
      codeC C.M F.A (.compLoop e 0 (.ref I) (.ref D) cenv) (fun r s' => match r with | .ok _ => Q () s' | .error _ => False) (C.st W) := by
  induction k with
  | zero => exact fun _ _ _ p => p.elim
  | succ k ihk =>
    intro i vars W d L it' pl p
    refine codeC_of_tree rfl ?_
    rw [ce.un, ce.den]
    refine wpC_onRaise ?_
    rw [ht]
    change Ens C F W0 (oo .bad (fun o => oo (.ok .none W.σ) (fun v => oo .bad (fun vars => rn (tstV ifs ih ⟨sc, vars⟩ W.σ) fun c s => bt c (rn (add ⟨sc, vars⟩ s) fun _ s => compF C.D ih sc (cT t) ifs add src k (Nat.succ i) vars s) (compF C.D ih sc (cT t) ifs add src k (Nat.succ i) vars s)) ((cT t).f v vars)) o) (itF C.D (.v src) W.σ i)) _ _ _ at p
    cases hi : itF C.D (.v src) W.σ i with
    | none => rw [hi] at p; exact p.elim
    | some o =>
      rw [hi] at p
      refine wpC_bind (wpC_standAt (wpC_bind (wpC_of (next_at O.ok hA.hd L.z.S1 L.l c.nI it' hi (fun e0 W1 e1 s1 => ?_) fun v W1 y e0 e1 s1 ry it1 l1 => ?_))))
      · subst e0
        have R1 := L.R.step s1 c.ne
        exact wpC_pure (p W1 () e1 (s1.fut L.z c.fI) ⟨R1.lo, (ob_EA (R1.ns) fun m hn _u => ⟨m, hn⟩), d, s1.eι ▸ pl⟩)
      · subst e0
        change Ens C F W0 (oo .bad (fun vars => rn (tstV ifs ih ⟨sc, vars⟩ W.σ) fun c s => bt c (rn (add ⟨sc, vars⟩ s) fun _ s => compF C.D ih sc (cT t) ifs add src k (Nat.succ i) vars s) (compF C.D ih sc (cT t) ifs add src k (Nat.succ i) vars s)) ((cT t).f v vars)) _ _ _ at p
        cases hb : (cT t).f v vars with
        | none => rw [hb] at p; exact p.elim
        | some vars2 =>
          rw [hb] at p
          refine wpC_bind (wpC_of (owned_go it1 g y (wpC_bind (wpC_of (assign_at hA.hd s1.S1 (L.R.step s1 c.ne) c.nb g hok ry hb fun W2 e2 s2 R2 => ?_)))))
          have z2 := s2.fut (s1.fut L.z c.fI) c.fC
          refine Ens.bindN (f := fun c s => bt c (rn (add ⟨sc, vars2⟩ s) fun _ s => compF C.D ih sc (cT t) ifs add src k (Nat.succ i) vars2 s) (compF C.D ih sc (cT t) ifs add src k (Nat.succ i) vars2 s)) z2 (tests_run hT ifs (env := ⟨sc, vars2⟩) ⟨hA, R2⟩) (by rw [e2, e1]; exact p) fun W3 b b' z3 eb p3 => ?_
          subst eb
          have l2 := (l1.step s2 c.ne.symm)
          refine ob_A (l2.later z3 c.nI) fun l3 _u => ?_
          have i3 := (it1.step s2 c.ne.symm).later l2 z3 c.nI
          have R3 := R2.mono z3.S0 z3.L
          refine ob_EA (z3.L.ext j D d (s2.eι ▸ s1.eι ▸ pl)) fun d3 pl3 _u => ?_
          cases b' with
          | false => exact wpC_pure ⟨rfl, ihk ⟨z2.trans z3, R3, l3⟩ i3 pl3 p3⟩
          | true =>
            refine Ens.bindN (z2.trans z3) (he W3 ⟨sc, vars2⟩ d3 ⟨hA, R3⟩ pl3) p3 fun W4 v4 y4 z4 _ p4 => ?_
            refine ob_A (l3.later z4 c.nI) fun l4 _u => ?_
            refine ob_EA (z4.L.ext j D d3 pl3) fun d4 pl4 _u => ?_
            exact wpC_pure ⟨rfl, ihk ⟨(z2.trans z3).trans z4, R3.mono z4.S0 z4.L, l4⟩ (i3.later l3 z4 c.nI) pl4 p4⟩
end
section
variable {M : Model} {A : Around} {E : Value → Shared → Prop} {s : Shared} {env : Env}
theorem wpC_standIf {α : Type} {c : Prop} [Decidable c] {pos : Pos} {k : PUnit → Sem α} {Q : α → Shared → Prop} (h : wpC M A (k ()) Q E s) : wpC M A (if c then (standAt pos >>= k) else k ()) Q E s := by
  split
  · exact wpC_bind (wpC_standAt h)
  · exact h
def compPostC (M : Model) (A : Around) (E : Value → Shared → Prop) (use : Option (Value → Sem Unit)) (Q : Value → Shared → Prop) (acc : Value) (C : Addr) (s' : Shared) : Prop :=
  match use with
  | none => ∃ m, s'.heap.Ns C m ∧ ∀ h', Heap.SameBut C s'.heap h' → Q acc { s' with heap := h' }
  | some u => wpC M A (u acc) (fun _ s'' => ∃ m, s''.heap.Ns C m ∧ ∀ h', Heap.SameBut C s''.heap h' → Q .none { s'' with heap := h' }) E s'
theorem wpC_comprehension {e : Expr} {scope : Scope} {pos : Pos} {newAcc first : Sem Value} {g : Comprehension} {gs : List Comprehension} {cl : List (PySem.Str × Addr)} {use : Option (Value → Sem Unit)}
    {Q : Value → Shared → Prop}
    (hcl : clausesOf e = g :: gs) (hs : ∀ x, foldedSetIterable g.iter env x = pure x) (hclos : closureFor scope env = pure cl)
    (hkind : scope.kind = .function) (hnames : ∀ x ∈ scope.names, x.2 = .local → scope.names.lookup x.1 = some .local)
    (h : wpC M A first (fun x s₁ => wpC M A (pyIter x) (fun it s₂ => wpC M A newAcc (fun acc s₃ =>
      wpC M A (newFunctionEnv scope env.globals cl [] env.qual none .none (some env)) (fun cenv s₄ =>
        codeC M A (.compStart e 0 it acc { cenv with scope := relabel scope env }) (fun r s' => match r with | .ok _ => compPostC M A E use Q acc cenv.locals s' | .error _ => False) s₄) E s₃) E s₂) E s₁) E s) :
    wpC M A (comprehension e scope env pos newAcc false first use) Q E s := by
  unfold comprehension
  rw [hclos, hcl]
  refine wpC_bind (wpC_mono h (fun x s₁ h₁ => wpC_bind (wpC_standAt (wpC_bind (wpC_of_eq (hs x) (wpC_bind (wpC_holding (wpC_mono h₁ (fun it s₂ h₂ =>
    wpC_standIf (wpC_bind (wpC_mono h₂ (fun acc s₃ h₃ => wpC_bind (wpC_pure (wpC_bind (wpC_mono h₃ (fun cenv s₄ h₄ => ?_) fun _ _ h' => h')))) fun _ _ h' => h')))
      fun _ _ h' => h'))))))) fun _ _ h' => h')
  dsimp only
  have hv : ∀ x ∈ (scope.names.filter fun x => (x.2 == .local || x.2 == .cell) && x.1 != (".0" : PySem.Str)).reverse, x.2 = .local →
      Env.kindOf { cenv with scope := relabel scope env } x.1 = some .local := fun x hx hl => lookup_relabel_local (hnames x (List.mem_filter.mp (List.mem_reverse.mp hx)).1 hl)
  refine wpC_holding (wpC_bind (wpC_attempt (wpC_holding (wpC_run (codeC_mono h₄ fun r s' hr => ?_)))))
  cases r with
  | ok f =>
    cases use with
    | none =>
      refine ob_EA hr fun m hn hr => ?_
      exact wpC_bind (wpC_holding (wpC_of (wpAny_comp_letGo (cenv := { cenv with scope := relabel scope env }) hkind _ s' m hv hn fun h' m' _ hs' => wpC_pure (hr h' hs'))))
    | some u =>
      refine wpC_bind (wpC_rule (wpC_bind (wpC_holding (wpC_mono hr (fun _ s'' hr' => ?_) fun _ _ h' => h'))))
      refine ob_EA hr' fun m hn hr' => ?_
      exact wpC_bind (wpC_of (wpAny_comp_letGo (cenv := { cenv with scope := relabel scope env }) hkind _ s'' m (fun x hx => hv x ((List.mem_append.mp hx).elim List.mem_of_mem_drop List.mem_of_mem_take)) hn fun h' m' _ hs' => wpC_pure (hr' h' hs')))
  | error x => exact hr.elim
theorem codeC_compStart {e it : Expr} {ifs target} {acc : Value} {I : Addr} {R : Result → Shared → Prop} (hcl : clausesOf e = [⟨target, it, ifs, 0⟩]) (unS : A.under (.compStart e 0 (.ref I) acc env) = A) (denS : M.den (.compStart e 0 (.ref I) acc env) = (compStart e 0 (.ref I) acc env).onRaise (fun x => do noteFrame x env; standAt theWindowsPlace))
    (h : ∀ {Q E}, Q (.ref I) s → wpAny M A (pyIter (.ref I)) Q E s) (h0 : codeC M A (.compLoop e 0 (.ref I) acc env) R s) : codeC M A (.compStart e 0 (.ref I) acc env) R s := by
  refine codeC_of_tree rfl ?_
  rw [unS, denS]
  refine wpC_onRaise ?_
  unfold compStart
  rw [hcl]
  refine wpC_bind (wpC_of (wpAny_askSetting ?_))
  split
  · exact wpC_bind (wpC_pure (wpC_pure (And.intro rfl h0)))
  · exact wpC_bind (wpC_rule (wpC_bind (wpC_standAt (wpC_bind (wpC_of (h (wpC_pure (And.intro rfl h0))))))))
end
end
end Mine
namespace Mine
open PySem PyProof.Rows PySem.W
open PySem.Builtin
noncomputable section
section
variable {S : Type} {C : Cst S} {F : Fr} {n : Nat} {penv cenv : Env} {env : MEnv} {W W' W0 : Wd S} {α β γ δ ε : Type} {ih : SemF S} {t : Sem β} {r : RF S α} {R : Rl S α β} {I : Addr}
theorem Ens.cut {f : α → S → RF S γ} {R' : Rl S γ δ} {Q : δ → Shared → Prop} {E : Value → Shared → Prop} {Q' : β → Shared → Prop} (T : Sat C F W) (h : Run C F W t r R) (p : Ens C F W (rb r f) R' Q E)
    (K : ∀ W' v y, Fut C F [] W W' → R W' v y → Ens C F W (f v W'.σ) R' Q E → Q' y (C.st W')) : wpC C.M F.A t Q' E (C.st W) := by
  refine h.go T _ E ?_
  cases r with
  | ok v s => exact fun W' y e z' r => K W' v y z' r (by rw [e]; exact p)
  | exc X s => exact p
  | bad => exact p
variable (C F W) in
def RC : Rl S V (Value × Addr) := fun W' v x => VV C W' v x.1 ∧ Loose C W' x.2 ∧ (∃ m, W'.h.Ns x.2 m) ∧ W.h.get? x.2 = none ∧ x.2 ∉ fadr F.envs
theorem comp_core (O : Okay C) {e : PySem.Expr} (ce : CompE C e) (hE : EvOk C ih n) (hT : TsOk C ih n) (H : Here C F n penv env W) {sc : Scope} {t it : PySem.Expr} {ifs : List PySem.Expr} {p0 : Pos} {o : MO} {add : Nat → SemF S → MEnv → S → RF S V} {newAcc : Sem Value} {use : Option (Value → Sem Unit)} {emit : Env → Addr → Sem Unit} {Q : Value → Shared → Prop} {E : Value → Shared → Prop}
    (hcl : clausesOf e = [⟨t, it, ifs, 0⟩])
    (hacc : ∀ {W : Wd S} (Q : Value → Shared → Prop) E, (∀ a h' tk, Kp W.h h' → W.h.get? a = none → (∀ ι, OR C.prog C.w C.p h' ι a none o) → Q (.ref a) (C.sh h' tk)) → wpAny C.M F.A newAcc Q E (C.st W))
    (ht : ∀ I D cenv, compTurn e 0 (.ref I) (.ref D) cenv = (do standAt it.pos; match ← pyNext (.ref I) with | none => pure (.done .next) | some v => (do letOwnedTupleGo t (.ref I) v; assign t cenv v; let ok ← testsIn ifs cenv true; if ok = true then (do emit cenv D; again (.compLoop e 0 (.ref I) (.ref D) cenv)) else again (.compLoop e 0 (.ref I) (.ref D) cenv))))
    (he : ∀ cenv j D W' env' d, Here C F n cenv env' W' → Pl W'.ι j D d → Run C F W' (emit cenv D) (add j ih env' W'.σ) UU) (T : Sat C F W)
    (p : Ens C F W ((cComp C.D it sc t ifs o add).run ih env W.σ) (RC C F W) (fun x s' => compPostC C.M F.A E use Q x.1 x.2 s') E) :
    wpC C.M F.A (comprehension e sc penv p0 newAcc false (eval it penv) use) Q E (C.st W) := by
  unfold cComp at p
  cases hg : bt (notSet it) (bt (plainSc sc) ((cT t).ok sc.names) false) false with
  | false => rw [hg] at p; exact p.elim
  | true =>
    rw [hg] at p
    refine ob_A (btt hg) fun hse hg => ?_
    refine ob_A (btt hg) fun hp hok => ?_
    have hset : ∀ x, foldedSetIterable it penv x = pure x := fun x => by cases it <;> first | rfl | injection hse
    have hk : sc.kind = .function := by
      unfold plainSc at hp
      split at hp
      · rfl
      · injection hp
    obtain ⟨g⟩ := tgt hok
    change Ens C F W (oo .bad (fun vars => rb (ih.ev env W.σ it) fun src s => oo .bad (fun _ => pushF C.D s o fun i s => rb (compF C.D ih sc.names (cT t) ifs (add i ih) src turns 0 vars s) fun _ s => .ok (V.obj i) s) (itF C.D (.v src) s 0)) (capt env sc.names)) _ _ _ at p
    cases hcap : capt env sc.names with
    | none => rw [hcap] at p; exact p.elim
    | some vars =>
      rw [hcap] at p
      refine ob_E (capt_at (penv := penv) (fun x v e nl => ob_EEA (H.R.cell e nl) fun c y q _u => ⟨c, q⟩) sc.names (cs := []) (fun _ m => nomatch m) hcap) fun cl c => ?_
      refine wpC_comprehension hcl hset (show (forIn sc.names [] (cloF penv) >>= fun r => pure r) = pure cl by rw [c.run]; rfl) hk c.lo ?_
      refine Ens.cut T (hE F W penv env it H) p fun W1 v y z1 r1 p1 => ?_
      cases hi : itF C.D (.v v) W1.σ 0 with
      | none => rw [hi] at p1; exact p1.elim
      | some i0 =>
        rw [hi] at p1
        refine wpC_of (iter_at O.ok z1.S1 r1 hi fun I W2 e2 z2 fI l2 nI it2 => ?_)
        change Ens C F W (pushF C.D W1.σ o fun i s => rb (compF C.D ih sc.names (cT t) ifs (add i ih) v turns 0 vars s) fun _ s => .ok (V.obj i) s) _ _ _ at p1
        rw [← e2] at p1
        unfold pushF at p1
        cases hpu : C.D.push W2.σ o with
        | none => rw [hpu] at p1; exact p1.elim
        | some σ3 =>
          rw [hpu] at p1
          refine wpC_of (hacc _ E fun D h3 tk3 k3 f3 O3 => ?_)
          have fr3 : ∀ x, (x = D ∨ (none : Option Addr) = some x) → W2.h.get? x = none := fun x q => q.elim (fun q => q ▸ f3) fun q => nomatch q
          have z3 : Fut C F [] W2 ⟨W2.ι ++ [(D, none)], σ3, h3, tk3⟩ := ⟨z2.S1, z2.S1.more O.ok k3 fr3 hpu (O3 _), Lat.more k3 fr3⟩
          refine wpC_of (wpAny_newFunctionEnv c.nc (fun y hy => nomatch hy) (fun h4 hns hsb => ?_) hk)
          have k4 : Kp h3 h4 := fun b o e => hsb.extBut b o (Nat.ne_of_lt (Heap.lt_size e)) (Heap.get?_push_of_some _ e)
          have z4 : Fut C F [] ⟨W2.ι ++ [(D, none)], σ3, h3, tk3⟩ ⟨W2.ι ++ [(D, none)], σ3, h4, tk3⟩ := Fut.grow z3.S1 k4
          have f4 : h3.get? h3.objs.size = none := get_fresh h3
          have zz := z1.trans (z2.trans (z3.trans z4))
          have back : ∀ {x}, h3.get? x = none → W.h.get? x = none := fun q => (z1.trans (z2.trans z3)).dom.down q
          have noL : ¬ Own (W2.ι ++ [(D, none)]) h3.objs.size := z3.S1.own_none f4
          refine ob_A (Loose.new (x := h3.objs.size) z3.S1 f4 z4 noL (ob_EEEAA (hns) fun o es ep e d _u => ⟨o, e, fun _ _ q => (nomatch d.symm.trans q), fun _ q => nomatch d.symm.trans q⟩)) fun lL nL => ?_
          have iI := (it2.later l2 z3 nI).later (l2.later z3 nI).1 z4 nI
          have lI := ((l2.later z3 nI).1.later z4 nI).1
          have ne : h3.objs.size ≠ I := fun q => by
            refine ob_EA ((l2.later z3 nI).1.ob) fun o' e' _u => ?_
            rw [← q] at e'; exact nomatch f4.symm.trans e'
          refine codeC_compStart hcl (ce.unS ..) (ce.denS ..) (fun q => iter_self (W := ⟨W2.ι ++ [(D, none)], σ3, h4, tk3⟩) iI q) ?_
          have RR := H.R.mono T zz.L
          have plD : Pl (W2.ι ++ [(D, none)]) (C.D.len W2.σ) D none := z2.S1.len ▸ .new
          refine comp_loop (cenv := compEnvC sc cl h3.objs.size penv) (j := C.D.len W2.σ) (add := add (C.D.len W2.σ) ih) (src := v) (W0 := W) (Q := fun _ s' => compPostC C.M F.A E use Q (.ref D) h3.objs.size s') (E := E) O ce hT H.A g hok (ht I D _) (fun W' env' d => he _ _ D W' env' d)
            ⟨nI, z1.dom.down fI, lL.nb, back f4, ne⟩ turns (W := ⟨W2.ι ++ [(D, none)], σ3, h4, tk3⟩) ⟨zz, RR.comp hk c hns noL, lI⟩ iI plD ?_
          change Ens C F W (rb (compF C.D ih sc.names (cT t) ifs (add (C.D.len W2.σ) ih) v turns 0 vars σ3) fun _ s => .ok (V.obj (C.D.len W2.σ)) s) _ _ _ at p1
          cases hr : compF C.D ih sc.names (cT t) ifs (add (C.D.len W2.σ) ih) v turns 0 vars σ3 with
          | bad => rw [hr] at p1; exact p1
          | exc X s => rw [hr] at p1; exact p1
          | ok u s =>
            rw [hr] at p1
            exact fun W' y e z q1 => ob_AAE q1 fun nO q2 d pl => ob_E q2 fun m hn => p1 W' (.ref D, h3.objs.size) e z ⟨⟨D, d, pl, rfl⟩, ⟨nO, lL.nb, (ob_EEEAA (hn) fun o es ep e d _u => ⟨o, e, fun _ _ q => (nomatch d.symm.trans q), fun _ q => nomatch d.symm.trans q⟩)⟩, ⟨m, hn⟩, back f4, nL⟩
theorem oneGen_some {gens : List Comprehension} {g : PySem.Expr × PySem.Expr × List PySem.Expr} (h : oneGen gens = some g) : gens = [⟨g.1, g.2.1, g.2.2, 0⟩] := by
  unfold oneGen at h
  split at h
  · injection h with z1; subst z1; rfl
  · injection h
theorem comp_none {r : RF S V} {Q : Value → Shared → Prop} {E : Value → Shared → Prop} (p : Ens C F W r (VV C) Q E) : Ens C F W r (RC C F W) (fun x s' => compPostC C.M F.A E none Q x.1 x.2 s') E := by
  cases r with
  | ok v s => exact fun W' x e z q1 => ob_AAAA q1 fun r l q2 f nf => ob_E q2 fun m hn => ⟨m, hn, fun h' hs => by
      have s : Step C F x.2 W' { W' with h := h', tk := W'.tk } := .of z.S1 l hs.extBut fun m => absurd m nf
      exact p { W' with h := h' } x.1 e (s.fut z f) (r.step s)⟩
  | _ => exact p
section
variable {use : Option (Value → Sem Unit)} {Q : Value → Shared → Prop} {E : Value → Shared → Prop}
theorem lcomp_use (O : Okay C) (hE : EvOk C ih n) (hT : TsOk C ih n) (H : Here C F n penv env W) (elt : PySem.Expr) (gens : List Comprehension) (sc : Scope) (q : Pos) (T : Sat C F W) (p : Ens C F W ((cLc C.D elt gens sc).run ih env W.σ) (RC C F W) (fun x s' => compPostC C.M F.A E use Q x.1 x.2 s') E) :
    wpC C.M F.A (comprehension (.ListComp elt gens sc q) sc penv (firstIterPos gens q) (PySem.newList []) (firstAsync gens) (firstIter gens penv) use) Q E (C.st W) := by
  unfold cLc at p
  cases hg : oneGen gens with
  | none => rw [hg] at p; exact p.elim
  | some g =>
    obtain ⟨t, it, ifs⟩ := g
    have z0 := oneGen_some hg; subst z0
    refine comp_core (e := .ListComp elt [⟨t, it, ifs, 0⟩] sc q) (add := addL C.D elt) (emit := fun cenv D => do let _ ← call (.builtin "list.append") [.ref D, ← eval elt cenv]) (o := .list []) O ⟨fun _ _ _ _ => rfl, fun _ _ _ _ => rfl, fun _ _ _ => rfl, fun _ _ _ => rfl⟩ hE hT H rfl
      (fun {W} Q E h => wpAny_newObj_type (h _ _ W.tk (Kp.push _ _) (get_fresh _) fun ι => ⟨rfl, 0, [], Heap.get?_push_size _ rfl, rfl⟩) (Nat.zero_le _)) (fun _ _ _ => rfl) (fun cenv j D W' env' d H' pl => ?_) T p
    refine .of rfl ((hE F W' cenv env' elt H').bind fun W2 v y z r => ?_)
    refine ob_EA (z.L.ext _ _ _ pl) fun d' pl' _u => ?_
    exact .to ((append_m (vs := [v]) (ws := [y]) O.ok pl' ⟨r, rfl⟩).tail fun W3 _ _ _ q => .pure trivial) rfl
theorem lcomp_ev (O : Okay C) (hE : EvOk C ih n) (hT : TsOk C ih n) (H : Here C F n penv env W) (elt : PySem.Expr) (gens : List Comprehension) (sc : Scope) (q : Pos) : Ev C F penv env W ih (.ListComp elt gens sc q) :=
  ⟨fun T Q E p => lcomp_use O hE hT H elt gens sc q T (comp_none p)⟩
theorem dcomp_ev (O : Okay C) (hE : EvOk C ih n) (hT : TsOk C ih n) (H : Here C F n penv env W) (k v : PySem.Expr) (gens : List Comprehension) (sc : Scope) (q : Pos) : Ev C F penv env W ih (.DictComp k v gens sc q) := ⟨fun T Q E p => by
  change Ens C F W ((cDc C.D k v gens sc).run ih env W.σ) (VV C) Q E at p
  unfold cDc at p
  cases hg : oneGen gens with
  | none => rw [hg] at p; exact p.elim
  | some g =>
    obtain ⟨t, it, ifs⟩ := g
    have z0 := oneGen_some hg; subst z0
    refine comp_core (e := .DictComp k v [⟨t, it, ifs, 0⟩] sc q) (add := addD C.D k v) (emit := fun cenv D => do
        let kv ← eval k cenv
        let vv ← PySem.holding [kv] (eval v cenv)
        standAt { k.pos with endLine := v.pos.endLine, endCol := v.pos.endCol }
        PySem.holding [kv, vv] (dictSet D kv vv)) (o := .dict []) O ⟨fun _ _ _ _ => rfl, fun _ _ _ _ => rfl, fun _ _ _ => rfl, fun _ _ _ => rfl⟩ hE hT H rfl
      (fun {W} Q E h => wpAny_newObj_type (h _ _ W.tk (Kp.push _ _) (get_fresh _) fun ι => dict0 ..) (Nat.zero_le _)) (fun _ _ _ => rfl) (fun cenv j D W' env' d H' pl => ?_) T (comp_none p)
    refine (hE F W' cenv env' k H').bind fun W2 v2 y2 z2 r2 => .hold1 ((hE F W2 cenv env' v (H'.on z2)).bind fun W3 v3 y3 z3 r3 => ?_)
    refine ob_EA ((z2.trans z3).L.ext _ _ _ pl) fun d' pl' _u => ?_
    exact .stand (.holding (dset_run O.ok pl' (r2.mono z3) r3))⟩
end
end
end
end Mine
namespace Mine
open PySem PyProof.Rows PySem.W
open PySem.Builtin
noncomputable section
def XS (h₀ h : Heap) (e C L : Addr) : Prop := h₀.get? e = none ∧
  ((∃ a0 oe vs, h.get? e = some oe ∧ oe.cls = .ref C ∧ oe.data = .fields vs ∧ vs[0]? = some a0 ∧ vs[1]? = some .none) ∨
   (∃ a0, h.TracedW h₀ e (.ref C) a0) ∨ (∃ a0, h.TracedAtW h₀ e (.ref C) a0 (rawInt L)))
theorem XS.from {h₀ h h' : Heap} {e C L : Addr} (l : Dom h₀ h) (x : XS h h' e C L) : XS h₀ h' e C L :=
  ⟨l.down x.1, x.2.imp id (Or.imp (fun q => (XF.from l ⟨x.1, q⟩).2) fun q1 => ob_EEEEEEAAAAA q1 fun a0 oe vs T oT ts h1 h2 h3 h4 h5 h6 => ⟨a0, oe, vs, T, oT, ts, h1, h2, h3, h4, l.down h5, h6⟩)⟩
theorem XF.xs {h h' : Heap} {e C L : Addr} (x : XF h h' e C) : XS h h' e C L := ⟨x.1, .inr (.inl x.2)⟩
structure Top1 (penv : Env) (envs : List Env) : Prop where
  hd : ∃ outer, envs = penv :: outer
  fr : penv.frame = some penv.locals
section
variable {S : Type} (C : Cst S) (F : Fr) (penv : Env)
def FlR (W : Wd S) (fl : Fl) (f : Flow) : Prop := Fl.rec (motive := fun _ => Prop) (f = .next) (fun v => ∃ x, f = .ret x ∧ VV C W v x) fl
def EnS (W : Wd S) (r : RF (ES S) Fl) (Q : Flow → Shared → Prop) (E : Value → Shared → Prop) : Prop := RF.rec (motive := fun _ => Prop)
  (fun fl x => ∀ W' f, W'.σ = x.s → Fut C F [penv.locals] W W' → ER C.p W'.h W'.ι penv x.e → FlR C W' fl f → Q f (C.st W'))
  (fun X x => ∀ W' e, W'.σ = x.s → Fut C F [penv.locals] W W' → ER C.p W'.h W'.ι penv x.e → XS W.h W'.h e X penv.locals → E (.ref e) (C.st W')) False r
structure RunS (W : Wd S) (t : Sem Flow) (r : RF (ES S) Fl) : Prop where
  go : Sat C F W → ∀ Q E, EnS C F penv W r Q E → wpC C.M F.A t Q E (C.st W)
structure HereS (n : Nat) (env : MEnv) (W : Wd S) : Prop where
  H : Here C F n penv env W
  top : Top1 penv F.envs
end
section
variable {S : Type} {C : Cst S} {F : Fr} {n : Nat} {penv : Env} {env : MEnv} {W W' W'' W0 : Wd S} {α β γ δ ε : Type} {ih : SemF S} {t : Sem β} {k : β → Sem Flow} {r : RF S α} {R : Rl S α β} {f : α → S → RF (ES S) Fl} {q : RF (ES S) Fl} {u : Sem Flow}
theorem HereS.nb (H : HereS C F penv n env W) (T : Sat C F W) : C.base.get? penv.locals = none := by
  refine ob_E H.top.hd fun outer e => ?_
  refine ob_AEEEEAA (T.frs penv (e ▸ .head _)) fun _u L o es ep f nb _u => ?_
  have z0 := H.top.fr.symm.trans f; injection z0 with z1; subst z1; exact nb
theorem Fut.frame (z : Fut C F [] W W') (R : ER C.p W'.h W'.ι penv env) : Fut C F [penv.locals] W W' := ⟨z.S0, z.S1, z.L.weaken fun a m => List.mem_singleton.mp m ▸ R.lo⟩
theorem Fut.doms (z : Fut C F [penv.locals] W W') (R : ER C.p W'.h W'.ι penv env) : Dom W.h W'.h := fun b o e => by
  by_cases q : b = penv.locals
  · refine ob_EA R.ns fun m z1 _u => ?_; refine ob_EEEA z1 fun o1 es ep e1 _u => ?_
    exact q ▸ ⟨o1, e1⟩
  · exact z.L.dom b o e fun m => q (List.mem_singleton.mp m)
theorem EnS.later {Q : Flow → Shared → Prop} {E : Value → Shared → Prop} (z : Fut C F [penv.locals] W W') (R : ER C.p W'.h W'.ι penv env) (p : EnS C F penv W q Q E) : EnS C F penv W' q Q E := by
  cases q with
  | ok fl x => exact fun W2 f e z2 => p W2 f e (z.trans z2)
  | exc X x => exact fun W2 e es z2 R2 x2 => p W2 e es (z.trans z2) R2 (x2.from (z.doms R))
  | bad => exact p
theorem RunS.bad : RunS C F penv W u .bad := ⟨fun _ _ _ p => p.elim⟩
theorem RunS.of {t : Sem Flow} (e : u = t) (h : RunS C F penv W t q) : RunS C F penv W u q := e ▸ h
theorem RunS.bt {c : Bool} {q' : RF (ES S) Fl} (h : c = true → RunS C F penv W u q) (h' : c = false → RunS C F penv W u q') : RunS C F penv W u (bt c q q') := by
  cases c with
  | false => exact h' rfl
  | true => exact h rfl
theorem RunS.oo {o : Option γ} {f : γ → RF (ES S) Fl} (h : ∀ v, o = some v → RunS C F penv W u (f v)) : RunS C F penv W u (oo .bad f o) := by
  cases o with
  | none => exact .bad
  | some v => exact h v rfl
theorem RunS.stand {p : Pos} {k : Unit → Sem Flow} (h : RunS C F penv W (k ()) q) : RunS C F penv W (standAt p >>= k) q := ⟨fun T Q E p => wpC_bind (wpC_standAt (h.go T Q E p))⟩
theorem RunS.pre {t : Sem ε} {k : ε → Sem Flow} (a : ε) (e : t = pure a) (h : RunS C F penv W (k a) q) : RunS C F penv W (t >>= k) q := ⟨fun T Q E p => by rw [e]; exact wpC_bind (wpC_pure (h.go T Q E p))⟩
theorem RunS.here {t : Sem γ} {k : γ → Sem Flow} (a : γ) (h : ∀ (Q : γ → Shared → Prop) E, Q a (C.st W) → wpAny C.M F.A t Q E (C.st W)) (h2 : RunS C F penv W (k a) q) : RunS C F penv W (t >>= k) q := ⟨fun T Q E p => wpC_bind (wpC_of (h _ E (h2.go T Q E p)))⟩
theorem RunS.hold1 {vs : List Value} {t : Sem δ} {k : δ → Sem Flow} (h : RunS C F penv W (t >>= k) q) : RunS C F penv W (PySem.holding vs t >>= k) q := ⟨fun T Q E p Γ pp hΓ kk => by
  have := h.go T Q E p Γ pp hΓ kk
  rw [Sem.wp_bind'] at this ⊢
  rw [Sem.wp_holding]; exact this⟩
theorem RunS.assoc {m : Sem γ} {k1 : γ → Sem δ} {k : δ → Sem Flow} (h : RunS C F penv W (m >>= fun a => k1 a >>= k) q) : RunS C F penv W ((m >>= k1) >>= k) q := .of (bind_assoc ..) h
theorem RunS.rel1 {vs ks : List Value} {k : Unit → Sem Flow} (h : RunS C F penv W (k ()) q) : RunS C F penv W (PySem.release vs ks >>= k) q := ⟨fun T Q E p => wpC_bind (wpC_release (h.go T Q E p))⟩
theorem RunS.pure {fl : Fl} {f : Flow} (R : ER C.p W.h W.ι penv env) (r : FlR C W fl f) : RunS C F penv W (pure f) (.ok fl ⟨env, W.σ⟩) := ⟨fun T Q E p => wpC_pure (p W f rfl ((Fut.refl T).frame R) R r)⟩
theorem RunS.re (h : Run C F W t r R) (H : Here C F n penv env W) (K : ∀ W' v y, Fut C F [] W W' → R W' v y → RunS C F penv W' (k y) (f v W'.σ)) : RunS C F penv W (t >>= k) (re env r f) := ⟨fun T Q E p => by
  refine wpC_bind (h.go T _ E ?_)
  cases r with
  | bad => exact p
  | exc X σ => exact fun W1 e es z x => p W1 e es (z.frame (H.on z).R) (H.on z).R x.xs
  | ok v σ => exact fun W1 y e z r1 => (K W1 v y z r1).go z.S1 Q E (EnS.later (z.frame (H.on z).R) (H.on z).R (by subst e; exact p))⟩
theorem re_tb (r : RF S V) (f : Bool → S → RF (ES S) Fl) : re env r (fun v s => vB .bad (fun b => f b s) v) = re env (tb r) f := by
  cases r with
  | ok v s => cases v <;> rfl
  | _ => rfl
theorem RunS.test {t : Sem Bool} {k : Bool → Sem Flow} {r : RF S V} {f : Bool → S → RF (ES S) Fl} (h : Run C F W t (tb r) BB) (H : Here C F n penv env W) (K : ∀ W' b, Fut C F [] W W' → RunS C F penv W' (k b) (f b W'.σ)) : RunS C F penv W (t >>= k) (Mine.re env r fun v s => vB .bad (fun b => f b s) v) :=
  re_tb r f ▸ .re h H fun W' b c z e => e ▸ K W' b z
theorem HereS.on (H : HereS C F penv n env W) (z : Fut C F [] W W') : HereS C F penv n env W' := ⟨H.H.on z, H.top⟩
theorem RunS.rs {t : Sem Flow} {k : Flow → Sem Flow} {f : ES S → RF (ES S) Fl} (h : RunS C F penv W t q) (kr : ∀ v, k (Flow.ret v) = Pure.pure (Flow.ret v)) (K : ∀ W' x, Fut C F [penv.locals] W W' → W'.σ = x.s → ER C.p W'.h W'.ι penv x.e → RunS C F penv W' (k .next) (f x)) : RunS C F penv W (t >>= k) (rs q f) := ⟨fun T Q E p => by
  refine wpC_bind (h.go T _ E ?_)
  cases q with
  | bad => exact p
  | exc X x => exact p
  | ok fl x =>
    cases fl with
    | next => exact fun W1 g e z R1 r1 => by rw [show g = _ from r1]; exact (K W1 x z e R1).go z.S1 Q E (EnS.later z R1 p)
    | ret v =>
      intro W1 g e z R1 r1
      have q1 := p W1 g e z R1 r1
      refine ob_EA r1 fun y z1 _u => ?_; subst z1
      rw [kr]; exact wpC_pure q1⟩
variable (C) in
def ExOk (ih : SemF S) (n : Nat) : Prop := ∀ F W penv env b, HereS C F penv n env W → RunS C F penv W (execs b penv) (ih.ex ⟨env, W.σ⟩ b)
variable (C F penv W ih) in
abbrev St1 (env : MEnv) (x : Stmt) : Prop := RunS C F penv W (exec x penv) ((cS C.D C.P x).run ih ⟨env, W.σ⟩)
theorem RunS.kS {c : Bool} {g : CS S} {x : ES S} (h : c = true → RunS C F penv W u (g.run ih x)) : RunS C F penv W u ((kS c g).run ih x) := by
  cases c with
  | false => exact .bad
  | true => exact h rfl
theorem execs_run (h1 : ∀ W env x, HereS C F penv n env W → St1 C F penv W ih env x) (b : List Stmt) : ∀ {W : Wd S} {env : MEnv}, HereS C F penv n env W → RunS C F penv W (execs b penv) ((cB C.D C.P b).run ih ⟨env, W.σ⟩) := by
  induction b with
  | nil => exact fun H => .of (arm_execs_nil penv) (.pure H.H.R rfl)
  | cons x b ihb =>
    intro W env H
    refine .of (arm_execs_cons x b penv) (.rs (h1 W env x H) (fun _ => rfl) fun W' x' z e R' => ?_)
    rw [show x' = ⟨x'.e, W'.σ⟩ by rw [e]]
    exact ihb ⟨⟨H.H.A, R'⟩, H.top⟩
theorem expr_st (hE : EvOk C ih n) (H : HereS C F penv n env W) (e : PySem.Expr) (q : Pos) : St1 C F penv W ih env (.Expr e q) := .kS fun nc => by
  have hi : interactive penv = false := by unfold interactive; rw [H.H.R.fn]; rfl
  have hs : swapsWith e none q.line penv = Pure.pure false := by cases e <;> first | rfl | injection nc
  refine .of (PySem.exec_Expr (env := penv) e q hi hs) (.stand (.re (hE F W penv env e H.H) H.H fun W1 v y z r => ?_))
  exact ⟨fun T Q E p => wpC_of (wpAny_dropValue (p W1 .next rfl ((Fut.refl T).frame (H.on z).H.R) (H.on z).H.R rfl))⟩
theorem ret_st (hE : EvOk C ih n) (H : HereS C F penv n env W) (e : PySem.Expr) (q : Pos) : St1 C F penv W ih env (.Return (some e) q) := by
  refine .of (arm_exec_Return ..) (.stand (.of (t := eval e penv >>= fun x => Pure.pure (.ret x)) rfl (.re (hE F W penv env e H.H) H.H fun W1 v y z r => ?_)))
  exact .pure (H.on z).H.R ⟨y, rfl, r⟩
theorem ret0_st (H : HereS C F penv n env W) (q : Pos) : St1 C F penv W ih env (.Return none q) := ⟨fun T Q E p => wpC_of (wpAny_Return_none (p W (.ret .none) rfl ((Fut.refl T).frame H.H.R) H.H.R ⟨.none, rfl, rfl⟩))⟩
theorem if_st (hT : TsOk C ih n) (hX : ExOk C ih n) (H : HereS C F penv n env W) (t : PySem.Expr) (a b : List Stmt) (q : Pos) : St1 C F penv W ih env (.If t a b q) := by
  refine .of (arm_exec_If ..) (.stand (.test (hT F W penv env t H.H) H.H fun W1 c z => ?_))
  cases c with
  | true => exact hX F W1 penv env a (H.on z)
  | false => exact hX F W1 penv env b (H.on z)
theorem place_st {t e : PySem.Expr} {pos : Pos} (h1 : swapsWith e (some t) pos.line penv = Pure.pure false) (h2 : swappedStores [t] e penv = Pure.pure none) (h3 : assignEach [t] penv = [(false, assign t penv)])
    (h : RunS C F penv W (eval e penv >>= fun v => assign t penv v >>= fun _ => Pure.pure Flow.next) q) : RunS C F penv W (exec (.Assign [t] e pos) penv) q := by
  refine .of (arm_exec_Assign ..) (.stand (.pre false h1 ?_))
  rw [if_neg Bool.false_ne_true]
  refine .of ?_ h
  refine congrArg (eval e penv >>= ·) (funext fun v => ?_)
  rw [h2, h3]
  rfl
theorem bind_run (H : HereS C F penv n env W) {t : PySem.Expr} {v : V} {y : Value} (r : VV C W v y) : RunS C F penv W (assign t penv y >>= fun _ => Pure.pure Flow.next) (bindF (cT t) v ⟨env, W.σ⟩) := .bt (fun hok => .oo fun vars e => ⟨fun T Q E p => by
  obtain ⟨g⟩ := tgt hok
  refine wpC_bind (wpC_of (assign_at (sc := env.sc) (vars := env.vars) H.H.A.hd T H.H.R (H.nb T) g hok r e fun W' e' s R' => wpC_pure ?_))
  exact p W' .next e' ⟨T, s.S1, s.L⟩ R' rfl⟩) fun _ => .bad
theorem asgN_st (hE : EvOk C ih n) (H : HereS C F penv n env W) (x : Str) (p : Pos) (e : PySem.Expr) (q : Pos) (nc : noComp e = true) :
    RunS C F penv W (exec (.Assign [.Name x p] e q) penv) (re env (ih.ev env W.σ e) fun v s => bindF (cT (.Name x p)) v ⟨env, s⟩) := by
  refine place_st (by cases e <;> first | rfl | injection nc) (by cases e <;> first | rfl | cases nc) rfl ?_
  exact .re (hE F W penv env e H.H) H.H fun W1 v y z r => bind_run (H.on z) r
theorem RunS.done (H : HereS C F penv n env W) : RunS C F penv W (Pure.pure Flow.next) (.ok .next ⟨env, W.σ⟩) := .pure H.H.R rfl
theorem RunS.last {t : Sem Unit} {r : RF S V} {g : Sem Unit} (h : Run C F W t r UU) (H : HereS C F penv n env W) : RunS C F penv W (t >>= fun _ => Pure.pure Flow.next) (Mine.re env r fun _ s => .ok .next ⟨env, s⟩) := .re h H.H fun W1 v y z _ => .done (H.on z)
end
end
end Mine
namespace Mine
open PySem PyProof.Rows PySem.W
open PySem.Builtin
noncomputable section
section
variable {S : Type} {C : Cst S} {F : Fr} {n : Nat} {penv : Env} {env : MEnv} {W W' W'' W0 : Wd S} {α β γ δ ε : Type} {ih : SemF S} {q : RF (ES S) Fl} {u : Sem Flow}
theorem asgA_st (O : Okay C) (hE : EvOk C ih n) (H : HereS C F penv n env W) (o : PySem.Expr) (x : Str) (p : Pos) (e : PySem.Expr) (q : Pos) : St1 C F penv W ih env (.Assign [.Attribute o x p] e q) := by
  refine place_st (by cases e <;> rfl) (by cases e <;> rfl) rfl ?_
  refine .re (hE F W penv env e H.H) H.H fun W1 v y z r => .of (congrArg (· >>= _) (arm_assign_Attribute o x p penv y)) ?_
  refine .assoc (.hold1 (.re (hE F W1 penv env o (H.on z).H) (H.on z).H fun W2 v2 y2 z2 r2 => .assoc (.stand (.assoc (.hold1 ?_)))))
  exact .re (seta_run O r2 (r.mono z2)) ((H.on z).on z2).H fun W3 _ _ z3 _ => .rel1 (.done (((H.on z).on z2).on z3))
theorem asgS_st (O : Okay C) (hE : EvOk C ih n) (H : HereS C F penv n env W) (o i : PySem.Expr) (p : Pos) (e : PySem.Expr) (q : Pos) : St1 C F penv W ih env (.Assign [.Subscript o i p] e q) := by
  refine place_st (by cases e <;> rfl) (by cases e <;> rfl) rfl ?_
  refine .re (hE F W penv env e H.H) H.H fun W1 v y z r => .of (congrArg (· >>= _) (arm_assign_Subscript o i p penv y)) ?_
  refine .assoc (.hold1 (.re (hE F W1 penv env o (H.on z).H) (H.on z).H fun W2 v2 y2 z2 r2 => .assoc (.hold1 ?_)))
  refine .re (hE F W2 penv env i ((H.on z).on z2).H) ((H.on z).on z2).H fun W3 v3 y3 z3 r3 => .assoc (.stand (.assoc (.hold1 ?_)))
  exact .re (seti_run O (r2.mono z3) r3 ((r.mono z2).mono z3)) (((H.on z).on z2).on z3).H fun W4 _ _ z4 _ => .rel1 (.done ((((H.on z).on z2).on z3).on z4))
theorem draw_list {prog : Program} {w : World} {A : Around} {E : Value → Shared → Prop} {it l : Addr} {items : Array Value} (hne : l ≠ it) (n : Nat) : ∀ (i : Nat) (s : Shared) (Q : List Value → Shared → Prop), s.heap.IsListIter it l i → s.heap.IsList l items → i + n ≤ items.size →
    (∀ h', h'.IsListIter it l (i + n) → Heap.SameBut it s.heap h' → Q ((items.toList.drop i).take n) { s with heap := h' }) → wpAny (model prog w) A (draw (.ref it) n) Q E s := by
  induction n with
  | zero => exact fun i s Q hit _ _ hQ => wpAny_pure (hQ s.heap hit (Heap.SameBut.refl ..))
  | succ n ih =>
    intro i s Q hit ht hle hQ
    have hlt : i < items.size := Nat.lt_of_lt_of_le (Nat.lt_add_of_pos_right (Nat.succ_pos n)) hle
    have e1 : i + 1 + n = i + (n + 1) := Nat.add_right_comm ..
    refine wpAny_bind (wpAny_pyNext_list_item hit ht (x := items[i]) (Array.getElem?_eq_getElem hlt) fun h₁ hit₁ hs₁ => ?_)
    refine wpAny_bind (wpAny_holding (ih (i + 1) _ _ hit₁ (ht.extBut hs₁.extBut hne) (e1 ▸ hle) fun h₂ hit₂ hs₂ => wpAny_pure ?_))
    have q := hQ h₂ (e1 ▸ hit₂) (hs₁.trans hs₂)
    rw [List.drop_eq_getElem_cons (l := items.toList) hlt, List.take_succ_cons] at q
    exact q
theorem unpackItems_list {prog : Program} {w : World} {A : Around} {E : Value → Shared → Prop} {s : Shared} {l : Addr} {items : Array Value} {Q : List Value → Shared → Prop} (hh : A.handled = none) (hl : s.heap.IsList l items)
    (hQ : ∀ h', Heap.ExtBut s.heap.objs.size s.heap h' → Q items.toList { s with heap := h' }) : wpAny (model prog w) A (unpackItems (.ref l) items.size none) Q E s := by
  have hlt : l ≠ s.heap.objs.size := by refine ob_EA hl fun o ho _u => ?_; exact Nat.ne_of_lt (Heap.lt_size ho)
  unfold unpackItems notIterableAtAll
  refine wpAny_bind (wpAny_bind (wpAny_specialOf hl.typeIs slot_list_iter.lookup (wpAny_pure ?_)))
  simp only [Bool.false_eq_true, if_false]
  refine wpAny_bind (wpAny_holding (wpAny_pyIter_list hl ?_))
  refine wpAny_bind (wpAny_holding (draw_list hlt items.size 0 _ _ ⟨_, Heap.get?_push_size _ rfl, rfl, rfl⟩ (hl.push _) (by omega) fun h₁ hit₁ hs₁ => ?_))
  rw [show List.take items.size (List.drop 0 items.toList) = items.toList by rw [List.drop_zero]; exact List.take_of_length_le (by simp), if_neg (by simp)]
  refine wpAny_bind (wpAny_holding (wpAny_pyNext_list_end hh hit₁ ((hl.push _).extBut hs₁.extBut hlt) (by simp) fun h₂ he₂ => ?_))
  simp only [Option.isSome_none, Bool.false_eq_true, if_false]
  exact wpAny_pure (hQ h₂ fun b o hb e => he₂ b o hb (hs₁.extBut b o hb (Heap.get?_push_of_some _ e)))
theorem unpack_at (hh : F.A.handled = none) (T : Sat C F W) {v : V} {y : Value} {l : List V} (r : VV C W v y) (e : asL C.D v W.σ = .tup l) : ∃ ws, VVL C W l ws ∧ ∀ {Q : List Value → Shared → Prop} {E}, (∀ h', Kp W.h h' → Q ws (C.sh h' W.tk)) → wpAny C.M F.A (unpackItems y (lenF l) none) Q E (C.st W) := by
  have kk : ∀ {h'}, Heap.ExtBut W.h.objs.size W.h h' → Kp W.h h' := fun ext b o e => ext b o (Nat.ne_of_lt (Heap.lt_size e)) e
  cases v with
  | tup l' =>
    injection e with z1; subst z1
    refine ob_EEAA r fun a ws z1 t rl => ?_; subst z1
    exact ⟨ws, rl, fun {Q E} hQ => VVL.size rl ▸ wpAny_unpackItems_tuple (s := C.st W) (items := ws.toArray) hh t fun h' ex => hQ h' (kk ex)⟩
  | obj i =>
    refine ob_EEA r fun a d pl z1 => ?_; subst z1
    change oL (V.obj i) (fun l => V.tup l) (C.D.look W.σ i) = V.tup l at e
    cases hl : C.D.look W.σ i with
    | none => rw [hl] at e; injection e
    | some o =>
      rw [hl] at e
      cases o with
      | list l' =>
        injection e with z1; subst z1
        refine ob_EEAAEEA (T.objs i _ hl) fun a' d' e' _u n ws g rl => ?_
        refine ob_A (pl.fn e') fun z1 _u => ?_; subst z1
        exact ⟨ws, rl, fun {Q E} hQ => VVL.size rl ▸ unpackItems_list (s := C.st W) (items := ws.toArray) hh ⟨_, g, rfl, n, rfl⟩ fun h' ex => hQ h' (kk ex)⟩
      | _ => injection e
  | _ => injection e
theorem ats_run (O : Okay C) (hE : EvOk C ih n) (os : List PySem.Expr) : ∀ {W : Wd S} {vs : List V} {ws : List Value}, HereS C F penv n env W → VVL C W vs ws → RunS C F penv W (assignInOrder ((assignEach os penv).map (·.2)) ws >>= fun _ => Pure.pure Flow.next) (atsF C.D C.P os ih env vs W.σ) := by
  induction os with
  | nil =>
    intro W vs ws H r
    cases vs with
    | nil => rw [show ws = [] from r]; exact .pre () rfl (.done H)
    | cons _ _ => exact .bad
  | cons o os ih' =>
    intro W vs ws H r
    cases vs with
    | nil => exact .bad
    | cons v vs =>
      refine ob_EEAA (VRL.cons_inv r) fun y ws z1 r1 r2 => ?_; subst z1
      cases o with
      | Attribute o x p =>
        refine .of (t := (PySem.holding ws (assign (.Attribute o x p) penv y) >>= fun _ => assignInOrder ((assignEach os penv).map (·.2)) ws) >>= fun _ => Pure.pure Flow.next) rfl ?_
        rw [arm_assign_Attribute]
        refine .assoc (.hold1 (.assoc (.hold1 (.re (hE F W penv env o H.H) H.H fun W2 v2 y2 z2 rr => .assoc (.stand (.assoc (.hold1 ?_)))))))
        exact .re (seta_run O rr (VV.mono r1 z2)) (H.on z2).H fun W3 _ _ z3 _ => .rel1 (ih' ((H.on z2).on z3) (VVL.mono (VVL.mono r2 z2) z3))
      | _ => exact .bad
theorem swapped_none {o : PySem.Expr} {os : List PySem.Expr} {k : Nat} {p : Pos} (h : isName o = false) (e : PySem.Expr) : swappedStores [.Tuple (o :: os) k p] e penv = Pure.pure none := by
  cases e <;> try rfl
  rename_i es k' q'
  have hn : ∀ (f : PySem.Expr → Option PySem.Str), f o = none → ((((o :: os).filterMap f).length != (o :: os).length || ((o :: os).filterMap f).eraseDups.length != ((o :: os).filterMap f).length) = true) := fun f e => by
    rw [List.filterMap_cons, e]
    have : ((os.filterMap f).length != (o :: os).length) = true := bne_iff_ne.mpr (Nat.ne_of_lt (Nat.lt_succ_of_le (List.length_filterMap_le ..)))
    rw [this]; rfl
  unfold swappedStores
  dsimp only
  split
  · rfl
  · split
    · rfl
    · rw [if_pos (hn _ (by cases o <;> first | rfl | injection h))]
end
end
end Mine
namespace Mine
open PySem PyProof.Rows PySem.W
open PySem.Builtin
noncomputable section
section
variable {S : Type} {C : Cst S} {F : Fr} {n : Nat} {penv : Env} {env : MEnv} {W W' W'' W0 : Wd S} {α β γ δ ε : Type} {ih : SemF S} {q : RF (ES S) Fl} {u : Sem Flow}
theorem CS.bt_run {c : Bool} {g g' : CS S} {x : ES S} (h : c = true → RunS C F penv W u (g.run ih x)) (h' : c = false → RunS C F penv W u (g'.run ih x)) : RunS C F penv W u ((Mine.bt c g g').run ih x) := by
  cases c with
  | false => exact h' rfl
  | true => exact h rfl
theorem each_plain (os : List PySem.Expr) (h : allF noStar os = true) : (assignEach os penv).findIdx? (·.1) = none ∧ (assignEach os penv).length = lenF os := by
  induction os with
  | nil => exact ⟨rfl, rfl⟩
  | cons o os ih =>
    refine ob_A (allF_cons h) fun h1 h2 => ?_
    refine ob_A (ih h2) fun i1 i2 => ?_
    have e : assignEach (o :: os) penv = (false, assign o penv) :: assignEach os penv := by cases o <;> first | rfl | injection h1
    rw [e]
    exact ⟨by rw [List.findIdx?_cons, i1]; rfl, congrArg Nat.succ i2⟩
theorem asgAs_st (O : Okay C) (hE : EvOk C ih n) (H : HereS C F penv n env W) (o : PySem.Expr) (os : List PySem.Expr) (k : Nat) (p : Pos) (e : PySem.Expr) (q : Pos) (hn : isName o = false) (hs : allF noStar (o :: os) = true) (nc : noComp e = true) :
    RunS C F penv W (exec (.Assign [.Tuple (o :: os) k p] e q) penv) (re env (ih.ev env W.σ e) fun v s => vT .bad (fun vs => Mine.bt (Nat.beq (lenF vs) (lenF (o :: os))) (atsF C.D C.P (o :: os) ih env vs s) .bad) v) := by
  refine place_st (by cases e <;> first | rfl | cases nc) (swapped_none hn e) rfl ?_
  refine .re (hE F W penv env e H.H) H.H fun W1 v y z r => ?_
  cases v <;> first | exact .bad | skip
  rename_i l
  refine .bt (fun hl => ?_) fun _ => .bad
  have hl := Nat.eq_of_beq_eq_true hl
  refine ob_A (each_plain (penv := penv) (o :: os) hs) fun e1 e2 => ?_
  rw [arm_assign_Tuple]
  refine .assoc (.stand ?_)
  unfold unpack
  rw [e1, e2, ← hl]
  refine .assoc (.hold1 ⟨fun T Q E pp => ?_⟩)
  refine ob_EA (unpack_at (W := W1) H.H.A.hd T r rfl) fun ws rl hu => ?_
  refine wpC_bind (wpC_of (hu fun h2 k2 => ?_))
  have z2 : Fut C F [] W1 { W1 with h := h2 } := Fut.grow T k2
  exact (ats_run (W := { W1 with h := h2 }) O hE (o :: os) ((H.on z).on z2) (VVL.mono rl z2)).go z2.S1 Q E (EnS.later (z2.frame ((H.on z).on z2).H.R) ((H.on z).on z2).H.R pp)
theorem names_st (hh : F.A.handled = none) (H : HereS C F penv n env W) {v : V} {y : Value} {es : List PySem.Expr} {k : Nat} {p : Pos} (r : VV C W v y) : RunS C F penv W (assign (.Tuple es k p) penv y >>= fun _ => Pure.pure Flow.next) (bindF (cT (.Tuple es k p)) (asL C.D v W.σ) ⟨env, W.σ⟩) := .bt (fun hok => .oo fun vars e => ⟨fun T Q E pp => by
  obtain ⟨g⟩ := tgt hok
  cases g with
  | many es k p xs hx =>
    have ec : cT (.Tuple es k p) = ⟨fun v vars => vT none (fun vs => putL xs vs vars) v, fun sc => locals sc xs⟩ := (congrArg (fun o => oo _ _ o) hx : _)
    rw [ec] at e hok
    refine ob_EA (vT_some e) fun l el e => ?_
    refine ob_EA (unpack_at hh T r el) fun ws rl hu => ?_
    refine ob_A (names_each (penv := penv) es hx) fun n1 n2 => ?_
    rw [arm_assign_Tuple]
    refine wpC_of (wpAny_bind (wpAny_bind (wpAny_standAt ?_)))
    unfold unpack
    rw [n1, n2, putL_len' xs e]
    refine wpAny_bind (wpAny_holding (hu fun h2 k2 => ?_))
    have z : Fut C F [] W { W with h := h2 } := Fut.grow T k2
    exact stores_at (sc := env.sc) (W := { W with h := h2 }) (H.nb T) es hx z.S1 (H.H.R.mono T z.L) hok (VVL.mono rl z) e fun W' e' s R' => wpAny_pure (pp W' .next e' ((z.frame (H.on z).H.R).trans ⟨s.S0, s.S1, s.L⟩) R' rfl)⟩) fun _ => .bad
theorem asgC_st (O : Okay C) (hE : EvOk C ih n) (hT : TsOk C ih n) (H : HereS C F penv n env W) (x : Str) (p : Pos) (elt : PySem.Expr) (gens : List Comprehension) (sc : Scope) (pos q : Pos) :
    RunS C F penv W (exec (.Assign [.Name x p] (.ListComp elt gens sc pos) q) penv) (re env ((cLc C.D elt gens sc).run ih env W.σ) fun v s => bindF (cT (.Name x p)) v ⟨env, s⟩) := by
  have hb : ∃ b, swapsWith (.ListComp elt gens sc pos) (some (.Name x p)) q.line penv = Pure.pure b := ⟨_, rfl⟩
  refine ob_E hb fun b hb => ?_
  cases b with
  | false => exact place_st hb rfl rfl (.re (lcomp_ev O hE hT H.H elt gens sc pos) H.H fun W1 v y z r => bind_run (H.on z) r)
  | true =>
    refine .of (PySem.exec_Assign_Name_used (env := penv) x p _ q hb) (.stand ⟨fun T Q E pp => wpC_bind ?_⟩)
    refine wpC_bind (wpC_monoQ (lcomp_use (Q := fun _ s' => Q .next s') O hE hT H.H elt gens sc pos T ?_) fun _ s' hq => wpC_pure (wpC_pure hq))
    cases hr : (cLc C.D elt gens sc).run ih env W.σ with
    | bad => rw [hr] at pp; exact pp
    | exc X s => rw [hr] at pp; exact fun W1 e es z x => pp W1 e es (z.frame (H.on z).H.R) (H.on z).H.R x.xs
    | ok v s =>
      rw [hr] at pp
      intro W1 a es z ⟨r, l, ⟨m, hn⟩, f, nf⟩
      change EnS C F penv W (Mine.bt (isLo (lukS env.sc (kc x))) (.ok .next ⟨⟨env.sc, put env.vars (kc x) v⟩, s⟩) .bad) Q E at pp
      cases hl : isLo (lukS env.sc (kc x)) with
      | false => rw [hl] at pp; exact pp.elim
      | true =>
        rw [hl] at pp
        have R1 := (H.on z).H.R
        have ne : penv.locals ≠ a.2 := fun q => by
          refine ob_EA H.H.R.ns fun _u z1 _u => ?_; refine ob_EEEA z1 fun o _u _u e0 _u => ?_
          rw [← q] at f; exact nomatch f.symm.trans e0
        refine wpC_of (wpAny_assign_Name (store_at (sc := env.sc) (vars := env.vars) z.S1 R1 (H.nb T) hl r fun W2 e2 s2 R2 => ?_))
        refine ⟨m, (ob_EEEA (hn) fun o es ep e0 r0 => ⟨o, es, ep, s2.k _ o ne.symm e0, r0⟩), fun h3 hs => ?_⟩
        have s3 : Step C F a.2 W2 { W2 with h := h3, tk := W2.tk } := .of s2.S1 (l.step s2 ne.symm) hs.extBut fun m => absurd m nf
        exact pp { W2 with h := h3 } .next (e2.trans es) (s3.fut ((z.frame R1).trans ⟨s2.S0, s2.S1, s2.L⟩) f) (R2.step s3 ne) rfl
end
end
end Mine
namespace Mine
open PySem PyProof.Rows PySem.W
open PySem.Builtin
noncomputable section
section
variable {S : Type} {C : Cst S} {F : Fr} {n : Nat} {penv : Env} {env : MEnv} {W W' W'' W0 : Wd S} {α β γ δ ε : Type} {ih : SemF S} {q : RF (ES S) Fl} {u : Sem Flow}
theorem filt2 {x y : Str} {a b : PySem.Expr} (f : PySem.Expr → Option Str) (h1 : f a = some x) (h2 : f b = some y) : [a, b].filterMap f = [x, y] := by
  rw [List.filterMap_cons, h1, List.filterMap_cons, h2]; rfl
theorem all2 {a b : PySem.Expr} (f : PySem.Expr → Bool) (h : f b = false) : [a, b].all f = false := by
  rw [List.all_cons, List.all_cons, h, Bool.false_and, Bool.and_false]
theorem any2 {a b : PySem.Expr} (f : PySem.Expr → Bool) (h1 : f a = false) (h2 : f b = false) : [a, b].any f = false := by
  rw [List.any_cons, List.any_cons, h1, h2]; rfl
theorem swapped_two {x y : Str} {p1 p2 q q' : Pos} {k k' : Nat} {X Y : PySem.Expr} (hk1 : penv.kindOf x = some .local) (hk2 : penv.kindOf y = some .local) (hl : p1.line = p2.line) (ne : (y == x) = false) (fn : penv.blockKind = .function)
    (hB : foldedForSure 8 Y = false) (hB2 : constantsAlone 8 Y = false) (sX : noStar X = true) (sY : noStar Y = true) :
    swappedStores [.Tuple [.Name x p1, .Name y p2] k q] (.Tuple [X, Y] k' q') penv = Pure.pure (some [x, y]) := by
  have c1 : (penv.kindOf x == some .local && p1.line == p1.line) = true := by rw [hk1, beq_self_eq_true, beq_self_eq_true]; rfl
  have c2 : (penv.kindOf y == some .local && p2.line == p1.line) = true := by rw [hk2, hl, beq_self_eq_true, beq_self_eq_true]; rfl
  unfold swappedStores
  dsimp only
  rw [fn]
  refine (if_neg (fun q => nomatch q)).trans ((if_neg ?_).trans ((if_neg ?_).trans ((if_neg ?_).trans ((if_neg ?_).trans ?_))))
  · rw [any2 _ (by cases X <;> first | rfl | injection sX) (by cases Y <;> first | rfl | injection sY)]; exact Bool.false_ne_true
  · rw [filt2 (x := x) (y := y)]
    · rw [List.eraseDups_cons, List.filter_cons, ne]; exact Bool.false_ne_true
    · show (if (penv.kindOf x == some .local && p1.line == p1.line) = true then some x else none) = _
      rw [if_pos c1]
    · show (if (penv.kindOf y == some .local && p2.line == p1.line) = true then some y else none) = _
      rw [if_pos c2]
  · rw [all2 _ hB]; exact Bool.false_ne_true
  · rw [all2 _ hB2]; exact Bool.false_ne_true
  · rw [filt2 (x := x) (y := y)]
    · show (if (penv.kindOf x == some .local && p1.line == p1.line) = true then some x else none) = _
      rw [if_pos c1]
    · show (if (penv.kindOf y == some .local && p2.line == p1.line) = true then some y else none) = _
      rw [if_pos c2]
theorem nmE_some {e : PySem.Expr} {y : Str × Pos} (h : nmE e = some y) : e = .Name y.1 y.2 := by cases e <;> cases h; rfl
theorem tupE_some {e : PySem.Expr} {vs : List PySem.Expr} (h : tupE e = some vs) : ∃ k p, e = .Tuple vs k p := by cases e <;> cases h; exact ⟨_, _, rfl⟩
theorem blE_some {e l : PySem.Expr} (h : blE e = some l) : ∃ o r p, e = .BinOp l o r p := by cases e <;> cases h; exact ⟨_, _, _, rfl⟩
theorem swapped_plain {t e : PySem.Expr} (h : tupE e = none) (ht : ∃ es k p, t = .Tuple es k p) : swappedStores [t] e penv = Pure.pure none := by
  refine ob_EEE ht fun es k p z1 => ?_; subst z1
  cases e <;> first | rfl | injection h
theorem call_const {e : PySem.Expr} (h : Nat.beq (xk e) 16 = true) : foldedForSure 8 e = false ∧ constantsAlone 8 e = false := by cases e <;> first | exact ⟨rfl, rfl⟩ | injection h
theorem notConst_ok {b : PySem.Expr} (h : notConst b = true) : foldedForSure 8 b = false ∧ constantsAlone 8 b = false := by
  unfold notConst at h
  cases hx : Nat.beq (xk b) 16 with
  | true => exact call_const hx
  | false =>
    rw [hx] at h
    refine ob_EA (oo_true (show oo false (fun l => oo false (fun x => not (Nat.beq (kc x.1) kDebug)) (nmE l)) (blE b) = true from h)) fun l h1 h => ?_
    refine ob_EEE (blE_some h1) fun o r p z1 => ?_; subst z1
    refine ob_EA (oo_true h) fun x h2 h => ?_
    have z0 := nmE_some h2; subst z0
    refine ⟨rfl, ?_⟩
    show ((x.1 == ("__debug__" : Str)) && constantsAlone 7 r) = false
    rw [show (x.1 == ("__debug__" : Str)) = false from (kc_beq _ _).symm.trans (not_true h)]; rfl
theorem ER.ext {sc : List (Str × NameKind)} {vars vars' : List (Nat × V)} (e : ∀ x, luk vars x = luk vars' x) (R : ER C.p W.h W.ι penv ⟨sc, vars⟩) : ER C.p W.h W.ι penv ⟨sc, vars'⟩ := by
  refine ob_EA R.ns fun m hn hv => ?_
  exact ⟨R.fn, R.gl, R.bi, R.sc, R.lo, m, hn, fun x v q => hv x v ((e _).trans q)⟩
theorem luk_put2 {vars : List (Nat × V)} {x y : Nat} {u v : V} (ne : Nat.beq x y = false) (z : Nat) : luk (put (put vars y v) x u) z = luk (put (put vars x u) y v) z := by
  rw [luk_put, luk_put, luk_put, luk_put]
  cases h1 : Nat.beq x z with
  | false => rfl
  | true =>
    have z0 := Nat.eq_of_beq_eq_true h1; subst z0
    rw [show Nat.beq y x = false from Bool.eq_false_iff.mpr fun q => by have z0 := Nat.eq_of_beq_eq_true q; subst z0; rw [Nat.beq_refl] at ne; cases ne]; rfl
theorem asgT_swap (hE : EvOk C ih n) (H : HereS C F penv n env W) {x y : Str} {p1 p2 p p' q : Pos} {k k' : Nat} {a b : PySem.Expr} (ol : p1.line = p2.line) (oxy : Nat.beq (kc x) (kc y) = false) (sa : noStar a = true) (sb : noStar b = true) (ob : notConst b = true) :
    RunS C F penv W (exec (.Assign [.Tuple [.Name x p1, .Name y p2] k p] (.Tuple [a, b] k' p') q) penv) (re env (ih.ev env W.σ (.Tuple [a, b] k' p')) fun v s => bindF (cT (.Tuple [.Name x p1, .Name y p2] k p)) (asL C.D v s) ⟨env, s⟩) := by
  refine .of (arm_exec_Assign ..) (.stand (.pre false rfl ?_))
  rw [if_neg Bool.false_ne_true]
  refine .re (hE F W penv env _ H.H) H.H fun W1 v yv z r => .bt (fun hok => .oo fun vars e => ?_) fun _ => .bad
  have R1 := (H.on z).H.R
  refine ob_A (allF_cons (show allF (fun x => isLo (lukS env.sc (kc x))) [x, y] = true from hok)) fun lx lr => ?_
  refine ob_A (allF_cons lr) fun ly _u => ?_
  refine ob_A (notConst_ok ob) fun fb cb => ?_
  have bk : penv.blockKind = .function := by unfold Env.blockKind; rw [R1.fn]; rfl
  have kx : ∀ {x}, isLo (lukS env.sc (kc x)) = true → penv.kindOf x = some .local := fun h => (R1.sc _).1 ((lukS_eq _ _).symm.trans (isLo_eq h))
  rw [swapped_two (kx lx) (kx ly) ol ((BEq.comm ..).trans ((kc_beq x y).symm.trans oxy)) bk fb cb sa sb]
  refine .pre _ rfl ⟨fun T Q E pp => ?_⟩
  refine ob_EA (vT_some (show vT none (fun vs => putL [x, y] vs env.vars) (asL C.D v W1.σ) = some vars from e)) fun l el e => ?_
  refine ob_EA (unpack_at H.H.A.hd T r el) fun ws rl hu => ?_
  rcases l with _ | ⟨v1, _ | ⟨v2, _ | _⟩⟩ <;> cases e
  obtain ⟨w1, ws, rfl, ru, rl⟩ := VRL.cons_inv rl
  obtain ⟨w2, ws, rfl, rv, rl⟩ := VRL.cons_inv rl
  have z0 := (show ws = [] from rl); subst z0
  refine wpC_bind (wpC_rule (wpC_bind (wpC_of (hu fun h2 k2 => ?_))))
  have z2 : Fut C F [] W1 { W1 with h := h2 } := Fut.grow T k2
  have R2 := ((H.on z).on z2).H.R
  refine wpC_bind (wpC_of (wpAny_assignInOrder_more (wpAny_bindName (store_at (W := { W1 with h := h2 }) (sc := env.sc) (vars := env.vars) z2.S1 R2 (H.nb z.S0) ly (VV.mono rv z2) fun W3 e3 s3 R3 => ?_))))
  refine wpAny_assignInOrder_more (wpAny_bindName (store_at s3.S1 R3 (H.nb z.S0) lx (VV.step (VV.mono ru z2) s3) fun W4 e4 s4 R4 => wpAny_assignInOrder_none (wpC_pure ?_)))
  have s34 := s3.trans s4
  exact pp W4 .next (e4.trans e3) ((z2.frame R2).trans ⟨s34.S0, s34.S1, s34.L⟩) (R4.ext (luk_put2 oxy)) rfl
theorem bt_f {c d : Bool} (h : bt c false d = true) : c = false ∧ d = true := by cases c <;> first | exact ⟨rfl, h⟩ | injection h
theorem swaps_no {t e : PySem.Expr} {n : Nat} (h : noComp e = true) : swapsWith e (some t) n penv = Pure.pure false := by cases e <;> first | rfl | injection h
theorem l2_true {α : Type} {f : α → α → Bool} {l : List α} (h : l2 false f l = true) : ∃ a b, l = [a, b] ∧ f a b = true := by
  rcases l with _ | ⟨a, _ | ⟨b, _ | _⟩⟩ <;> first | injection h | exact ⟨a, b, rfl, h⟩
theorem asgT_st (hE : EvOk C ih n) (H : HereS C F penv n env W) (es : List PySem.Expr) (k : Nat) (p : Pos) (e : PySem.Expr) (q : Pos) (ok : asgOk (.Tuple es k p) e = true) :
    RunS C F penv W (exec (.Assign [.Tuple es k p] e q) penv) (re env (ih.ev env W.σ e) fun v s => bindF (cT (.Tuple es k p)) (asL C.D v s) ⟨env, s⟩) := by
  unfold asgOk at ok
  cases hv : tupE e with
  | none =>
    rw [hv] at ok
    have nc : noComp e = true := ok
    exact place_st (swaps_no nc) (swapped_plain hv ⟨_, _, _, rfl⟩) rfl (.re (hE F W penv env e H.H) H.H fun W1 v y z r => names_st H.H.A.hd (H.on z) r)
  | some vs =>
    rw [hv] at ok
    refine ob_EE (tupE_some hv) fun k' p' z1 => ?_; subst z1
    refine ob_EEA (l2_true ok) fun a b z1 ok => ?_; subst z1
    refine ob_EEA (l2_true (show l2 false _ es = true from ok)) fun u v z1 ok => ?_; subst z1
    refine ob_EA (oo_true ok) fun x hx ok => ?_
    refine ob_EA (oo_true ok) fun y hy ok => ?_
    have z0 := nmE_some hx; subst z0
    have z0 := nmE_some hy; subst z0
    refine ob_A (btt ok) fun h1 ok => ?_
    refine ob_A (bt_f ok) fun h2 ok => ?_
    refine ob_A (btt ok) fun h3 ok => ?_
    refine ob_A (btt ok) fun h4 h5 => ?_
    exact asgT_swap hE H (Nat.eq_of_beq_eq_true h1) h2 h3 h4 h5
end
end
end Mine
namespace Mine
open PySem PyProof.Rows PySem.W
open PySem.Builtin
noncomputable section
def minus (X : List Addr) (h : Heap) : Heap := { h with objs := (Array.range h.objs.size).map fun i => if i ∈ X then { cls := .none, data := .freed } else (h.objs[i]?).getD default }
theorem minus_get {X : List Addr} {h : Heap} {a : Addr} : (minus X h).get? a = if a ∈ X then none else h.get? a := by
  unfold minus Heap.get?
  by_cases q : a < h.objs.size
  · rw [Array.getElem?_map, Array.getElem?_range, if_pos q]
    simp only [Option.map_some]
    by_cases m : a ∈ X
    · simp [m]
    · simp [m, q]
  · have h1 : h.objs[a]? = none := Array.getElem?_eq_none (Nat.le_of_not_lt q)
    rw [Array.getElem?_map, Array.getElem?_range, if_neg q, h1]
    simp
theorem minus_stays (X : List Addr) (h : Heap) : (minus X h).StaysIn h := fun b o e => by
  rw [minus_get] at e
  split at e
  · injection e
  · exact e
def XC (h₀ h : Heap) (e X L : Addr) : Prop := h₀.get? e = none ∧ ∃ a0, h.TracedAtW h₀ e (.ref X) a0 (rawInt L)
section
variable {S : Type} (C : Cst S) (F : Fr)
structure Noted (Y : List Addr) (W W' : Wd S) : Prop where
  S0 : Sat C F W
  S1 : Sat C F W'
  eι : W'.ι = W.ι
  L : Lat Y F.envs W.ι W'.ι W.h W'.h
  rc : ∀ b ∈ Y, ∀ o, W.h.get? b = some o → ∃ vs, o.data = .fields vs
end
section
variable {S : Type} {C : Cst S} {F : Fr} {n : Nat} {penv : Env} {env : MEnv} {W W' W'' W0 : Wd S} {Y X : List Addr} {h' h₀ : Heap} {e D : Addr}
theorem Noted.noTup (c : Noted C F Y W W') : NoTup Y W.h := fun a m ws t => by
  refine ob_EAAE t fun o' e' _u n d' => ?_
  refine ob_E (c.rc a m _ e') fun vs d => ?_
  exact nomatch d'.symm.trans d
theorem ER.noted (R : ER C.p W.h W.ι penv env) (c : Noted C F Y W W') : ER C.p W'.h W'.ι penv env :=
  R.monoX c.S0 c.L c.noTup (fun a m o e v q => by refine ob_E (c.rc a m o e) fun vs d => ?_; exact nomatch d.symm.trans q) fun m => by
    refine ob_EA R.ns fun _u z1 _u => ?_; refine ob_EEEAA z1 fun o es ep e d _u => ?_
    refine ob_E (c.rc _ m o e) fun vs d' => ?_
    exact nomatch d.symm.trans d'
theorem Fut.noted (z : Fut C F X W0 W) (f : ∀ b ∈ Y, W0.h.get? b = none) (c : Noted C F Y W W') (xs : ∀ a ∈ X, ¬ Own W'.ι a) : Fut C F X W0 W' := by
  have ne : ∀ b o, W0.h.get? b = some o → b ∉ Y := fun b o e q => nomatch (f b q).symm.trans e
  have no : ∀ {b o}, W0.h.get? b = some o → ¬ Own W0.ι b → ¬ Own W.ι b := fun e n m => nomatch e.symm.trans (z.L.new _ m n)
  refine ⟨z.S0, c.S1, fun i a d e => ?_, fun a m n => ?_, fun b o e n nx nf => c.L.keep b o (z.L.keep b o e n nx nf) (no e n) (ne b o e) nf, fun b o e q n nx => ?_, fun b o e nx => ?_, xs⟩
  · refine ob_EA (z.L.ext i a d e) fun d' e' q => ?_
    refine ob_EA (c.L.ext i a d' e') fun d2 e2 q2 => ?_
    exact ⟨d2, e2, q.elim .inl fun q => q ▸ q2⟩
  · exact z.L.new a (c.eι ▸ m) n
  · refine ob_E (z.L.frk b o e q n nx) fun sl e' => ?_
    refine ob_E (c.L.frk b _ e' q (no e n) (ne b o e)) fun sl' e2 => ?_
    exact ⟨sl', e2⟩
  · refine ob_E (z.L.dom b o e nx) fun o' e' => ?_
    exact c.L.dom b o' e' (ne b o e)
theorem funFrames {b : Heap} (l : List Env) (f : ∀ env ∈ l, Frm C.base W.ι W.h env) (g : ∀ a ∈ fadr l, b.get? a = none) : W.h.FunFrames b l := by
  induction l with
  | nil => trivial
  | cons e l ih =>
    refine ob_AEEEEAAAA (f e (.head _)) fun a L o es ep h1 h2 h3 h4 h5 => ?_
    refine ⟨a, ⟨L, o, h1, g L (List.mem_filterMap.mpr ⟨e, .head _, h1⟩), h3, fun vs q => nomatch h4.symm.trans q⟩, ih (fun x m => f x (.tail _ m)) fun a m => g a ?_⟩
    refine ob_EA (List.mem_filterMap.mp m) fun x m1 m2 => ?_
    exact List.mem_filterMap.mpr ⟨x, .tail _ m1, m2⟩
theorem Sat.frame_at (T : Sat C F W) {a : Addr} (m : a ∈ fadr F.envs) : ∃ o es ep, W.h.get? a = some o ∧ o.data = .dict es ep ∧ C.base.get? a = none ∧ ¬ Own W.ι a := by
  refine ob_EA (List.mem_filterMap.mp m) fun env m b => ?_
  refine ob_AEEEEAAAA (T.frs env m) fun _u L o es ep b' c d e f => ?_
  have z0 := b.symm.trans b'; injection z0 with z1; subst z1
  exact ⟨o, es, ep, d, e, c, f⟩
structure Recs (C : Cst S) (F : Fr) (h₀ : Heap) (W : Wd S) (Y : List Addr) : Prop where
  T : Sat C F W
  dom : Dom h₀ W.h
  hb : ∀ b, h₀.get? b = none → C.base.get? b = none
  yn : ∀ b ∈ Y, h₀.get? b = none
  rc : ∀ b ∈ Y, ∀ o, W.h.get? b = some o → ∃ vs, o.data = .fields vs
theorem Recs.noted (r : Recs C F h₀ W Y) (k : (minus (fadr F.envs ++ Y) W.h).StaysIn h') (u : ∀ b o, W.h.get? b = some o → (∀ vs, o.data ≠ .fields vs) → ∃ sl, h'.get? b = some { o with slots := sl }) {tk : Nat} : Noted C F Y W { W with h := h', tk := tk } := by
  have T := r.T
  have yo : ∀ a ∈ Y, ¬ Own W.ι a := fun a m q => by
    refine ob_EA (T.odd q) fun o' e' od => ?_
    refine ob_E (r.rc a m _ e') fun vs d => ?_
    exact od.fld vs d
  have st : ∀ b o, W.h.get? b = some o → b ∉ Y → b ∉ fadr F.envs → h'.get? b = some o := fun b o e ny nf => k b o (by rw [minus_get, if_neg fun m => (List.mem_append.mp m).elim nf ny]; exact e)
  have fr : ∀ b o, W.h.get? b = some o → b ∈ fadr F.envs → ∃ sl, h'.get? b = some { o with slots := sl } := fun b o e f => u b o e fun vs q => by
    refine ob_EEEAA (T.frame_at f) fun o' _u _u e' d _u => ?_
    have z0 := e.symm.trans e'; injection z0 with z1; subst z1; exact nomatch d.symm.trans q
  have L : Lat Y F.envs W.ι W.ι W.h h' := ⟨fun _ _ d e => ⟨d, e, .inr rfl⟩, fun _ m n => absurd m n, fun b o e _ nx nf => st b o e nx nf, fun b o e f _ _ => fr b o e f, fun b o e nx => by
    by_cases f : b ∈ fadr F.envs
    · refine ob_E (fr b o e f) fun sl e' => ?_; exact ⟨_, e'⟩
    · exact ⟨o, st b o e nx f⟩, yo⟩
  have nt : NoTup Y W.h := fun a m ws t => by
    refine ob_EAAE t fun o' e' _u n d' => ?_
    refine ob_E (r.rc a m _ e') fun vs d => ?_
    exact nomatch d'.symm.trans d
  have same : ∀ {i a d}, Pl W.ι i a d → ∀ b, (b = a ∨ d = some b) → h'.get? b = W.h.get? b := fun e b q => by
    refine ob_EA (T.odd ⟨_, _, _, e, q⟩) fun o e' _u => ?_
    rw [e']; exact st b o e' (fun z => yo b z ⟨_, _, _, e, q⟩) fun f => let ⟨_, _, _, _, _, _, no⟩ := T.frame_at f; no ⟨_, _, _, e, q⟩
  refine ⟨T, ⟨fun b o e => st b o (T.stays b o e) (fun q => nomatch (r.hb b (r.yn b q)).symm.trans e) (fun f => let ⟨_, _, _, _, _, nn, _⟩ := T.frame_at f; (nomatch nn.symm.trans e)), fun env m => ?_, T.len, fun i mo e => ?_, fun i a d e => ?_, T.apart, T.fresh, T.sysm⟩, rfl, L, r.rc⟩
  · refine ob_AEEEEAAAA (T.frs env m) fun c L o es ep b c' d' e f => ?_
    refine ob_E (fr L o d' (List.mem_filterMap.mpr ⟨env, m, b⟩)) fun sl e' => ?_
    exact ⟨c, L, _, es, ep, b, c', e', e, f⟩
  · refine ob_EEA (T.objs i mo e) fun a d e' O => ?_
    exact ⟨a, d, e', O.mono T L nt (same e')⟩
  · refine ob_E (T.all i a d e) fun mo O => ?_
    exact ⟨mo, O.mono T L nt (same e)⟩
theorem Recs.fresh (r : Recs C F h₀ W Y) (u : ∀ b o, W.h.get? b = some o → (∀ vs, o.data ≠ .fields vs) → ∃ sl, h'.get? b = some { o with slots := sl }) {D : Addr} {oT : Obj} {ts : Array Value} (hb : (minus (fadr F.envs ++ Y) W.h).get? D = none) (hT : h'.get? D = some oT) (hd : oT.data = .fields ts) : h₀.get? D = none := by
  rw [minus_get] at hb
  split at hb
  · rename_i m
    rcases List.mem_append.mp m with m | m
    · refine ob_EEEAA (r.T.frame_at m) fun o' es ep e' d' _u => ?_
      refine ob_E (u D o' e' fun vs q => nomatch d'.symm.trans q) fun sl q => ?_
      have z0 := hT.symm.trans q; injection z0 with z1; subst z1
      exact nomatch d'.symm.trans hd
    · exact r.yn D m
  · exact r.dom.down hb
theorem Recs.at (r : Recs C F h₀ W Y) {E : Addr} {fl a0 : Value} (u : ∀ b o, W.h.get? b = some o → (∀ vs, o.data ≠ .fields vs) → ∃ sl, h'.get? b = some { o with slots := sl }) (x : h'.TracedAtW (minus (fadr F.envs ++ Y) W.h) e (.ref E) a0 fl) : h'.TracedAtW h₀ e (.ref E) a0 fl := by
  refine ob_EEEEEAAAAAAAA x fun oe' vs' T' oT' ts' q1 q2 q3 q4 q5 q6 q7 q8 q9 => ?_
  exact ⟨oe', vs', T', oT', ts', q1, q2, q3, q4, r.fresh u q5 q7 q8, q6, q7, q8, q9⟩
theorem in_minus {a : Addr} (m : a ∈ fadr F.envs ++ Y) : (minus (fadr F.envs ++ Y) W.h).get? a = none := by rw [minus_get, if_pos m]
section
variable {M : Model} {A : Around} {E : Addr} (hA : AOk F n) (top : Top1 penv F.envs) (T : Sat C F W) (dom : Dom h₀ W.h) (hb : ∀ b, h₀.get? b = none → C.base.get? b = none)
include hA top T dom hb
theorem recs1 {oe : Obj} {vs : Array Value} (ne : h₀.get? e = none) (he : W.h.get? e = some oe) (hd : oe.data = .fields vs) : Recs C F h₀ W [e] :=
  ⟨T, dom, hb, fun b m => List.mem_singleton.mp m ▸ ne, fun b m o q => by rw [List.mem_singleton.mp m] at q; have z0 := he.symm.trans q; injection z0 with z1; subst z1; exact ⟨vs, hd⟩⟩
theorem recs2 {a0 fl : Value} (ne : h₀.get? e = none) (x : W.h.TracedAtW h₀ e (.ref E) a0 fl) : ∃ D, Recs C F h₀ W [e, D] ∧ W.h.TracedAtW (minus (fadr F.envs ++ [e, D]) W.h) e (.ref E) a0 fl := by
  refine ob_EEEEEAAAAAAAA x fun oe vs D oT ts p1 p2 p3 p4 p5 p6 p7 p8 p9 => ?_
  refine ⟨D, ⟨T, dom, hb, fun b m => ?_, fun b m o q => ?_⟩, oe, vs, D, oT, ts, p1, p2, p3, p4, in_minus (List.mem_append_right _ (.tail _ (.head _))), p6, p7, p8, p9⟩
  · rcases List.mem_cons.mp m with rfl | m
    · exact ne
    · exact List.mem_singleton.mp m ▸ p5
  · rcases List.mem_cons.mp m with rfl | m
    · have z0 := p1.symm.trans q; injection z0 with z1; subst z1; exact ⟨vs, p3⟩
    · rw [List.mem_singleton.mp m] at q; have z0 := p7.symm.trans q; injection z0 with z1; subst z1; exact ⟨ts, p8⟩
theorem note_at (x : XS h₀ W.h e E penv.locals) {Q : Unit → Shared → Prop} {E' : Value → Shared → Prop} (H : ∀ W' Y, W'.σ = W.σ → Noted C F Y W W' → (∀ b ∈ Y, h₀.get? b = none) → XC h₀ W'.h e E penv.locals → Q () (C.st W')) : wpAny M F.A (noteFrame (.ref e) penv) Q E' (C.st W) := by
  refine ob_A x fun ne x => ?_
  have ff : ∀ Y, W.h.FunFrames (minus (fadr F.envs ++ Y) W.h) F.envs := fun Y => funFrames _ T.frs fun a m => in_minus (List.mem_append_left _ m)
  rcases x with ⟨a0, oe, vs, he, hc, hd, h0, h1⟩ | ⟨a0, x⟩ | ⟨a0, x⟩
  · have r := recs1 hA top T dom hb ne he hd
    unfold noteFrame
    rw [top.fr]
    refine wpAny_bind (wpAny_field (s := C.st W) he hd h1 ?_)
    rw [if_neg (by decide)]
    refine ob_E top.hd fun outer e0 => ?_
    refine wpAny_entryW (s := C.st W) (base := minus (fadr F.envs ++ [e]) W.h) (e0 ▸ hA.fr) (e0 ▸ ff [e]) top.fr he (minus_stays _ _) (in_minus (List.mem_append_right _ (.head _))) hd (Array.getElem?_eq_some_iff.mp h1).1 h0 fun h' hL => ?_
    refine ob_AAA hL fun k1 k2 k3 k4 => ?_
    rw [hc] at k3
    exact H { W with h := h' } [e] rfl (r.noted k1 k4) r.yn ⟨ne, a0, r.at k4 k3⟩
  · refine ob_EA (recs2 hA top T dom hb ne x) fun D r tr => ?_
    refine ob_E top.hd fun outer e0 => ?_
    refine wpAny_noteFrame_onW (s := C.st W) (base := minus (fadr F.envs ++ [e, D]) W.h) (e0 ▸ hA.fr) (e0 ▸ ff [e, D]) top.fr tr (minus_stays _ _) (in_minus (List.mem_append_right _ (.head _))) fun h' hL => ?_
    refine ob_AAA hL fun k1 k2 k3 k4 => ?_
    exact H { W with h := h' } [e, D] rfl (r.noted k1 k4) r.yn ⟨ne, a0, r.at k4 k3⟩
  · exact wpAny_noteFrame_againW (s := C.st W) top.fr x (H W [] rfl ⟨T, T, rfl, Lat.refl, fun _ m => nomatch m⟩ (fun _ m => nomatch m) ⟨ne, a0, x⟩)
theorem leave_at (x : XS h₀ W.h e E penv.locals) {Q : Unit → Shared → Prop} {E' : Value → Shared → Prop} (H : ∀ W' Y, W'.σ = W.σ → Noted C F Y W W' → (∀ b ∈ Y, h₀.get? b = none) → XF h₀ W'.h e E → Q () (C.st W')) : wpAny M F.A (leaving penv (.ref e)) Q E' (C.st W) := by
  refine ob_A x fun ne x => ?_
  have ff : ∀ Y, W.h.FunFrames (minus (fadr F.envs ++ Y) W.h) F.envs := fun Y => funFrames _ T.frs fun a m => in_minus (List.mem_append_left _ m)
  refine ob_E top.hd fun outer e0 => ?_
  rcases x with ⟨a0, oe, vs, he, hc, hd, h0, h1⟩ | ⟨a0, x⟩ | ⟨a0, x⟩
  · have r := recs1 hA top T dom hb ne he hd
    refine wpAny_leaving_firstW (s := C.st W) (base := minus (fadr F.envs ++ [e]) W.h) (e0 ▸ hA.fr) (e0 ▸ ff [e]) top.fr he (minus_stays _ _) (in_minus (List.mem_append_right _ (.head _))) hd h1 h0 fun h' hL => ?_
    refine ob_AAA hL fun k1 k2 k3 k4 => ?_
    rw [hc] at k3
    exact H { W with h := h' } [e] rfl (r.noted k1 k4) r.yn ⟨ne, a0, r.at k4 k3⟩
  · refine ob_EA (recs2 hA top T dom hb ne x) fun D r tr => ?_
    refine wpAny_leaving_nextW (s := C.st W) (base := minus (fadr F.envs ++ [e, D]) W.h) (e0 ▸ hA.fr) (e0 ▸ ff [e, D]) top.fr tr (minus_stays _ _) (in_minus (List.mem_append_right _ (.head _))) fun h' hL => ?_
    refine ob_AAA hL fun k1 k2 k3 k4 => ?_
    exact H { W with h := h' } [e, D] rfl (r.noted k1 k4) r.yn ⟨ne, a0, r.at k4 k3⟩
  · refine ob_EA (recs2 hA top T dom hb ne x) fun D r tr => ?_
    unfold leaving
    refine wpAny_bind (wpAny_noteFrame_againW (s := C.st W) top.fr tr ?_)
    refine wpAny_landsW (s := C.st W) (l := F.envs) ⟨minus_stays _ _, in_minus (List.mem_append_right _ (.head _)), ff [e, D], tr⟩ fun h' hfl up => ?_
    refine ob_AAA hfl fun k1 k2 _u k3 => ?_
    exact H { W with h := h' } [e, D] rfl (r.noted k1 up) r.yn ⟨ne, a0, r.at up k3⟩
theorem flight_at {a0 fl : Value} (ne : h₀.get? e = none) (x : W.h.TracedAtW h₀ e (.ref E) a0 fl) {f : Option Addr} {Q : Unit → Shared → Prop} {E' : Value → Shared → Prop}
    (H : ∀ W' Y, W'.σ = W.σ → Noted C F Y W W' → (∀ b ∈ Y, h₀.get? b = none) → W'.h.TracedAtW h₀ e (.ref E) a0 (f.elim .none fun f => rawInt f) → Q () (C.st W')) : wpAny M A (setFlight (.ref e) f) Q E' (C.st W) := by
  refine ob_EEEEEAAAAAAAA x fun oe vs D oT ts p1 p2 p3 p4 p5 p6 p7 p8 p9 => ?_
  unfold setFlight
  refine wpAny_bind (wpAny_field (s := C.st W) p1 p3 p4 ?_)
  rw [if_pos (show (Value.ref D != Value.none) = true from rfl)]
  have hsz3 : 3 < ts.size := (Array.getElem?_eq_some_iff.mp p9).1
  refine wpAny_setField (s := C.st W) p7 p8 hsz3 ?_
  have r : Recs C F h₀ W [D] := ⟨T, dom, hb, fun b m => List.mem_singleton.mp m ▸ p5, fun b m o q => by rw [List.mem_singleton.mp m] at q; have z0 := p7.symm.trans q; injection z0 with z1; subst z1; exact ⟨ts, p8⟩⟩
  have other : ∀ b, b ≠ D → (W.h.update D (Obj.mapFields (·.setIfInBounds 3 (f.elim Value.none fun f => rawInt f)))).get? b = W.h.get? b := fun b hb => Heap.get?_update_other _ _ (Ne.symm hb)
  have self := Heap.get?_update_self (Obj.mapFields (·.setIfInBounds 3 (f.elim Value.none fun f => rawInt f))) p7 (Obj.isFreed_of_fields (Obj.data_mapFields p8 _))
  refine H { W with h := _ } [D] rfl (r.noted (fun b o e => ?_) fun b o e n => ?_) r.yn ⟨oe, vs, D, _, _, (other e (Ne.symm p6)).trans p1, p2, p3, p4, p5, p6, self, Obj.data_mapFields p8 _, ?_⟩
  · rw [minus_get] at e
    split at e
    · injection e
    · rename_i m; exact (other b fun q => m (List.mem_append_right _ (q ▸ .head _))).trans e
  · exact ⟨o.slots, (other b fun q => n ts (by subst q; have z0 := p7.symm.trans e; injection z0 with z1; subst z1; exact p8)).trans e⟩
  · rw [Array.getElem?_setIfInBounds, if_pos rfl, if_pos hsz3]
theorem own_raise {A' : Around} (x : XS h₀ W.h e E penv.locals) {Q : Value → Shared → Prop} {E' : Value → Shared → Prop} (H : ∀ W', W'.σ = W.σ → (∀ {X W0}, Fut C F X W0 W → W0.h = h₀ → (∀ a ∈ X, ¬ Own W'.ι a) → Fut C F X W0 W') → (∀ {env}, ER C.p W.h W.ι penv env → ER C.p W'.h W'.ι penv env) → XS h₀ W'.h e E penv.locals → Q (.ref e) (C.st W')) :
    wpC M F.A (do noteFrame (.ref e) penv; theTreesLotGoes (.ref e)) (fun _ s' => cameBackBy M A' penv Q (.ref e) s') E' (C.st W) := by
  refine wpC_of (wpAny_bind (note_at hA top T dom hb x fun W1 Y1 e1 c1 n1 x1 => wpAny_theTreesLotGoes ?_))
  refine ob_AE x1 fun ne a0 x1 => ?_
  have x1' := x1
  refine ob_EEEEEAAAAAAAA x1 fun oe vs D oT ts p1 p2 p3 p4 p5 p6 p7 p8 p9 => ?_
  refine wpAny_bind (wpAny_field (s := C.st W1) p1 p3 p4 ?_)
  rw [if_neg (show ¬ ((Value.ref D == Value.none) = true) from fun q => nomatch q), top.fr]
  have dom1 : Dom h₀ W1.h := fun b o e => by
    refine ob_E (dom b o e) fun o' e' => ?_
    exact c1.L.dom b o' e' fun m => nomatch (n1 b m).symm.trans e
  refine flight_at hA top c1.S1 dom1 hb ne x1' fun W2 Y2 e2 c2 n2 x2 => ?_
  exact H W2 (e2.trans e1) (fun z q xs => (z.noted (fun b m => q ▸ n1 b m) c1 fun a m => c2.eι ▸ xs a m).noted (fun b m => q ▸ n2 b m) c2 xs) (fun R => (R.noted c1).noted c2) ⟨ne, .inr (.inr ⟨a0, x2⟩)⟩
end
end
end
end Mine
namespace Mine
open PySem PyProof.Rows PySem.W
open PySem.Builtin
noncomputable section
section
variable {S : Type} {C : Cst S} {F : Fr} {n : Nat} {penv : Env} {env : MEnv} {W W' W'' W0 : Wd S} {ih : SemF S} {Q : Flow → Shared → Prop} {E : Value → Shared → Prop} {b : List Stmt}
theorem body_step (hX : ExOk C ih n) (H : HereS C F penv n env W) (z : Fut C F [penv.locals] W0 W) {A' : Around} {Q' : Flow → Shared → Prop} {E'' : Value → Shared → Prop} {go : ES S → RF (ES S) Fl} (p : EnS C F penv W0 (rs (ih.ex ⟨env, W.σ⟩ b) go) Q E)
    (K1 : ∀ W' x, W'.σ = x.s → Fut C F [penv.locals] W W' → HereS C F penv n x.e W' → EnS C F penv W0 (go x) Q E → Q' .next (C.st W')) (K2 : ∀ v s', Q (.ret v) s' → Q' (.ret v) s') :
    wpC C.M F.A (execs b penv) Q' (fun e s' => wpC C.M F.A (do noteFrame e penv; theTreesLotGoes e) (fun _ s'' => cameBackBy C.M A' penv E e s'') E'' s') (C.st W) := by
  refine (hX F W penv env b H).go z.S1 _ _ ?_
  cases hr : ih.ex ⟨env, W.σ⟩ b with
  | bad => rw [hr] at p; exact p.elim
  | exc X x =>
    rw [hr] at p
    intro W1 ev e z1 R1 xs
    refine own_raise H.H.A H.top z1.S1 (z1.doms R1) (fun b q => ?_) xs fun W2 e2 zf er x2 => ?_
    · cases e : C.base.get? b with
      | none => rfl
      | some o => exact nomatch q.symm.trans (z.S1.stays b o e)
    · have R2 := er R1
      exact p W2 ev (e2.trans e) (z.trans (zf z1 rfl fun a m => List.mem_singleton.mp m ▸ R2.lo)) R2 (x2.from (z.doms H.H.R))
  | ok fl x =>
    rw [hr] at p
    cases fl with
    | next => exact fun W1 f e z1 R1 r => by rw [show f = _ from r]; exact K1 W1 x e z1 ⟨⟨H.H.A, R1⟩, H.top⟩ p
    | ret v =>
      intro W1 f e z1 R1 r
      refine ob_EA r fun y z1 ry => ?_; subst z1
      exact K2 y _ (p W1 (.ret y) e (z.trans z1) R1 ⟨y, rfl, ry⟩)
theorem EnS.bindN {α β : Type} {t : Sem β} {k : β → Sem γ} {r : RF S α} {R : Rl S α β} {f : α → S → RF (ES S) Fl} {Q' : γ → Shared → Prop} {E' : Value → Shared → Prop} (T : Sat C F W) (h : Run C F W t r R) (p : EnS C F penv W0 (rn r f) Q E)
    (K : ∀ W' v y, Fut C F [] W W' → R W' v y → EnS C F penv W0 (f v W'.σ) Q E → wpC C.M F.A (k y) Q' E' (C.st W')) : wpC C.M F.A (t >>= k) Q' E' (C.st W) := by
  refine wpC_bind (h.go T _ E' ?_)
  cases r with
  | ok v s => exact fun W' y e z' r => K W' v y z' r (by rw [e]; exact p)
  | _ => exact p.elim
theorem rn_tb (r : RF S V) (f : Bool → S → RF (ES S) Fl) : rn r (fun v s => vB .bad (fun b => f b s) v) = rn (tb r) f := by
  cases r with
  | ok v s => cases v <;> rfl
  | _ => rfl
theorem while_loop (hT : TsOk C ih n) (hX : ExOk C ih n) {t : PySem.Expr} (k : Nat) : ∀ {env : MEnv} {W : Wd S}, HereS C F penv n env W → Fut C F [penv.locals] W0 W → EnS C F penv W0 (whlF ih t b k ⟨env, W.σ⟩) Q E →
    codeC C.M F.A (.whileLoop t b [] penv) (fun r s' => match r with | .ok f => Q f s' | .error e => cameBackBy C.M F.A penv E e s') (C.st W) := by
  induction k with
  | zero => exact fun _ _ p => p.elim
  | succ k ihk =>
    intro env W H z p
    refine codeC_of_tree rfl ?_
    show wpC C.M F.A ((whileTurn t b [] penv).onRaise (fun x => do noteFrame x penv; theTreesLotGoes x)) _ _ _
    refine wpC_onRaise ?_
    change EnS C F penv W0 (rn (ih.ev env W.σ t) fun v s => vB .bad (fun c => bt c (rs (ih.ex ⟨env, s⟩ b) (whlF ih t b k)) (.ok .next ⟨env, s⟩)) v) Q E at p
    rw [rn_tb _ fun c s => bt c (rs (ih.ex ⟨env, s⟩ b) (whlF ih t b k)) (.ok .next ⟨env, s⟩)] at p
    unfold whileTurn
    refine EnS.bindN z.S1 (hT F W penv env t H.H) p fun W1 c c' z1 e p1 => ?_
    cases e
    have z01 := z.trans (z1.frame (H.on z1).H.R)
    cases c with
    | true =>
      refine wpC_bind (body_step hX (H.on z1) z01 p1 (fun W2 x e2 z2 H2 p2 => wpC_pure ⟨rfl, ihk H2 (z01.trans z2) ?_⟩) fun v s' q => wpC_pure q)
      rw [show (⟨x.e, W2.σ⟩ : ES S) = x by rw [e2]]; exact p2
    | false => exact wpC_bind (wpC_pure (wpC_pure (p1 W1 .next rfl z01 (H.on z1).H.R rfl)))
theorem while_st (hT : TsOk C ih n) (hX : ExOk C ih n) (H : HereS C F penv n env W) (t : PySem.Expr) (b : List Stmt) (q : Pos) : RunS C F penv W (exec (.While t b [] q) penv) (whlF ih t b 200 ⟨env, W.σ⟩) :=
  .of (arm_exec_While ..) (.stand ⟨fun T Q E p => wpC_runOwn (while_loop hT hX 200 H ((Fut.refl T).frame H.H.R) p)⟩)
theorem ER.noTupL (R : ER C.p W.h W.ι penv env) : NoTup [penv.locals] W.h := fun a m ws t => by
  refine ob_EA R.ns fun _u z1 _u => ?_; refine ob_EEEAA z1 fun o es ep e d _u => ?_
  refine ob_EAAE t fun o' e' _u _u d' => ?_
  have z0 := (List.mem_singleton.mp m ▸ e').symm.trans e; injection z0 with z1; subst z1
  exact nomatch d.symm.trans d'
theorem for_loop (O : Okay C) (hX : ExOk C ih n) {t : PySem.Expr} {src : Src} {I : Addr} (nI : I ∉ fadr F.envs) (fI : W0.h.get? I = none) (ne : penv.locals ≠ I) (k : Nat) : ∀ {i : Nat} {env : MEnv} {W : Wd S}, HereS C F penv n env W → Fut C F [penv.locals] W0 W → Loose C W I → ItR C W src I i → EnS C F penv W0 (forF C.D ih (cT t) b src k i ⟨env, W.σ⟩) Q E →
    codeC C.M F.A (.forLoop t (.ref I) b [] penv) (fun r s' => match r with | .ok f => Q f s' | .error e => cameBackBy C.M F.A penv E e s') (C.st W) := by
  induction k with
  | zero => exact fun _ _ _ _ p => p.elim
  | succ k ihk =>
    intro i env W H z l it p
    refine codeC_of_tree rfl ?_
    show wpC C.M F.A ((forTurn t (.ref I) b [] penv).onRaise (fun x => do noteFrame x penv; theTreesLotGoes x)) _ _ _
    refine wpC_onRaise ?_
    unfold forTurn
    change EnS C F penv W0 (oo .bad (fun o => oo (.ok .next ⟨env, W.σ⟩) (fun v => rs (bindF (cT t) v ⟨env, W.σ⟩) fun x => rs (ih.ex x b) fun x => forF C.D ih (cT t) b src k (Nat.succ i) x) o) (itF C.D src W.σ i)) Q E at p
    cases hi : itF C.D src W.σ i with
    | none => rw [hi] at p; exact p.elim
    | some o =>
      rw [hi] at p
      refine wpC_bind (wpC_standAt (wpC_bind (wpC_onRaise (wpC_of (next_at O.ok H.H.A.hd z.S1 l nI it hi (fun e0 W1 e1 s1 => ?_) fun v W1 y e0 e1 s1 ry it1 l1 => ?_)))))
      · subst e0
        refine wpC_pure ⟨rfl, codeC_of_tree rfl ?_⟩
        show wpC C.M F.A (((execs [] penv).onRaise (fun x => do noteFrame x penv; theTreesLotGoes x)) >>= fun f => Pure.pure (Fin.done f)) _ _ _
        rw [arm_execs_nil]
        exact wpC_bind (wpC_onRaise (wpC_pure (wpC_pure (p W1 .next e1 (s1.fut z fI) (H.H.R.step s1 ne) rfl))))
      · subst e0
        change EnS C F penv W0 (rs (bt ((cT t).ok env.sc) (oo .bad (fun vars => .ok .next ⟨⟨env.sc, vars⟩, W.σ⟩) ((cT t).f v env.vars)) .bad) fun x => rs (ih.ex x b) fun x => forF C.D ih (cT t) b src k (Nat.succ i) x) Q E at p
        cases hok : (cT t).ok env.sc with
        | false => rw [hok] at p; exact p.elim
        | true =>
          rw [hok] at p
          cases hb : (cT t).f v env.vars with
          | none => rw [hb] at p; exact p.elim
          | some vars2 =>
            rw [hb] at p
            obtain ⟨g⟩ := tgt hok
            refine wpC_bind (wpC_of (owned_go it1 g y (wpC_bind (wpC_of (assign_at (sc := env.sc) (vars := env.vars) H.H.A.hd s1.S1 (H.H.R.step s1 ne) (H.nb z.S1) g hok ry hb fun W2 e2 s2 R2 => ?_)))))
            have z2 := (s1.fut z fI).trans ⟨s2.S0, s2.S1, s2.L⟩
            have l2 := l1.step s2 ne.symm
            have i2 := it1.step s2 ne.symm
            have p : EnS C F penv W0 (rs (ih.ex ⟨⟨env.sc, vars2⟩, W.σ⟩ b) fun x => forF C.D ih (cT t) b src k (Nat.succ i) x) Q E := p
            refine wpC_bind (body_step hX (env := ⟨env.sc, vars2⟩) ⟨⟨H.H.A, R2⟩, H.top⟩ z2 (by rw [e2, e1]; exact p) (fun W3 x e3 z3 H3 p3 => wpC_pure ⟨rfl, ihk H3 (z2.trans z3) (l2.later z3 nI fun m => ne (List.mem_singleton.mp m).symm).1 (i2.later l2 z3 nI (fun m => ne (List.mem_singleton.mp m).symm) R2.noTupL) ?_⟩) fun v s' q => wpC_pure q)
            rw [show (⟨x.e, W3.σ⟩ : ES S) = x by rw [e3]]; exact p3
theorem for_run (O : Okay C) (hX : ExOk C ih n) (H : HereS C F penv n env W) {t : PySem.Expr} {v : V} {y : Value} (r : VV C W v y) : RunS C F penv W (pyIter y >>= fun it => runOwn (.forLoop t it b [] penv) penv) (forF C.D ih (cT t) b (.v v) turns 0 ⟨env, W.σ⟩) := ⟨fun T Q E p => by
  cases hi : itF C.D (.v v) W.σ 0 with
  | none =>
    change EnS C F penv W (oo .bad _ (itF C.D (.v v) W.σ 0)) Q E at p
    rw [hi] at p; exact p.elim
  | some o =>
    refine wpC_bind (wpC_of (iter_at O.ok T r hi fun I W' e z f l nf it => wpC_runOwn ?_))
    have ne : penv.locals ≠ I := fun q => by
      refine ob_EA H.H.R.ns fun _u z1 _u => ?_; refine ob_EEEA z1 fun o _u _u e0 _u => ?_
      rw [← q] at f; exact nomatch f.symm.trans e0
    exact for_loop (W0 := W) O hX nf f ne turns (H.on z) (z.frame (H.on z).H.R) l it (by rw [e]; exact p)⟩
theorem for_plain (O : Okay C) (hE : EvOk C ih n) (hX : ExOk C ih n) (H : HereS C F penv n env W) (t it : PySem.Expr) (b : List Stmt) (q : Pos) (hs : notSet it = true) : RunS C F penv W (exec (.For t it b [] q) penv) (re env (ih.ev env W.σ it) fun v s => forF C.D ih (cT t) b (.v v) turns 0 ⟨env, s⟩) := by
  refine .of (arm_exec_For ..) (.stand (.re (hE F W penv env it H.H) H.H fun W1 v y z r => .pre y (by cases it <;> first | rfl | injection hs) (.stand (.hold1 (for_run O hX (H.on z) r)))))
end
end
end Mine
namespace Mine
open PySem PyProof.Rows PySem.W
open PySem.Builtin
noncomputable section
section
variable {S : Type} {C : Cst S} {F : Fr} {n : Nat} {penv : Env} {env : MEnv} {W W' W'' W0 : Wd S} {α β γ : Type} {ih : SemF S} {Q : Flow → Shared → Prop} {E : Value → Shared → Prop} {b : List Stmt}
theorem re_rb (r : RF S α) (g : α → S → RF S β) (f : β → S → RF (ES S) γ) : Mine.re env (rb r g) f = Mine.re env r fun v s => Mine.re env (g v s) f := by cases r <;> rfl
theorem isR_eq {fv : V} (h : isR fv = true) : fv = .bi .tRange := by cases fv <;> first | injection h | (rename_i b; cases b <;> first | rfl | injection h)
def RR : Rl S Nat Value := fun W n y => n < 1000000 ∧ ∃ a t u v, y = .ref a ∧ IsRange W.h a 0 (Int.ofNat n) 1 t u v
theorem range_call (ok : DmOk C.D C.p) {vs : List V} {ws : List Value} (r : VVL C W vs ws) : Run C F W (call (.type "range") ws) (a1 .bad (fun v => vI .bad (fun i => ob W.σ (C.D.nat i)) v) vs) RR :=
  .a1 (k := fun ws => call (.type "range") ws) r fun v y r => .xI (k := fun y => call (.type "range") [y]) r fun i t => .ob fun m e => .grow fun T Q E p => by
    rw [(ok.nat e).1]
    exact call_range_1 (p _ _ _ (Kp.push _ _) ⟨(ok.nat e).2, _, W.tk, t, W.tk + 1, rfl, IsRange.new ..⟩)
theorem iter_range (T : Sat C F W) {m : Nat} {y : Value} (r : RR W m y) {Q : Value → Shared → Prop} {E : Value → Shared → Prop}
    (h : ∀ I W', W'.σ = W.σ → Fut C F [] W W' → W.h.get? I = none → Loose C W' I → I ∉ fadr F.envs → ItR C W' (.range m) I 0 → Q (.ref I) (C.st W')) : wpAny C.M F.A (pyIter y) Q E (C.st W) := by
  refine ob_AEEEEA r fun hm a t u v z1 g => ?_; subst z1
  have hi : (Int.ofNat m : Int) < 2 ^ 62 := Int.lt_trans (Int.ofNat_lt.mpr hm) (by decide)
  refine wpAny_pyIter_range (s := C.st W) g (small_one (by decide) (by decide) (Int.le_trans (by decide) (Int.natCast_nonneg m)) hi) ?_
  have hsz : Builtin.Range.rangeSize 0 (Int.ofNat m) 1 = (m : Int) := by
    rw [rangeSize_one]
    cases m with
    | zero => rfl
    | succ m => exact (if_pos (Int.ofNat_lt.mpr (Nat.succ_pos m))).trans (Int.sub_zero _)
  rw [hsz]
  refine ob_AAA (T.record (.type "range_iterator") #[rawInt 0, rawInt (m : Int), rawInt 1]) fun z f l nf => ?_
  refine h _ { W with h := _ } rfl z f l nf ?_
  show IsRangeIter _ _ (((0 : Nat) : Int)) ((m : Int) - ((0 : Nat) : Int)) 1
  rw [show ((m : Int) - ((0 : Nat) : Int)) = (m : Int) from Int.sub_zero _]
  exact Heap.get?_push_size _ rfl
theorem for_range (O : Okay C) (hE : EvOk C ih (n + 1)) (hX : ExOk C ih n) (H : HereS C F penv (n + 1) env W) (t : PySem.Expr) (f : Str) (q : Pos) (e : PySem.Expr) (p : Pos) (b : List Stmt) (pos : Pos) (hs : noStar e = true) :
    RunS C F penv W (exec (.For t (.Call (.Name f q) [e] [] p) b [] pos) penv) (Mine.re env (ih.ev env W.σ (.Name f q)) fun fv s => Mine.bt (isR fv) (Mine.re env (ih.ev env s e) fun v s => vI .bad (fun i => oo .bad (fun m => forF C.D ih (cT t) b (.range m) turns 0 ⟨env, s⟩) (C.D.nat i)) v) .bad) := by
  have less : ∀ {W}, HereS C F penv (n + 1) env W → HereS C F penv n env W := fun H => ⟨⟨H.H.A.less (Nat.le_succ n), H.H.R⟩, H.top⟩
  refine .of (arm_exec_For ..) (.stand (.of (t := (eval (.Name f q) penv >>= fun fv => callWith p fv [] (backTo p (starEach [e] penv)) []) >>= _) rfl ?_))
  refine .assoc (.re (hE F W penv env _ H.H) H.H fun W1 v y z r => .bt (fun h => ?_) fun _ => .bad)
  have z0 := isR_eq h; subst z0
  have z0 := (show y = _ from r); subst z0
  have hr := callWith_run (R := RR) (first := []) (f := .type "range") (as := [e]) (g := fun vs s => a1 .bad (fun v => vI .bad (fun i => ob s (C.D.nat i)) v) vs) hE p (show bt (noStar e) true false = true by rw [hs]; rfl) (H.on z).H fun W' vs ws z' r' => ⟨kept_bi .tRange _, range_call O.ok r'⟩
  have eq : Mine.re env (ih.ev env W1.σ e) (fun v s => vI .bad (fun i => oo .bad (fun m => forF C.D ih (cT t) b (.range m) turns 0 ⟨env, s⟩) (C.D.nat i)) v) = Mine.re env (evL [e] ih env W1.σ fun vs s => a1 .bad (fun v => vI .bad (fun i => ob s (C.D.nat i)) v) vs) fun m s => forF C.D ih (cT t) b (.range m) turns 0 ⟨env, s⟩ := by
    refine Eq.trans ?_ (re_rb _ _ _).symm
    refine congrArg (Mine.re env _) (funext fun v => funext fun s => ?_)
    show _ = Mine.re env (vI .bad (fun i => ob s (C.D.nat i)) v) _
    cases v with
    | int i => show oo .bad _ (C.D.nat i) = Mine.re env (ob s (C.D.nat i)) _; cases C.D.nat i <;> rfl
    | _ => rfl
  rw [eq]
  refine .re hr (H.on z).H fun W2 m y z2 r2 => .pre y rfl (.stand (.hold1 ⟨fun T Q E pp => ?_⟩))
  refine wpC_bind (wpC_of (iter_range T r2 fun I W' e z' f l nf it => wpC_runOwn ?_))
  have H2 := less ((H.on z).on z2)
  have ne : penv.locals ≠ I := fun q => by
    refine ob_EA H2.H.R.ns fun _u z1 _u => ?_; refine ob_EEEA z1 fun o _u _u e0 _u => ?_
    rw [← q] at f; exact nomatch f.symm.trans e0
  exact for_loop (W0 := W2) O hX nf f ne turns (H2.on z') (z'.frame (H2.on z').H.R) l it (by rw [e]; exact pp)
end
end
end Mine
namespace Mine
open PySem PyProof.Rows PySem.W
open PySem.Builtin
noncomputable section
abbrev excTail : List Value := [.type "Exception", .type "BaseException", .type "object"]
structure ExcOk (base : Heap) (K : Frag) (C : Addr) (ci : CI) : Prop where
  obj : ∃ nm q N bs bm sn sub ab col dd k0 k1 k2 k3 k5, base.get? C = some (excClassObj nm q C N bs bm true sn sub ab col dd k0 k1 k2 k3 k5 "Exception.__new__") ∧ (∀ X b, excTail.contains (.type X) = b → bm.contains (.type X) = b) ∧ ∀ self, refuseLoop self "__setattr__" (.ref C :: bm) = pure ()
  init : findIn K (.ref C) "__init__" = some (some (.ref ci.init))
  initf : typeIn K (.ref ci.init) = some (.type "function")
  keepf : keepIn K (.ref C) = true
  seta : findIn K (.ref C) "__setattr__" = some (some (.builtin "object.__setattr__"))
  whatN : findIn K (.ref C) "what" = some none
  atN : findIn K (.ref C) "at" = some none
section
variable {S : Type} {C : Cst S} {F : Fr} {n : Nat} {penv : Env} {env : MEnv} {W W' W'' W0 : Wd S} {ih : SemF S} {Q : Flow → Shared → Prop} {E : Value → Shared → Prop} {h₀ : Heap}
theorem rtE_some {x : Stmt} {e : PySem.Expr} (h : rtE x = some e) : ∃ q, x = .Return (some e) q := by
  cases x <;> cases h
  exact ⟨_, rfl⟩
theorem asE_some {x : Stmt} {a : List PySem.Expr × PySem.Expr} (h : asE x = some a) : ∃ q, x = .Assign a.1 a.2 q := by cases x <;> cases h; exact ⟨_, rfl⟩
theorem cnE_some {e : PySem.Expr} {c : Const} (h : cnE e = some c) : ∃ k q, e = .Constant c k q := by cases e <;> cases h; exact ⟨_, _, rfl⟩
theorem plain_at (H : HereS C F penv n env W) (T : Sat C F W) {h : List Stmt} (p : EnS C F penv W (plF ⟨env, W.σ⟩ h) Q E) : (∃ b r, h = b :: r) ∧ ∀ {A' : Around} {E' : Value → Shared → Prop}, wpAny C.M A' (execs h penv) Q E' (C.st W) := by
  have R := H.H.R
  have z : Fut C F [penv.locals] W W := (Fut.refl T).frame R
  rcases h with _ | ⟨s, _ | _⟩ <;> first | exact p.elim | refine ⟨⟨_, _, rfl⟩, ?_⟩
  unfold plF at p
  intro A' E'
  rw [arm_execs_cons]
  change EnS C F penv W (oo _ _ (rtE s)) Q E at p
  cases hr : rtE s with
  | some e =>
    rw [hr] at p
    refine ob_E (rtE_some hr) fun q z1 => ?_; subst z1
    change EnS C F penv W (oo _ _ (cnE e)) Q E at p
    cases hc : cnE e with
    | none => rw [hc] at p; exact p.elim
    | some c =>
      rw [hc] at p
      refine ob_EE (cnE_some hc) fun k q1 z1 => ?_; subst z1
      rw [arm_exec_Return]
      cases c <;> first | exact p.elim | skip
      · exact wpAny_bind (wpAny_bind (wpAny_standAt (wpAny_bind (PyProof.Rows.Constant_none (wpAny_pure (wpAny_pure (p W _ rfl z R ⟨_, rfl, rfl⟩)))))))
      · exact wpAny_bind (wpAny_bind (wpAny_standAt (wpAny_bind (PyProof.Rows.Constant_bool (wpAny_pure (wpAny_pure (p W _ rfl z R ⟨_, rfl, rfl⟩)))))))
  | none =>
    rw [hr] at p
    change EnS C F penv W (oo _ _ (asE s)) Q E at p
    cases ha : asE s with
    | none => rw [ha] at p; exact p.elim
    | some a =>
      rw [ha] at p
      refine ob_E (asE_some ha) fun q2 z1 => ?_; subst z1
      obtain ⟨ts, e⟩ := a
      rcases ts with _ | ⟨t, _ | _⟩ <;> first | exact p.elim | skip
      change EnS C F penv W (oo _ _ (nmE t)) Q E at p
      cases hn : nmE t with
      | none => rw [hn] at p; exact p.elim
      | some y =>
        rw [hn] at p
        obtain ⟨y, q⟩ := y
        have z0 := nmE_some hn; subst z0
        change EnS C F penv W (oo _ _ (cnE e)) Q E at p
        cases hc : cnE e with
        | none => rw [hc] at p; exact p.elim
        | some c =>
          rw [hc] at p
          refine ob_EE (cnE_some hc) fun k q1 z1 => ?_; subst z1
          cases c <;> first | exact p.elim | skip
          rw [arm_exec_Assign]
          change EnS C F penv W (bt (isLo (lukS env.sc (kc y))) (.ok .next ⟨⟨env.sc, put env.vars (kc y) .none⟩, W.σ⟩) .bad) Q E at p
          cases hl : isLo (lukS env.sc (kc y)) with
          | false => rw [hl] at p; exact p.elim
          | true =>
            rw [hl] at p
            refine wpAny_bind (wpAny_bind (wpAny_standAt (wpAny_bind (wpAny_pure ?_))))
            rw [if_neg Bool.false_ne_true]
            refine wpAny_bind (PyProof.Rows.Constant_none (wpAny_bind (wpAny_pure ?_)))
            refine wpAny_bind (wpAny_assign_Name (store_at (F := ⟨A', F.envs⟩) (sc := env.sc) (vars := env.vars) (v := .none) T R (H.nb T) hl rfl fun W' e' s R' => wpAny_pure ?_))
            rw [arm_execs_nil]
            exact wpAny_pure (p W' .next e' ⟨T, s.S1, s.L⟩ R' rfl)
theorem tryStmt_C {M : Model} {A : Around} {s : Shared} {body : Sem Flow} {h₁ : ExceptHandler} (h : wpC M A body (fun f s₁ => Q f s₁)
      (fun e s₁ => wpC M A (noteFrame e penv) (fun _ s₂ => wpC M A (setFlight e none) (fun _ s₃ => wpC M A (handleBy e penv [h₁]) Q E s₃) E s₂) E s₁) s) :
    wpC M A (tryStmt false body [h₁] (pure .next) [] penv) Q E s := by
  unfold tryStmt
  simp only [List.isEmpty_nil, if_true, List.isEmpty_cons, Bool.false_eq_true, if_false, Bool.false_and]
  refine wpC_bind (wpC_attempt (wpC_mono h (fun f s₁ h₁ => ?_) fun e s₁ h₁ => ?_))
  · cases f <;> exact wpC_pure h₁
  · exact wpC_bind (wpC_monoQ h₁ fun _ s₂ h₂ => wpC_bind h₂)
theorem try_st (O : Okay C) (hG : ∀ a ci, C.P.cls a = some ci → ci.exc = true → ExcOk C.base C.K a ci) (hX : ExOk C ih n) (H : HereS C F penv n env W) (b : List Stmt) (c : Str) (q : Pos) (h : List Stmt) (q1 q2 : Pos) :
    St1 C F penv W ih env (.Try b [.ExceptHandler (some (.Name c q)) none h q1] [] [] q2) := .of (arm_exec_Try ..) (.stand ⟨fun T Q E p => by
  rw [arm_execs_nil]
  refine tryStmt_C ((hX F W penv env b H).go T _ _ ?_)
  change EnS C F penv W (RF.rec (motive := fun _ => RF (ES S) Fl) (fun fl z => .ok fl z) (fun X z => rn ((cName C.P c).run ih z.e z.s) fun v _ => vR .bad (fun E => bt (Nat.beq X E) (bt (isExc C.P X) (plF z h) .bad) .bad) (fun _ => .bad) v) .bad (ih.ex ⟨env, W.σ⟩ b)) Q E at p
  cases hr : ih.ex ⟨env, W.σ⟩ b with
  | bad => rw [hr] at p; exact p.elim
  | ok fl x => rw [hr] at p; exact p
  | exc X x =>
    rw [hr] at p
    obtain ⟨e', σ'⟩ := x
    change EnS C F penv W (rn ((cName C.P c).run ih e' σ') fun v _ => vR .bad (fun E => bt (Nat.beq X E) (bt (isExc C.P X) (plF ⟨e', σ'⟩ h) .bad) .bad) (fun _ => .bad) v) Q E at p
    intro W1 ev es z1 R1 xs
    change W1.σ = σ' at es
    subst es
    have dom := z1.doms R1
    have hb : ∀ b, W.h.get? b = none → C.base.get? b = none := fun b q => by
      cases e : C.base.get? b with
      | none => rfl
      | some o => exact nomatch q.symm.trans (T.stays b o e)
    cases en : (cName C.P c).run ih e' W1.σ with
    | bad => rw [en] at p; exact p.elim
    | exc X s => exact absurd en name_no
    | ok v σ2 =>
      rw [en] at p
      cases v <;> first | exact p.elim | skip
      rename_i D
      change EnS C F penv W (bt (Nat.beq X D) (bt (isExc C.P X) (plF ⟨e', W1.σ⟩ h) .bad) .bad) Q E at p
      cases hD : Nat.beq X D with
      | false => rw [hD] at p; exact p.elim
      | true =>
        rw [hD] at p
        cases hx : isExc C.P X with
        | false => rw [hx] at p; exact p.elim
        | true =>
          rw [hx] at p
          have p : EnS C F penv W (plF ⟨e', W1.σ⟩ h) Q E := p
          have z0 := Nat.eq_of_beq_eq_true hD; subst z0
          refine ob_EA (oo_true hx) fun ci hci hce => ?_
          refine ob_EEEEEEEEEEEEEEEAA ((hG X ci hci hce).obj) fun nm' qq N bs bm sn sub ab col dd k0 k1 k2 k3 k5 hC hbm _u => ?_
          -- the way to the handler
          refine wpC_of (note_at H.H.A H.top z1.S1 dom hb xs fun W2 Y2 e2 c2 n2 x2 => wpC_of ?_)
          refine ob_AE x2 fun ne a0 x2 => ?_
          have dom2 : Dom W.h W2.h := fun b o e => ob_E (dom b o e) fun o' e' => c2.L.dom b o' e' fun m => nomatch (n2 b m).symm.trans e
          refine flight_at H.H.A H.top c2.S1 dom2 hb ne x2 fun W3 Y3 e3 c3 n3 x3 => wpC_of ?_
          have dom3 : Dom W.h W3.h := fun b o e => ob_E (dom2 b o e) fun o' e' => c3.L.dom b o' e' fun m => nomatch (n3 b m).symm.trans e
          have R3 := (R1.noted c2).noted c3
          have z3 := (z1.noted n2 c2 fun a m => List.mem_singleton.mp m ▸ (R1.noted c2).lo).noted n3 c3 fun a m => List.mem_singleton.mp m ▸ R3.lo
          have evp : ∀ {A : Around} {Q : Value → Shared → Prop} {E : Value → Shared → Prop}, Q (.ref X) (C.st W3) → wpAny C.M A (eval (.Name c q) penv) Q E (C.st W3) := fun hq => (name_any (ih := ih) O c3.S1 R3 c q (v := .ref X) (σ' := σ2) (by rw [e3.trans e2]; exact en)).2 fun y r => (show y = .ref X from r) ▸ hq
          have p3 : EnS C F penv W3 (plF ⟨e', W3.σ⟩ h) Q E := by rw [e3.trans e2]; exact EnS.later z3 R3 p
          refine ob_A (plain_at (W := W3) ⟨⟨H.H.A, R3⟩, H.top⟩ c3.S1 p3) fun z1 _u => ?_; refine ob_EE z1 fun b₀ r₀ eh => ?_
          refine wpAny_handleBy_cons (codeAny_handlers_test (evp ?_)) (fun q => nomatch q)
          have x3' := x3
          refine ob_EEEEEAA x3' fun oe vs T' oT ts p1 p2 _u => ?_
          refine wpAny_excMatches_sub_self (c3.S1.stays _ _ hC) p1 p2.1 (hbm _ _ (by decide)) ?_
          show codeAny C.M _ (.handlers (.ref ev) [.ExceptHandler none none h q1] penv) _ _
          rw [eh]
          refine codeAny_handlers_suite ?_
          rw [← eh]
          refine flight_at H.H.A H.top c3.S1 dom3 hb ne x3 fun W4 Y4 e4 c4 n4 x4 => ?_
          have R4 := R3.noted c4
          have p4 : EnS C F penv W4 (plF ⟨e', W4.σ⟩ h) Q E := by
            rw [e4.trans (e3.trans e2)]
            exact EnS.later (z3.noted n4 c4 fun a m => List.mem_singleton.mp m ▸ R4.lo) R4 p
          exact (plain_at (W := W4) ⟨⟨H.H.A, R4⟩, H.top⟩ c4.S1 p4).2⟩)
end
end
end Mine
namespace Mine
open PySem PyProof.Rows PySem.W
open PySem.Builtin PySem.Builtin.ObjectAttr
noncomputable section
section
variable {M : Model} {prog : Program} {w : World} {A : Around} {E : Value → Shared → Prop} {R : Result → Shared → Prop} {h : Heap} {g : Array GenState} {d : Drawn} {t : Nat} {os : OsState} {K : Frag}
variable {nm q : PySem.Str} {C N : Addr} {bs bm bmB : List Value} {hdct : Bool} {sn : List PySem.Str} {sub : List Value} {ab : Bool} {col : Option Bool} {dd : Option Addr} {k0 k1 k2 k3 k5 : Option Value} {B newId initId : String}
theorem check_newX (F : ExcBaseFacts B newId initId bmB) (T : ∀ X b, bmB.contains (.type X) = b → bm.contains (.type X) = b) {rest : List Value} {Q : Unit → Shared → Prop} (hC : h.get? C = some (excClassObj nm q C N bs bm hdct sn sub ab col dd k0 k1 k2 k3 k5 newId))
    (hq : Q () ⟨h, g, d, t, os⟩) : wpAny M A (checkBuiltinCall newId ⟨.ref C :: rest, []⟩) Q E ⟨h, g, d, t, os⟩ := by
  have hcont : (Value.ref C :: bm).contains (.type B) = true := by rw [List.contains_cons, T _ _ F.hasB, Bool.or_true]
  have hstar := F.noStar
  simp only [checkBuiltinCall, F.newKind, F.newSplit, F.newRow]
  repeat (first | refine wpAny_loadPart_at hC ?_ | (refine wpAny_isSubtype_exc hC ?_; rw [hcont]) | refine wpAny_staticBase_exc hC ?_ | refine wpAny_madeBy_exc hC ?_ | simp only [bne_self_eq_false, Bool.false_eq_true, if_false] | wp_step)
  exact hq
theorem exc_newX (F : ExcBaseFacts B newId initId bmB) (T : ∀ X b, bmB.contains (.type X) = b → bm.contains (.type X) = b) {rest : List Value} (hC : h.get? C = some (excClassObj nm q C N bs bm hdct sn sub ab col dd k0 k1 k2 k3 k5 newId))
    (hq : R (.ok (.ret (.ref (h.objs.size + 1)))) ⟨(h.push { cls := .type "tuple", data := .seq rest.toArray }).push { cls := .ref C, data := .fields #[.ref h.objs.size, .none, .none, .none, .bool false, .none] }, g, d, t, os⟩) (hrest : rest.length ≤ sizeLine) :
    codeAny (model prog w) A (.builtin newId ⟨.ref C :: rest, []⟩) R ⟨h, g, d, t, os⟩ := by
  have hends := F.ends
  have hcB : (Value.ref C :: bm).contains (.type B) = true := by rw [List.contains_cons, T _ _ F.hasB, Bool.or_true]
  have hcA : (Value.ref C :: bm).contains (.type "AttributeError") = false := by rw [List.contains_cons, T _ _ F.noAttr]; rfl
  have hcN : (Value.ref C :: bm).contains (.type "NameError") = false := by rw [List.contains_cons, T _ _ F.noName]; rfl
  refine codeAny_builtinAt F.entry ?_
  unfold Builtin.«BaseException.__new__»
  refine PySem.wpAt_bind ?_
  show PySem.wpAt _ _ _ (stack >>= _) _ _ _
  refine PySem.wpAt_bind (PySem.wpAt_stack fun p below => PySem.wpAt_of_wpAny ?_)
  wp_walk
  refine PySem.wpAt_of_wpAny ?_
  rw [F.owner]
  repeat (first | with_reducible refine wpAny_madeHere_exc F.canon hC ?_ | with_reducible refine wpAny_loadPart_at hC ?_ | (with_reducible refine wpAny_isSubtype_exc hC ?_; first | rw [hcB] | rw [hcA] | rw [hcN]) | wp_step)
  show R _ _
  rw [Heap.size_push]
  exact hq
theorem check_initX (F : ExcBaseFacts B newId initId bmB) (T : ∀ X b, bmB.contains (.type X) = b → bm.contains (.type X) = b) {e : Addr} {oe : Obj} {rest : List Value} {Q : Unit → Shared → Prop}
    (hC : h.get? C = some (excClassObj nm q C N bs bm hdct sn sub ab col dd k0 k1 k2 k3 k5 newId)) (he : h.get? e = some oe) (hcls : oe.cls = .ref C) (hq : Q () ⟨h, g, d, t, os⟩) :
    wpAny M A (checkBuiltinCall initId ⟨.ref e :: rest, []⟩) Q E ⟨h, g, d, t, os⟩ := by
  have hcB : (Value.ref C :: bm).contains (.type B) = true := by rw [List.contains_cons, T _ _ F.hasB, Bool.or_true]
  have hshort := F.noStar
  simp only [checkBuiltinCall, F.initKind, F.initSplit, F.initRow]
  repeat (first | (with_reducible refine wpAny_loadPart_at he ?_; rw [hcls]) | with_reducible refine wpAny_loadPart_at hC ?_ | (with_reducible refine wpAny_isSubtype_exc hC ?_; rw [hcB]) | wp_step)
  refine wpAny_onRaise ?_
  rw [show ∀ (a b : String) (n : Nat), Bind.check ⟨.positional, "*", B, .self, [⟨"args", .varPos, false⟩]⟩ a b n (List.map (fun x => x.fst) ({ pos := Value.ref e :: rest } : Args).kw) = pure () from
    fun a b n => check_star_args _ _ _ _ _ _]
  exact wpAny_pure hq
theorem type_callX (X : K.In h) (F : ExcBaseFacts B newId initId bmB) (T : ∀ X b, bmB.contains (.type X) = b → bm.contains (.type X) = b) {rest : List Value} {fI : Addr} {Q : Fin → Shared → Prop}
    (hC : h.get? C = some (excClassObj nm q C N bs bm hdct sn sub ab col dd k0 k1 k2 k3 k5 newId)) (hi : findIn K (.ref C) "__init__" = some (some (.ref fI))) (hf : typeIn K (.ref fI) = some (.type "function"))
    (hq : ∀ h' e, Heap.MadeExcOf h h' e (.ref C) rest → wpAny (model prog w) A (call (.ref fI) (.ref e :: rest)) (fun r s' => r = .none ∧ Q (.done (.ret (.ref e))) s') E ⟨h', g, d, t, os⟩) (hrest : rest.length ≤ sizeLine) :
    wpAny (model prog w) A (Builtin.«type.__call__» ⟨.ref C :: rest, []⟩) Q E ⟨h, g, d, t, os⟩ := by
  repeat (first | with_reducible refine wpAny_loadPart_at hC ?_ | with_reducible refine wpAny_madeBy_exc hC ?_ | wp_step)
  refine codeAny_call_builtin_code (Code.quiet_builtin _ F.quiet) (check_newX F T hC ?_)
  refine exc_newX F T hC ?_ hrest
  have k2' : ∀ b o, h.get? b = some o → ((h.push { cls := .type "tuple", data := .seq rest.toArray }).push { cls := .ref C, data := .fields #[.ref h.objs.size, .none, .none, .none, .bool false, .none] }).get? b = some o := fun b o e => Heap.get?_push_of_some _ (Heap.get?_push_of_some _ e)
  have hC₁ := k2' _ _ hC
  have X₁ := X.keeps k2'
  have hget : ((h.push { cls := .type "tuple", data := .seq rest.toArray }).push
      { cls := .ref C, data := .fields #[.ref h.objs.size, .none, .none, .none, .bool false, .none] }).get? (h.objs.size + 1) = some
      { cls := .ref C, data := .fields #[.ref h.objs.size, .none, .none, .none, .bool false, .none] } := by heap_get
  have hcC : (Value.ref C :: bm).contains (.ref C) = true := by simp
  unfold isInstance
  repeat (first | with_reducible refine wpAny_loadPart_at hget ?_ | (with_reducible refine wpAny_isSubtype_exc hC₁ ?_; rw [hcC]) | wp_step)
  refine (looks_findIn X₁ hi).here ?_
  refine wpAny_holding (wpAny_bind ((bind_fn X₁ (.ref (h.objs.size + 1)) hf).here ?_))
  refine wpAny_bind (wpAny_mono (hq _ (h.objs.size + 1) ⟨k2', Heap.get?_none_of_le (Nat.le_succ _), h.objs.size, hget, Heap.get?_none_of_le (Nat.le_refl _), ?_⟩) (fun r s' hr => ?_) fun _ _ x => x)
  · exact Heap.get?_push_of_some _ (Heap.get?_push_at rfl rfl)
  · obtain ⟨rfl, hQ⟩ := hr
    wp_walk
    exact hQ
theorem call_excX (X : K.In h) (F : ExcBaseFacts B newId initId bmB) (T : ∀ X b, bmB.contains (.type X) = b → bm.contains (.type X) = b) {rest : List Value} {fI : Addr} {Q : Value → Shared → Prop}
    (hC : h.get? C = some (excClassObj nm q C N bs bm hdct sn sub ab col dd k0 k1 k2 k3 k5 newId)) (hi : findIn K (.ref C) "__init__" = some (some (.ref fI))) (hf : typeIn K (.ref fI) = some (.type "function"))
    (hq : ∀ h' e, Heap.MadeExcOf h h' e (.ref C) rest → wpAny (model prog w) (A.under (.builtin "type.__call__" ⟨.ref C :: rest, []⟩)) (call (.ref fI) (.ref e :: rest)) (fun r s' => r = .none ∧ Q (.ref e) s') E ⟨h', g, d, t, os⟩) (hrest : rest.length ≤ sizeLine) :
    wpAny (model prog w) A (call (.ref C) rest) Q E ⟨h, g, d, t, os⟩ := by
  have f1 := tc_lookup
  have f2 := tc_bind (.ref C)
  have hT : (⟨h, g, d, t, os⟩ : Shared).TypeIs (.ref C) "type" := ⟨_, hC, rfl⟩
  refine wpAny_call (codeAny_of_tree ?_)
  repeat (any_goals (first | assumption | with_reducible refine wpAny_loadPart_at hC ?_ | wp_step))
  refine ⟨rfl, ?_⟩
  refine codeAny_call_builtin_at (Code.quiet_builtin _ (by decide +kernel)) entry_typeCall (wpAny_check_type_call_sub hC (type_callX X F T hC hi hf (fun h' e hm => ?_) hrest))
  exact hq h' e hm
end
section
variable {prog : Program} {w : World} {A : Around} {E : Value → Shared → Prop} {h : Heap} {g : Array GenState} {d : Drawn} {t : Nat} {os : OsState} {K : Frag}
variable {nm q : PySem.Str} {C N x : Addr} {bs bm : List Value} {sn : List PySem.Str} {sub : List Value} {ab : Bool} {col : Option Bool} {dd : Option Addr} {k0 k1 k2 k3 k5 : Option Value} {newId : String}
  {mA : PySem.Str → Option Value} {name : PySem.Str} {v : Value}
theorem check_saX {M : Model} {o : Obj} {nameV : Value} {Q : Unit → Shared → Prop} (ho : bm.contains (.type "object") = true)
    (hC : h.get? C = some (excClassObj nm q C N bs bm true sn sub ab col dd k0 k1 k2 k3 k5 newId)) (hx : h.get? x = some o) (hc : o.cls = .ref C) (hq : Q () ⟨h, g, d, t, os⟩) :
    wpAny M A (checkBuiltinCall "object.__setattr__" ⟨[.ref x, nameV, v], []⟩) Q E ⟨h, g, d, t, os⟩ := by
  have SF := PySem.F.store_object
  have hcB : (Value.ref C :: bm).contains (.type "object") = true := by rw [List.contains_cons, ho, Bool.or_true]
  have ha := SF.args (.ref x) nameV v
  simp only [checkBuiltinCall, SF.kind, SF.split]
  refine wpAny_bind ?_
  unfold isInstance
  repeat (first | (with_reducible refine wpAny_loadPart_at hx ?_; rw [hc]) | (with_reducible refine wpAny_isSubtype_exc hC ?_; rw [hcB]) | wp_step)
  exact hq
theorem store_entryX {tk : Tok} {Q : Fin → Shared → Prop} {ns : List PySem.Str} (X : K.In h)
    (hC : h.get? C = some (excClassObj nm q C N bs bm true sn sub ab col dd k0 k1 k2 k3 k5 newId)) (href : ∀ self, refuseLoop self "__setattr__" (.ref C :: bm) = pure ())
    (hB : findIn K (.ref C) name = some none) (I : h.Inst x C mA)
    (hq : ∀ h' tk', h'.Inst x C (fun y => if y = name then some v else mA y) →
      (∀ b o, b ≠ x → (∀ o₀ dx, h.get? x = some o₀ → o₀.dict = some dx → b ≠ dx) → h.get? b = some o → h'.get? b = some o) →
      (∀ o₀, h.get? x = some o₀ → ∃ o₁, h'.get? x = some o₁ ∧ o₁.cls = o₀.cls ∧ o₁.data = o₀.data ∧ ∃ d1, o₁.dict = some d1 ∧ (o₀.dict = some d1 ∨ (o₀.dict = none ∧ h.get? d1 = none))) → Q (.done (.ret .none)) ⟨h', g, d, tk', os⟩) (hw : Within mA ns) (hsz : ns.length ≤ 100) :
    wpAny (model prog w) A (Builtin.«object.__setattr__» ⟨[.ref x, .str name tk, v], []⟩) Q E ⟨h, g, d, t, os⟩ := by
  refine ob_EAAA I fun o hx hc hnc hd => ?_
  have big : 1000 ≤ sizeLine := by rw [sizeLine_eq]; decide
  unfold Builtin.«object.__setattr__»
  repeat (first | rw [refuse_eq] | rw [href] | (with_reducible refine wpAny_loadPart_at hx ?_; rw [hc]) | with_reducible refine wpAny_mroOf_exc hC ?_ | with_reducible refine (looks_findIn X hB).here ?_ | wp_step)
  rcases hd with ⟨hdn, hmA⟩ | ⟨dx, hdx, hne, hns⟩
  · rw [hdn, if_neg (by simp [typeHasDict])]
    split
    · rename_i hcd
      injection hcd
    split
    · rename_i c hcd
      exact absurd hcd (hnc c)
    · have hx₁ : (h.push { cls := .type "dict", data := .dict #[] }).get? x = some o := Heap.get?_push_of_some _ hx
      have hxs : x ≠ h.objs.size := Nat.ne_of_lt (Heap.lt_size hx)
      refine wpAny_bind (wpAny_alloc' ?_)
      refine wpAny_bind (wpAny_update' hx₁ ?_)
      refine wpAny_pure ?_
      have hgd : ((h.push { cls := .type "dict", data := .dict #[] }).update x fun o => { cls := o.cls, dict := some h.objs.size, data := o.data, slots := o.slots }).get? h.objs.size
          = some { cls := .type "dict", data := .dict #[] } :=
        (Heap.get?_update_ne _ _ _ _ hxs.symm).trans (Heap.get?_push_at rfl rfl)
      have hnd : ((h.push { cls := .type "dict", data := .dict #[] }).update x fun o => { cls := o.cls, dict := some h.objs.size, data := o.data, slots := o.slots }).Ns h.objs.size (fun _ => none) :=
        ⟨_, #[], _, hgd, rfl, fun e he => absurd he (by simp), fun _ => rfl⟩
      unfold storeInDict newKeyGuard
      refine wpAny_bind (wpAny_pure (wpAny_bind (wpAny_nsSet1 (Heap.Ns1.of_empty hnd) fun h' hn' hs => ?_)))
      refine ob_EEEAA (hn'.count (Within.cons name v Within.nil)) fun oD esD epD hoD hdD hcD => ?_
      refine wpAny_bind (wpAny_lookBehind hoD (by rw [hdD]; exact pastItsLine_dict (Nat.le_trans hcD (by simp only [List.length_cons, List.length_nil]; omega))) ?_)
      wp_walk
      have hx' : h'.get? x = some { cls := o.cls, dict := some h.objs.size, data := o.data, slots := o.slots } := ?_
      refine hq h' _ ⟨{ cls := o.cls, dict := some h.objs.size, data := o.data, slots := o.slots }, hx', hc, hnc, .inr ⟨h.objs.size, rfl, hxs.symm, ?_⟩⟩ (fun b ob hbx _ hb => ?_)
        (fun o₀ h₀ => by obtain rfl : o = o₀ := Option.some.inj (hx.symm.trans h₀); exact ⟨_, hx', rfl, rfl, _, rfl, .inr ⟨hdn, Heap.get?_none_of_le (Nat.le_refl _)⟩⟩)
      · refine ob_EEEAAAA hn' fun o' es ep e1 e2 e3 eu e4 => ?_
        exact ⟨o', es, ep, e1, e2, e3, eu, fun y => by rw [e4 y]; by_cases hy : y = name <;> simp [hy, hmA]⟩
      · exact (hs.2 b (Nat.ne_of_lt (Heap.lt_size hb))).trans ((Heap.get?_update_ne _ _ _ _ hbx).trans (Heap.get?_push_of_some _ hb))
      · refine (hs.2 x hxs).trans (Heap.get?_update_self _ hx₁ ?_)
        have hfr := (Heap.get?_some_iff.mp hx).2
        obtain ⟨oc, od, odt, osl⟩ := o
        cases odt <;> first | rfl | exact hfr
  · rw [hdx]
    refine wpAny_pure ?_
    unfold storeInDict newKeyGuard
    refine wpAny_bind (wpAny_pure (wpAny_bind (wpAny_nsSet1 hns fun h' hn' hs => ?_)))
    refine ob_EEEAA (hn'.count (Within.cons name v hw)) fun oD esD epD hoD hdD hcD => ?_
    refine wpAny_bind (wpAny_lookBehind hoD (by rw [hdD]; exact pastItsLine_dict (Nat.le_trans hcD (by rw [List.length_cons]; omega))) ?_)
    wp_walk
    refine hq h' _ ⟨o, (hs.2 x hne.symm).trans hx, hc, hnc, .inr ⟨dx, hdx, hne, hn'⟩⟩ (fun b ob _ hbd hb => ?_)
      (fun o₀ h₀ => ⟨o₀, (hs.2 x hne.symm).trans h₀, rfl, rfl, dx, by rw [hx] at h₀; injection h₀ with z1; subst z1; exact hdx, .inl (by rw [hx] at h₀; injection h₀ with z1; subst z1; exact hdx)⟩)
    exact (hs.2 b (hbd o dx hx hdx)).trans hb
theorem store_attrX {Q : Unit → Shared → Prop} {ns : List PySem.Str} (X : K.In h) (ho : bm.contains (.type "object") = true)
    (hC : h.get? C = some (excClassObj nm q C N bs bm true sn sub ab col dd k0 k1 k2 k3 k5 newId)) (href : ∀ self, refuseLoop self "__setattr__" (.ref C :: bm) = pure ()) (hsa : findIn K (.ref C) "__setattr__" = some (some (.builtin "object.__setattr__")))
    (hB : findIn K (.ref C) name = some none) (I : h.Inst x C mA)
    (hq : ∀ h' tk', h'.Inst x C (fun y => if y = name then some v else mA y) →
      (∀ b o, b ≠ x → (∀ o₀ dx, h.get? x = some o₀ → o₀.dict = some dx → b ≠ dx) → h.get? b = some o → h'.get? b = some o) →
      (∀ o₀, h.get? x = some o₀ → ∃ o₁, h'.get? x = some o₁ ∧ o₁.cls = o₀.cls ∧ o₁.data = o₀.data ∧ ∃ d1, o₁.dict = some d1 ∧ (o₀.dict = some d1 ∨ (o₀.dict = none ∧ h.get? d1 = none))) → Q () ⟨h', g, d, tk', os⟩) (hw : Within mA ns) (hsz : ns.length ≤ 100) :
    wpAny (model prog w) A (setAttr (.ref x) name v) Q E ⟨h, g, d, t, os⟩ := by
  have SF := PySem.F.store_object
  refine ob_EAA (id I) fun o hx hc _u => ?_
  have f3 := SF.slot.bind (.ref x)
  unfold setAttr callSpecial? specialOf
  repeat (any_goals (first | assumption | (with_reducible refine wpAny_loadPart_at hx ?_; rw [hc]) | with_reducible refine (looks_findIn X hsa).here ?_ | wp_step))
  refine codeAny_call_builtin SF.slot.plain SF.entry (check_saX ho hC hx hc (store_entryX X hC href hB I (fun h' tk' I' hk hsame => ?_) hw hsz))
  repeat (any_goals (first | assumption | wp_step))
  exact hq h' tk' I' hk hsame
end
section
variable {M : Model} {prog : Program} {w : World} {A : Around} {E : Value → Shared → Prop} {s : Shared} {penv : Env} {K : Frag}
theorem method_exc {pl : Sem Bool} {Q : Value × List Value → Shared → Prop} (X : K.In s.heap) (h : Q (.builtin "Exception.__init__", []) { s with toks := s.toks + 1 }) : wpAny (model prog w) A (getMethod (.type "Exception") "__init__" pl) Q E s := by
  have hstub : opaqueClassAbove (.type "Exception") = pure none := by unfold opaqueClassAbove; dsimp only; rw [show Manifest.isStub "Exception" = false by decide +kernel]; rfl
  have L0 : Looks (model prog w) s.heap (typeOf (.type "Exception")) (.type "type") := Looks.of_pure (by kernel_rfl)
  have hg : findIn K (.type "type") "__getattribute__" = some (some (.builtin "type.__getattribute__")) := type_tga
  have fc : findCls K (.type "Exception") (.type "type") "__init__" = some (.val (.builtin "Exception.__init__")) := by kernel_rfl
  unfold getMethod specialOf
  refine wpAny_bind (wpAny_bind (L0.here ((looks_findIn X hg).here ?_)))
  dsimp only
  rw [if_pos canon_tga]
  refine wpAny_bind (wpAny_mono (Q := fun v => Q (v, [])) (E := E) ?_ (fun _ _ z => wpAny_pure z) fun _ _ z => z)
  refine cls_open X (Looks.of_pure hstub) L0 hg (looks_hook X (r := none) (by rfl)) (by show subIn K _ _ = _; rfl) fc (wpAny_pure ?_)
  show wpAny _ _ (handedOut (.builtin "Exception.__init__")) _ _ _
  rw [handedOut_of (by decide +kernel)]
  exact wpAny_pure h
end
section
variable {M : Model} {prog : Program} {w : World} {A : Around} {E : Value → Shared → Prop} {h : Heap} {g : Array GenState} {d : Drawn} {t : Nat} {os : OsState} {K : Frag}
variable {nm q : PySem.Str} {C N : Addr} {bs bm bmB : List Value} {hdct : Bool} {sn : List PySem.Str} {sub : List Value} {ab : Bool} {col : Option Bool} {dd : Option Addr} {k0 k1 k2 k3 k5 : Option Value} {B newId initId : String}
theorem exc_init (F : ExcBaseFacts B newId initId bmB) (T : ∀ X b, bmB.contains (.type X) = b → bm.contains (.type X) = b) {e : Addr} {o : Obj} {vs : Array Value} {rest : List Value} {Q : Value → Shared → Prop}
    (hC : h.get? C = some (excClassObj nm q C N bs bm hdct sn sub ab col dd k0 k1 k2 k3 k5 newId)) (he : h.get? e = some o) (hcls : o.cls = .ref C) (hd : o.data = .fields vs) {t0 : Addr} (h0 : vs[0]? = some (.ref t0)) (hrest : rest.length ≤ sizeLine)
    (hq : ∀ h', (∀ b ob, h.get? b = some ob → b ≠ e → h'.get? b = some ob) → (∃ o', h'.get? e = some o' ∧ o'.cls = .ref C ∧ o'.dict = o.dict ∧ ∃ x, o'.data = .fields (vs.setIfInBounds 0 x)) → Q .none ⟨h', g, d, t, os⟩) :
    wpAny (model prog w) A (call (.builtin initId) (.ref e :: rest)) Q E ⟨h, g, d, t, os⟩ := by
  refine wpAny_call (codeAny_call_builtin F.init.plain F.initEntry (check_initX F T hC he hcls ?_))
  unfold Builtin.«BaseException.__init__»
  dsimp only
  simp only [List.isEmpty_nil, Bool.not_true, Bool.false_eq_true, if_false]
  refine wpAny_bind (wpAny_newTuple ?_ hrest)
  have he₁ := Heap.get?_push_of_some (h := h) { cls := .type "tuple", data := .seq rest.toArray } he
  have hsz : 0 < vs.size := (Array.getElem?_eq_some_iff.mp h0).1
  refine wpAny_bind (wpAny_bind (wpAny_field he₁ hd h0 (wpAny_bind (wpAny_setField he₁ hd hsz ?_))))
  dsimp only
  refine wpAny_letGo (wpAny_pure ?_)
  show Q .none _
  have hd₂ := Obj.data_mapFields hd (·.setIfInBounds 0 (Value.ref h.objs.size))
  refine hq _ (fun b ob eb nb => ?_) ⟨_, Heap.get?_update_self _ he₁ (Obj.isFreed_of_fields hd₂), (Obj.cls_mapFields ..).trans hcls, ?_, _, hd₂⟩
  · rw [Heap.get?_update_other _ _ (Ne.symm nb)]
    exact Heap.get?_push_of_some _ eb
  · obtain ⟨a, b, c, dd⟩ := o
    cases c <;> rfl
end
end
end Mine
namespace Mine
open PySem PyProof.Rows PySem.W
open PySem.Builtin
noncomputable section
theorem callWith_A {M : Model} {A : Around} {E : Value → Shared → Prop} {s : Shared} {pos : Pos} {f : Value} {first : List Value} {ts : List (Bool × Sem Value)} {Q : Value → Shared → Prop} (hs : ts.any (·.1) = false) (h : wpAny M A (PySem.spliced ts) (fun vs s₁ => Kept M s₁.heap f ∧ wpAny M A (call f (first ++ vs)) Q E s₁) E s) :
    wpAny M A (callWith pos f first ts []) Q E s := by
  unfold callWith
  rw [evalArgs_eq f hs, hs]
  refine wpAny_bind (wpAny_holding (wpAny_bind (wpAny_mono h (fun vs s₁ h₁ => wpAny_bind (wpAny_pure (wpAny_holding (wpAny_pure (wpAny_bind (wpAny_standAt ?_)))))) fun _ _ x => x)))
  obtain ⟨⟨k, hk, L⟩, hc⟩ := h₁
  refine wpAny_bind (L.here ?_)
  have tail : ∀ {t : Sem Value}, wpAny M A t Q E s₁ → wpAny M A (t >>= fun r => PySem.holding [r] point >>= fun _ => pure r) Q E s₁ :=
    fun ht => wpAny_bind (wpAny_mono ht (fun r s₂ hr => wpAny_bind (wpAny_holding (wpAny_point (wpAny_pure hr)))) fun _ _ x => x)
  rcases hk with rfl | rfl
  · show wpAny M A (if ts.length + 2 * ([] : List (Option Str × Sem Value)).length > 30 then call f (first ++ vs) [] >>= _ else callMarked plainCall f (first ++ vs) [] >>= _) _ _ _
    split
    · exact tail hc
    · exact tail (by unfold callMarked; exact fun Γ p hΓ => by rw [Sem.wp_keep]; exact hc Γ p hΓ)
  · exact tail hc
abbrev sSelf : Str := "self"
abbrev sWhat : Str := "what"
abbrev sAt : Str := "at"
abbrev sExc : Str := "Exception"
structure InitOk (base : Heap) (K : Frag) (fI : Addr) : Prop where
  fd : ∃ o fd body, base.get? fI = some o ∧ o.data = .func fd ∧ fd.scope.kind = .function ∧ fd.scope.isCoroutine = false ∧ fd.scope.isGenerator = false ∧ fd.body = .stmts body ∧ base.CodeRec fd.code fd.qualname ∧
    fd.globals = mainGlobals ∧ fd.builtins = builtinsNs ∧ (∀ x ∈ fd.scope.names, x.2 ≠ .cell) ∧ fd.scope.names.lookup sSelf = some .local ∧ fd.scope.names.lookup sWhat = some .local ∧ fd.scope.names.lookup sAt = some .local ∧ fd.scope.names.lookup sExc = some .globalImplicit ∧
    (∃ p0 p1 p2 p3 p4 p5 p6 p7 p8 p9 q0 q1 q2 q3, p1.endLine = p4.line ∧ body = [.Expr (.Call (.Attribute (.Name sExc p0) "__init__" p1) [.Name sSelf p2, .Name sWhat p3] [] p4) p5, .Assign [.Attribute (.Name sSelf p6) sWhat p7] (.Name sWhat p8) p9, .Assign [.Attribute (.Name sSelf q0) sAt q1] (.Name sAt q2) q3]) ∧
    (∀ s a b, K.In s.heap → ∃ t, BindsTo s fd ⟨[a, b], []⟩ [(sSelf, a), (sWhat, b), (sAt, .int (-1) t)]) ∧ ∀ s a b c, K.In s.heap → BindsTo s fd ⟨[a, b, c], []⟩ [(sSelf, a), (sWhat, b), (sAt, c)]
  exc : ∃ mg mb, base.Ns mainGlobals mg ∧ base.Ns builtinsNs mb ∧ mg sExc = none ∧ mb sExc = some (.type "Exception")
section
variable {prog : Program} {w : World} {A : Around} {E : Value → Shared → Prop} {base : Heap} {K : Frag} {s : Shared} {h : Heap}
variable {nm' q' : PySem.Str} {C N : Addr} {bs bm bmB : List Value} {sn : List PySem.Str} {sub : List Value} {ab : Bool} {col : Option Bool} {dd : Option Addr} {k0 k1 k2 k3 k5 : Option Value}
theorem init_run {fI : Addr} (X : K.In base) (lim : base.NoLimit) (I : InitOk base K fI) (T : ∀ X b, excTail.contains (.type X) = b → bm.contains (.type X) = b) (href : ∀ self, refuseLoop self "__setattr__" (.ref C :: bm) = pure ())
    (hC : base.get? C = some (excClassObj nm' q' C N bs bm true sn sub ab col dd k0 k1 k2 k3 k5 "Exception.__new__")) (seta : findIn K (.ref C) "__setattr__" = some (some (.builtin "object.__setattr__"))) (whatN : findIn K (.ref C) "what" = some none) (atN : findIn K (.ref C) "at" = some none)
    (dp : A.depth < 1000) {e t : Addr} (st : base.StaysIn s.heap) (he : s.heap.get? e = some { cls := .ref C, data := .fields #[.ref t, .none, .none, .none, .bool false, .none] }) (nb : base.get? e = none) {xs : List Value} {a b : Value} (hx : xs = [a] ∨ xs = [a, b]) {Q : Value → Shared → Prop}
    (H : ∀ h' tk', (∀ b o, s.heap.get? b = some o → b ≠ e → h'.get? b = some o) → (∃ o vs a0, h'.get? e = some o ∧ o.cls = .ref C ∧ o.data = .fields vs ∧ vs[0]? = some a0 ∧ vs[1]? = some .none) → Q .none { s with heap := h', toks := tk' }) :
    wpAny (model prog w) A (call (.ref fI) (.ref e :: xs)) Q E s := by
  refine ob_EEEAAAAAAAAAAAAAAAA I.fd fun o fd body ho hd hk hco hgen hbody hcd hgl hbi hcell lS lW lA lE z1 bind2 bind3 => ?_; refine ob_EEEEEEEEEEEEEEA z1 fun p0 p1 p2 p3 p4 p5 p6 p7 p8 p9 q0 q1 q2 q3 hln z1 => ?_; subst z1
  refine ob_EEAAA I.exc fun mg mb hmg hmb hg1 hb1 => ?_
  have main : ∀ c, BindsTo s fd ⟨.ref e :: xs, []⟩ [(sSelf, .ref e), (sWhat, a), (sAt, c)] → wpAny (model prog w) A (call (.ref fI) (.ref e :: xs)) Q E s := fun c hB => by
    refine wpAny_call (codeAny_call_def dp (st _ _ ho) hd (lim.keeps st) (hcd.keeps st) hbody hB hcell (fun x m => ?_) (fun h₀ hns k₀ => ?_) hco hgen hk)
    · rcases List.mem_cons.mp m with rfl | m
      · exact lS
      · rcases List.mem_cons.mp m with rfl | m
        · exact lW
        · rw [List.mem_singleton.mp m]; exact lA
    · have L0 : s.heap.get? s.heap.objs.size = none := Heap.get?_none_of_le (Nat.le_refl _)
      refine ob_E (show ∃ env, env = callEnv fd s.heap.objs.size fI from ⟨_, rfl⟩) fun env henv => ?_
      rw [← henv]
      have eL : env.locals = s.heap.objs.size := by rw [henv]; rfl
      have esc : env.scope = fd.scope := by rw [henv]; rfl
      have egl : env.globals = mainGlobals := by rw [henv]; exact hgl
      have ebi : env.builtins = builtinsNs := by rw [henv]; exact hbi
      have efn : env.scope.kind = .function := by rw [esc]; exact hk
      have kind : ∀ {x k}, fd.scope.names.lookup x = some k → env.kindOf x = some k := fun h => by
        show env.scope.names.lookup _ = _
        rw [esc, h]
      rw [← eL] at hns
      generalize hm : (fun x => [(sSelf, Value.ref e), (sWhat, a), (sAt, c)].reverse.lookup x) = m at hns
      have mS : m sSelf = some (.ref e) := by rw [← hm]; rfl
      have mW : m sWhat = some a := by rw [← hm]; rfl
      have mA : m sAt = some c := by rw [← hm]; rfl
      have nameA : ∀ {x : PySem.Str} {v} {q : Pos} {s1 : Shared} {A1 : Around} {Q : Value → Shared → Prop} {E : Value → Shared → Prop}, fd.scope.names.lookup x = some .local → s1.heap.Ns env.locals m → m x = some v → (x == ("__debug__" : PySem.Str)) = false → Q v s1 → wpAny (model prog w) A1 (eval (.Name x q) env) Q E s1 :=
        fun hl hn hv hd hq => wpAny_Name (wpAny_loadName_local efn (kind hl) hn hv hq) hd
      have eNL : e ≠ env.locals := fun q => by rw [q, eL, L0] at he; injection he
      have st0 : base.StaysIn h₀ := fun b o eb => k₀ b o (st b o eb)
      have he0 := k₀ _ _ he
      have hi : interactive env = false := by unfold interactive; rw [efn]; rfl
      rw [arm_execs_cons, PySem.exec_Expr (env := env) _ _ hi rfl]
      refine wpAny_bind (wpAny_bind (wpAny_standAt (wpAny_bind ?_)))
      rw [arm_eval_Call, attributeBase_no rfl]
      refine wpAny_bind (Calls.Name_function_global efn (kind lE) (Calls.loadGlobal_builtin (by rw [egl]; exact hmg.keeps st0) hg1 (by rw [ebi]; exact hmb.keeps st0) hb1 ?_) (by decide))
      refine wpAny_bind (wpAny_standAt ?_)
      unfold methodCall
      rw [show methodCallForm _ (backTo p4 (starEach [.Name sSelf p2, .Name sWhat p3] env)) (backToKw p4 (keywordEach [] env)) = true from rfl]
      refine wpAny_bind (wpAny_holding (method_exc (K := K) (X.keeps st0) ?_))
      dsimp only
      rw [show methodCallPos true (.Name sExc p0) env p1 p4 = pure p4 from by unfold methodCallPos; rw [hln, beq_self_eq_true]; rfl]
      refine wpAny_bind (wpAny_pure (callWith_A rfl ?_))
      show wpAny _ _ (PySem.spliced [(false, eval (.Name sSelf p2) env), (false, eval (.Name sWhat p3) env)]) _ _ _
      refine Calls.spliced_cons (nameA lS hns mS (by decide) (Calls.spliced_cons (nameA lW hns mW (by decide) (Calls.spliced_nil ⟨⟨.machine, .inr rfl, Looks.of_pure rfl⟩, ?_⟩))))
      refine exc_init PySem.F.excBase_Exception T (st0 _ _ hC) he0 rfl rfl (t0 := t) rfl (by show 1 ≤ sizeLine; decide) fun h1 k1 he1 => ?_
      refine ob_EAAAE he1 fun o1 he1 hc1 hd1 x1 hx1 => ?_
      refine wpAny_dropValue ?_
      have st1 : base.StaysIn h1 := fun b o eb => k1 b o (st0 b o eb) fun q => by rw [q, nb] at eb; injection eb
      have ns1 : h1.Ns env.locals m := hns.at fun o eo => k1 _ o eo (Ne.symm eNL)
      have oh : bm.contains (.type "object") = true := T _ _ (by decide)
      have asg : ∀ {x : PySem.Str} {v : Value} {p1 p2 p3 p4 : Pos} {s1 : Shared} {A1 : Around} {Q : Flow → Shared → Prop} {E : Value → Shared → Prop}, fd.scope.names.lookup x = some .local → s1.heap.Ns env.locals m → m x = some v → (x == ("__debug__" : PySem.Str)) = false →
          wpAny (model prog w) A1 (setAttr (.ref e) x v) (fun _ s' => Q .next s') E s1 → wpAny (model prog w) A1 (exec (.Assign [.Attribute (.Name sSelf p1) x p2] (.Name x p3) p4) env) Q E s1 := fun hl hn hv hdb hs => by
        rw [arm_exec_Assign]
        refine wpAny_bind (wpAny_standAt (wpAny_bind (wpAny_of_eq (a := false) rfl ?_)))
        rw [if_neg Bool.false_ne_true]
        refine wpAny_bind (nameA hl hn hv hdb (wpAny_bind (wpAny_of_eq (a := none) rfl ?_)))
        show wpAny _ _ (assign (.Attribute (.Name sSelf _) _ _) env _ >>= fun _ => (pure Flow.next : Sem Flow)) _ _ _
        rw [arm_assign_Attribute]
        refine wpAny_bind (wpAny_bind (wpAny_holding (nameA lS hn mS (by decide) (wpAny_bind (wpAny_standAt (wpAny_bind (wpAny_holding (wpAny_mono hs (fun _ s' hq => ?_) fun _ _ x => x))))))))
        exact fun Γ p hΓ => by rw [Sem.wp_release]; exact wpAny_pure hq
      dsimp only
      rw [arm_execs_cons]
      refine wpAny_bind (asg (s1 := { s with heap := h1, toks := _ }) lW ns1 mW (by decide) ?_)
      have nc : ∀ {vs : Array Value} {c : ClassData}, Data.fields vs ≠ Data.cls c := fun q => nomatch q
      refine store_attrX (mA := fun _ => none) (ns := []) (X.keeps st1) oh (st1 _ _ hC) href seta whatN ⟨o1, he1, hc1, fun c => by rw [hx1]; exact nc, .inl ⟨hd1, fun _ => rfl⟩⟩ (fun h2 tk2 I2 k2 sm2 => ?_) Within.nil (by decide)
      have k2' : ∀ b o, h1.get? b = some o → b ≠ e → h2.get? b = some o := fun b o eb ne => k2 b o ne (fun o₀ dx e0 e1 => by rw [he1] at e0; injection e0 with z1; subst z1; rw [hd1] at e1; injection e1) eb
      refine ob_EAAAEA (sm2 o1 he1) fun o2 he2 hc2 hdd2 d2 hdk2 hdn2 => ?_
      have fr2 : h1.get? d2 = none := by
        rcases hdn2 with q | q
        · rw [hd1] at q; injection q
        · exact q.2
      have st2 : base.StaysIn h2 := fun b o eb => k2' b o (st1 b o eb) fun q => by rw [q, nb] at eb; injection eb
      have ns2 : h2.Ns env.locals m := ns1.at fun o eo => k2' _ o eo (Ne.symm eNL)
      dsimp only
      rw [arm_execs_cons]
      refine wpAny_bind (asg (s1 := { s with heap := h2, toks := _ }) lA ns2 mA (by decide) ?_)
      refine store_attrX (X.keeps st2) oh (st2 _ _ hC) href seta atN I2 (fun h3 tk3 I3 k3 sm3 => ?_) (Within.cons _ a Within.nil) (by decide)
      dsimp only
      rw [arm_execs_nil]
      refine ob_EAAA (sm3 o2 he2) fun o3 he3 hc3 hdd3 _u => ?_
      refine wpAny_pure (H h3 tk3 (fun b o eb ne => ?_) ⟨o3, _, x1, he3, hc3.trans (hc2.trans hc1), hdd3.trans (hdd2.trans hx1), by simp, by simp⟩)
      have e1 := k1 b o (k₀ b o eb) ne
      refine k3 b o ne (fun o₀ dx e0 e2 => ?_) (k2' b o e1 ne)
      rw [he2] at e0; injection e0 with z1; subst z1
      rw [hdk2] at e2; injection e2 with z1; subst z1
      intro q; rw [q, fr2] at e1; injection e1
  rcases hx with rfl | rfl
  · refine ob_E (bind2 s (.ref e) a (X.keeps st)) fun t hB => ?_
    exact main _ hB
  · exact main _ (bind3 s (.ref e) a b (X.keeps st))
end
end
end Mine
namespace Mine
open PySem PyProof.Rows PySem.W
open PySem.Builtin
noncomputable section
section
variable {M : Model} {A : Around} {E : Value → Shared → Prop} {env : Env}
theorem raiseStmt_C {s : Shared} {x : Sem Value} {Q : Flow → Shared → Prop} (hh : A.handled = none)
    (h : wpC M A x (fun v s₁ => ∃ e oe vs C nm q N bs bm hdct sn sub ab col dd k0 k1 k2 k3 k5 newId, List.contains bm (Value.type "BaseException") = true ∧ v = .ref e ∧ s₁.heap.get? C = some (excClassObj nm q C N bs bm hdct sn sub ab col dd k0 k1 k2 k3 k5 newId) ∧
      s₁.heap.get? e = some oe ∧ oe.cls = .ref C ∧ oe.data = .fields vs ∧ vs[1]? = some .none ∧ E (.ref e) s₁) E s) :
    wpC M A (raiseStmt env (some x) none) Q E s := by
  unfold raiseStmt
  refine wpC_bind (wpC_monoQ h fun v s₁ h₁ => ?_)
  refine ob_EEEEEE h₁ fun e oe vs C nm q g1 => ob_EEEEEE g1 fun N bs bm hdct sn sub g2 => ob_EEEEEE g2 fun ab col dd k0 k1 k2 g3 => ob_EEE g3 fun k3 k5 newId g4 => ob_AAAAAAA g4 fun hbase z1 hC he hc hd h1 hE => ?_; subst z1
  have hcB : (Value.ref C :: bm).contains (.type "BaseException") = true := by rw [List.contains_cons, hbase, Bool.or_true]
  obtain ⟨hp, g, d, tk, os⟩ := s₁
  refine wpC_of ?_
  repeat (first | (with_reducible refine wpAny_loadPart_at he ?_; rw [hc]) | with_reducible refine wpAny_loadPart_at hC ?_ | (with_reducible refine wpAny_isSubtype_exc hC ?_; rw [hcB]) | wp_step)
  rw [hd]
  refine wpAny_pure ?_
  rw [h1]
  refine wpAny_pure ?_
  rw [if_neg (by decide)]
  exact wpAny_pure (wpAny_raiseNew_none hh hE)
end
section
variable {S : Type} {C : Cst S} {F : Fr} {n : Nat} {penv : Env} {env : MEnv} {W W' W'' W0 : Wd S} {ih : SemF S} {h₀ : Heap}
variable (C) in
structure ExcG : Prop where
  g : ∀ a ci, C.P.cls a = some ci → ci.exc = true → ExcOk C.base C.K a ci
  i : ∀ a ci, C.P.cls a = some ci → ci.exc = true → InitOk C.base C.K ci.init
variable (C) in
def RX (W0 : Wd S) : Rl S V Value := fun W v y => ∃ X e, v = .ref X ∧ y = .ref e ∧ W0.h.get? e = none ∧ (∃ ci, C.P.cls X = some ci ∧ ci.exc = true) ∧ ∃ a0 oe vs, W.h.get? e = some oe ∧ oe.cls = .ref X ∧ oe.data = .fields vs ∧ vs[0]? = some a0 ∧ vs[1]? = some .none
theorem isT1_cases {vs : List V} {ws : List Value} (h : isT1 vs = true) (r : VVL C W vs ws) : ∃ a b, (ws = [a] ∨ ws = [a, b]) := by
  have e := VRL.length r
  rcases vs with _ | ⟨v, _ | ⟨u, _ | _⟩⟩
  · injection h
  · rcases ws with _ | ⟨a, _ | _⟩ <;> first | exact ⟨a, a, .inl rfl⟩ | cases e
  · rcases ws with _ | ⟨a, _ | ⟨b, _ | _⟩⟩ <;> first | exact ⟨a, b, .inr rfl⟩ | cases e
  · cases v <;> first | injection h | (cases u <;> injection h)
theorem exc_call (O : Okay C) (G : ExcG C) (hA : AOk F n) {X : Addr} {ci : CI} (hc : C.P.cls X = some ci) (hce : ci.exc = true) (z : Fut C F [] W0 W) {vs : List V} {ws : List Value} (r : VVL C W vs ws) :
    Run C F W (call (.ref X) ws) (gd (isT1 vs) (.ok (V.ref X) W.σ)) (RX C W0) := .gd fun h1 => .grow fun T Q E p => by
  have g := G.g X ci hc hce
  refine ob_EEEEEEEEEEEEEEEAA g.obj fun nm' qq N bs bm sn sub ab col dd k0 k1 k2 k3 k5 hC hbm href => ?_
  refine ob_EE (isT1_cases h1 r) fun a b hx => ?_
  have hl : ws.length ≤ sizeLine := by
    rcases hx with rfl | rfl
    · exact (show 1 ≤ sizeLine by decide)
    · exact (show 2 ≤ sizeLine by decide)
  have dp := hA.dp
  refine call_excX (h := W.h) (T.inK O) PySem.F.excBase_Exception hbm (T.stays _ _ hC) g.init g.initf (fun h3 e M3 => ?_) hl
  refine ob_EAA M3.there fun t hge htn ht => ?_
  have nb : C.base.get? e = none := by
    cases q : C.base.get? e with
    | none => rfl
    | some o => exact nomatch M3.new.symm.trans (T.stays _ _ q)
  have st3 : C.base.StaysIn h3 := fun b o eb => M3.keeps b o (T.stays b o eb)
  refine init_run (s := C.sh h3 W.tk) (C := X) O.X O.lim (G.i X ci hc hce) hbm href hC g.seta g.whatN g.atN (show F.A.depth + 1 < 1000 by omega) st3 hge nb hx fun h4 tk4 k4 he4 => ⟨rfl, ?_⟩
  refine ob_EEEAAAA he4 fun oe vs a0 he4 hc4 hd4 v0 v1 => ?_
  exact p (.ref e) h4 tk4 (fun b o eb => k4 b o (M3.keeps b o eb) fun q => by rw [q, M3.new] at eb; injection eb) ⟨X, e, rfl, rfl, z.dom.down M3.new, ⟨ci, hc, hce⟩, a0, oe, vs, he4, hc4, hd4, v0, v1⟩
theorem raise_st (O : Okay C) (G : ExcG C) (hE : EvOk C ih n) (H : HereS C F penv n env W) (f : Str) (q : Pos) (as : List PySem.Expr) (p1 p2 : Pos) : St1 C F penv W ih env (.Raise (some (.Call (.Name f q) as [] p1)) none p2) := .kS fun hs => by
  refine .of (arm_exec_Raise ..) (.stand ⟨fun T Q E p => ?_⟩)
  have hr : Run C F W ((eval (.Name f q) penv >>= fun f => callWith p1 f [] (backTo p1 (starEach as penv)) []) >>= fun v => standAt p2 >>= fun _ => pure v) (rb (ih.ev env W.σ (.Name f q)) fun fv s => vR .bad (fun X => gd (isExc C.P X) (evL as ih env s fun vs s => gd (isT1 vs) (.ok (V.ref X) s))) (fun _ => .bad) fv) (RX C W) := by
    refine .assoc ((hE F W penv env _ H.H).bind fun W1 v y z r => ?_)
    cases v <;> first | exact .bad | skip
    rename_i X
    refine .gd fun hx => ?_
    refine ob_EA (oo_true hx) fun ci hci hce => ?_
    have z0 := (show y = _ from r); subst z0
    refine (callWith_run (R := RX C W) (first := []) (f := .ref X) (g := fun vs s => gd (isT1 vs) (.ok (V.ref X) s)) hE p1 hs (H.on z).H fun W2 vs ws z2 r2 => ⟨kept_K (O.X.keeps z2.S1.stays) (G.g X ci hci hce).keepf, exc_call O G H.H.A hci hce (z.trans z2) r2⟩).tail fun W3 v3 y3 z3 r3 => .stand (.pure r3)
  refine raiseStmt_C H.H.A.hd (hr.go T _ E ?_)
  change EnS C F penv W (Mine.re env (rb (ih.ev env W.σ (.Name f q)) fun fv s => vR .bad (fun X => gd (isExc C.P X) (evL as ih env s fun vs s => gd (isT1 vs) (.ok (V.ref X) s))) (fun _ => .bad) fv) fun v s => vR .bad (fun C => .exc C ⟨env, s⟩) (fun _ => .bad) v) Q E at p
  cases he : (rb (ih.ev env W.σ (.Name f q)) fun fv s => vR .bad (fun X => gd (isExc C.P X) (evL as ih env s fun vs s => gd (isT1 vs) (.ok (V.ref X) s))) (fun _ => .bad) fv) with
  | bad => rw [he] at p; exact p
  | exc X s => rw [he] at p; exact fun W1 ev es z x => p W1 ev es (z.frame (H.on z).H.R) (H.on z).H.R x.xs
  | ok v s =>
    rw [he] at p
    intro W1 y es z ⟨X, e, hv, hy, ne, ⟨ci, hci, hce⟩, a0, oe, vs, he4, hc4, hd4, v0, v1⟩
    subst hv
    refine ob_EEEEEEEEEEEEEEEAA ((G.g X ci hci hce).obj) fun nm' qq N bs bm sn sub ab col dd k0 k1 k2 k3 k5 hC hbm _u => ?_
    exact ⟨e, oe, vs, X, nm', qq, N, bs, bm, true, sn, sub, ab, col, dd, k0, k1, k2, k3, k5, _, hbm _ _ (by decide), hy, z.S1.stays _ _ hC, he4, hc4, hd4, v1, p W1 e es (z.frame (H.on z).H.R) (H.on z).H.R ⟨ne, .inl ⟨a0, oe, vs, he4, hc4, hd4, v0, v1⟩⟩⟩
end
end
end Mine
namespace Mine
open PySem PyProof.Rows PySem.W
open PySem.Builtin
noncomputable section
def BR (p : Mp) (h : Heap) (ι : Io) (vars : List (Nat × V)) : List (Str × Value) → Prop := List.rec (motive := fun _ => List (Str × Value) → Prop) (fun l => l = [])
  (fun e _ q l => List.rec (motive := fun _ => Prop) False (fun b r _ => kc b.1 = e.1 ∧ VR p h ι e.2 b.2 ∧ q r) l) vars
structure FnOk (p : Mp) (base : Heap) (K : Frag) (a : Addr) (fi : FI) : Prop where
  fd : ∃ o fd, base.get? a = some o ∧ o.data = .func fd ∧ fd.scope.kind = .function ∧ fd.scope.isCoroutine = false ∧ fd.scope.isGenerator = false ∧ fd.body = .stmts fi.body ∧ base.CodeRec fd.code fd.qualname ∧ fd.closure = [] ∧
    fd.globals = mainGlobals ∧ fd.builtins = builtinsNs ∧ fd.scope.names = fi.sc ∧
    ∀ s ι args xs vars, K.In s.heap → VRL p s.heap ι args xs → bpF fi.ps fi.dflt args = some vars → ∃ binds, BindsTo s fd ⟨xs, []⟩ binds ∧ BR p s.heap ι vars binds
  kinds : ∀ x ∈ fi.ps, fi.sc.lookup x = some .local ∨ fi.sc.lookup x = some .cell
  apart : fi.ps.Nodup
  gr : vGL fi.dflt = true
section
variable {p : Mp} {h : Heap} {ι : Io}
theorem BR.mem (vars : List (Nat × V)) : ∀ {binds : List (Str × Value)} {x : Str} {v : V}, BR p h ι vars binds → luk vars (kc x) = some v → ∃ y, (x, y) ∈ binds ∧ VR p h ι v y := by
  induction vars with
  | nil => exact fun _ e => nomatch e
  | cons e vars ih =>
    intro binds x v b q
    cases binds with
    | nil => exact b.elim
    | cons c binds =>
      refine ob_AA b fun b1 b2 b3 => ?_
      change bt (Nat.beq e.1 (kc x)) (some e.2) (luk vars (kc x)) = some v at q
      cases hb : Nat.beq e.1 (kc x) with
      | true =>
        rw [hb] at q; injection q with z1; subst z1
        have z0 := kc_inj (b1.trans (Nat.eq_of_beq_eq_true hb)); subst z0
        exact ⟨c.2, .head _, b2⟩
      | false =>
        rw [hb] at q
        refine ob_EA (ih b3 q) fun y m r => ?_
        exact ⟨y, .tail _ m, r⟩
theorem BR.names (vars : List (Nat × V)) : ∀ {binds : List (Str × Value)} {ps : List Str}, BR p h ι vars binds → vars.map (·.1) = ps.map kc → binds.map (·.1) = ps := by
  induction vars with
  | nil => intro binds ps b e; rw [show binds = [] from b]; cases ps <;> first | rfl | injection e
  | cons e vars ih =>
    intro binds ps b q
    cases binds with
    | nil => exact b.elim
    | cons c binds =>
      refine ob_AA b fun b1 _u b3 => ?_
      cases ps with
      | nil => injection q
      | cons y ps =>
        refine ob_A (List.cons.inj q) fun q1 q2 => ?_
        rw [List.map_cons, ih b3 q2, kc_inj (b1.trans q1)]
theorem bpF_names {d : List V} (ps : List Str) : ∀ {vs : List V} {vars : List (Nat × V)}, bpF ps d vs = some vars → vars.map (·.1) = ps.map kc := by
  induction ps with
  | nil => intro vs vars e; cases vs with | nil => (injection e with z1; subst z1); rfl | cons _ _ => injection e
  | cons x xs ih =>
    intro vs vars e
    cases vs with
    | nil =>
      cases xs with
      | cons _ _ => injection e
      | nil => rcases d with _ | ⟨v, _ | _⟩ <;> cases e; rfl
    | cons v vs =>
      refine ob_EA (oo_some (show oo none (fun r => some ((kc x, v) :: r)) (bpF xs d vs) = some vars from e)) fun r e1 e => ?_
      injection e with z1; subst z1
      exact congrArg (kc x :: ·) (ih e1)
theorem bpF_gr {d : List V} (gd : vGL d = true) (ps : List Str) : ∀ {vs : List V} {vars : List (Nat × V)}, bpF ps d vs = some vars → vGL vs = true → ∀ {x v}, luk vars x = some v → vG v = true := by
  induction ps with
  | nil => intro vs vars e; cases vs with | nil => (injection e with z1; subst z1); exact fun _ _ _ q => nomatch q | cons _ _ => injection e
  | cons y ys ih =>
    intro vs vars e g x v q
    cases vs with
    | nil =>
      cases ys with
      | cons _ _ => injection e
      | nil =>
        rcases d with _ | ⟨u, _ | _⟩ <;> cases e
        change bt (Nat.beq (kc y) x) (some u) none = some v at q
        cases hb : Nat.beq (kc y) x with
        | true => rw [hb] at q; injection q with z1; subst z1; exact (btt gd).1
        | false => rw [hb] at q; injection q
    | cons u us =>
      refine ob_EA (oo_some (show oo none (fun r => some ((kc y, u) :: r)) (bpF ys d us) = some vars from e)) fun r e1 e => ?_
      injection e with z1; subst z1
      refine ob_A (btt (show bt (vG u) (vGL us) false = true from g)) fun g1 g2 => ?_
      change bt (Nat.beq (kc y) x) (some u) (luk r x) = some v at q
      cases hb : Nat.beq (kc y) x with
      | true => rw [hb] at q; injection q with z1; subst z1; exact g1
      | false => rw [hb] at q; exact ih e1 g2 q
end
theorem bind_stay {kindOf : Str → Option NameKind} {x : Str} (binds : List (Str × Value)) : ∀ {m cm : Str → Option Value}, x ∉ binds.map (·.1) → bindL kindOf binds m x = m x ∧ bindC kindOf binds cm x = cm x := by
  induction binds with
  | nil => exact fun _ => ⟨rfl, rfl⟩
  | cons b binds ih =>
    intro m cm n
    obtain ⟨z, w⟩ := b
    have ne : x ≠ z := fun q => n (q ▸ .head _)
    have n' : x ∉ binds.map (·.1) := fun q => n (.tail _ q)
    unfold bindL bindC
    by_cases hk : kindOf z = some .local
    · rw [if_pos hk, if_pos hk]
      refine ob_A (ih (m := fun y => if y = z then some w else m y) (cm := cm) n') fun a1 a2 => ?_
      exact ⟨a1.trans (if_neg ne), a2⟩
    · rw [if_neg hk, if_neg hk]
      refine ob_A (ih (m := m) (cm := fun y => if y = z then some w else cm y) n') fun a1 a2 => ?_
      exact ⟨a1, a2.trans (if_neg ne)⟩
theorem bind_at {kindOf : Str → Option NameKind} {x : Str} {y : Value} (binds : List (Str × Value)) : ∀ {m cm : Str → Option Value}, (binds.map (·.1)).Nodup → (x, y) ∈ binds → (kindOf x = some .local → bindL kindOf binds m x = some y) ∧ (kindOf x ≠ some .local → bindC kindOf binds cm x = some y) := by
  induction binds with
  | nil => exact fun _ m => nomatch m
  | cons b binds ih =>
    intro m cm nd mm
    obtain ⟨z, w⟩ := b
    obtain ⟨n1, n2⟩ := List.nodup_cons.mp nd
    unfold bindL bindC
    rcases List.mem_cons.mp mm with q | mm
    · injection q with z1 z2; subst z1; subst z2
      exact ⟨fun l => (bind_stay (cm := cm) binds n1).1.trans (by rw [if_pos l, if_pos rfl]), fun l => (bind_stay (m := m) binds n1).2.trans (by rw [if_neg l, if_pos rfl])⟩
    · exact ih n2 mm
theorem cells_some {x : Str} (names : List (Str × NameKind)) : ∀ {k : Nat} {acc : List (Str × Addr)}, (names.lookup x = some .cell ∨ (acc.lookup x).isSome = true) → ((cellsFrom k names acc).lookup x).isSome = true := by
  induction names with
  | nil => exact fun h => h.elim (fun q => nomatch q) id
  | cons b r ih =>
    intro k acc h
    obtain ⟨y, kd⟩ := b
    unfold cellsFrom
    rw [List.lookup_cons] at h
    cases e : x == y with
    | true =>
      rw [e] at h
      split
      · exact ih (.inr (by rw [List.lookup_cons, e]; rfl))
      · rename_i q
        exact ih (.inr (h.resolve_left fun z => q (by injection z with z1; subst z1; rfl)))
    | false =>
      rw [e] at h
      split
      · exact ih (h.imp id fun z => by rw [List.lookup_cons, e]; exact z)
      · exact ih h
theorem vG_tup (l : List V) : vG (.tup l) = vGL l := by
  induction l with
  | nil => rfl
  | cons v l ih => show bt (vG v) (vG (.tup l)) false = bt (vG v) (vGL l) false; rw [ih]
section
variable {p : Mp} {h : Heap} {ι ι' : Io}
theorem VR.gr (v : V) : ∀ {y : Value}, vG v = true → VR p h ι v y → VR p h ι' v y :=
  V.rec (motive_1 := fun v => ∀ {y : Value}, vG v = true → VR p h ι v y → VR p h ι' v y) (motive_2 := fun l => ∀ {ws : List Value}, vGL l = true → VRL p h ι l ws → VRL p h ι' l ws)
    (fun _ r => r) (fun _ _ _ r => r) (fun _ _ _ r => r) (fun _ _ _ r => r) (fun _ _ _ r => r) (fun l ih _ g q1 => ob_EEAA q1 fun a ws e t r => ⟨a, ws, e, t, ih ((vG_tup l).symm.trans g) r⟩) (fun _ _ g => nomatch g) (fun _ _ _ r => r) (fun _ _ _ r => r)
    (fun _ r => r) (fun v l ih1 ih2 ws g r => by
      refine ob_A (btt (show bt (vG v) (vGL l) false = true from g)) fun g1 g2 => ?_
      cases ws with
      | nil => exact r.elim
      | cons w ws => exact ⟨ih1 g1 r.1, ih2 g2 r.2⟩) v
end
end
end Mine
namespace Mine
open PySem PyProof.Rows PySem.W
open PySem.Builtin
noncomputable section
section
variable {prog : Program} {w : World} {A : Around} {s : Shared} {R : Result → Shared → Prop}
theorem codeC_func {body : List Stmt} {env : Env}
    (h : wpC (model prog w) (A.deeper env) (execs body env) (fun f s' => R (.ok (.ret (match f with | .ret v => v | _ => .none))) s')
      (fun e s' => wpC (model prog w) (A.deeper env) (leaving env e) (fun _ s'' => R (.error e) s'') (fun e' s'' => R (.error e') s'') s') s) :
    codeC (model prog w) A (.func body env) R s := by
  refine codeC_of_tree rfl ?_
  show wpC _ (A.deeper env) (do point; match ← (execs body env).onRaise (leaving env) with | .ret v => ret v | _ => ret .none) _ _ s
  refine wpC_bind (wpC_of (wpAny_point (wpC_bind (wpC_onRaise (wpC_mono h (fun f s' h' => ?_) fun _ _ h' => h')))))
  cases f <;> exact wpC_pure h'
theorem codeC_call_function {a : Addr} {args : Args} {o : Obj} {fd : FuncData} {body : List Stmt} (hroom : A.depth < recursionLimit)
    (ho : s.heap.get? a = some o)
    (hd' : o.data = .func fd) (hco : fd.scope.isCoroutine = false) (hgen : fd.scope.isGenerator = false) (hbody : fd.body = .stmts body) (hcd : s.heap.CodeRec fd.code fd.qualname)
    (h : wpC (model prog w) A.in1 (bindArgs fd args) (fun binds s₁ =>
      wpC (model prog w) A.in1 (newFunctionEnv fd.scope fd.globals fd.closure binds (fd.qualname ++ ".<locals>.") (some a) fd.code none fd.builtins)
        (fun env s₂ => s₂.heap.NoLimit ∧ codeC (model prog w) A (.func body env) R s₂) (fun e s' => R (.error e) s') s₁) (fun e s' => R (.error e) s') s) :
    codeC (model prog w) A (.call (.ref a) args) R s := by
  refine codeC_of_tree rfl ?_
  show wpC _ A.in1 (callAny (.ref a) args) _ _ s
  simp only [callAny]
  refine wpC_bind (wpC_of (wpAny_load ho ?_))
  refine ob_EEEEAAA hcd fun c oc vs tq hc hoc hdc hq => ?_
  simp only [hd', callFunction, hco, hgen, hbody, hc]
  rw [hc] at h
  refine wpC_bind (m := field (.ref c) 1) (wpC_of (wpAny_field hoc hdc hq (wpC_bind (wpC_pure ?_))))
  exact wpC_bind (wpC_mono h (fun binds s₁ h₁ => wpC_bind (wpC_mono h₁ (fun env s₂ h₂ => wpC_bind (wpC_of (wpAny_enterFrame h₂.1 hroom
    (wpC_pure (And.intro rfl h₂.2))))) fun _ _ h' => h')) fun _ _ h' => h')
end
section
variable {S : Type} {C : Cst S} {F : Fr} {n : Nat} {penv : Env} {env : MEnv} {W W' W'' W0 W1 W2 : Wd S} {ih : SemF S} {A' : Around}
theorem AOk.deeper (h : AOk F (n + 1)) : AOk ⟨F.A.deeper penv, penv :: F.envs⟩ n := by
  obtain ⟨⟨hd, d, fr, gs, u⟩, envs⟩ := F
  obtain ⟨h1, h2, h3, h4⟩ := h
  have h1 : fr = some envs := h1
  have h2 : hd = none := h2
  subst h1; subst h2
  refine ⟨rfl, rfl, ?_, ?_⟩
  · show d + 1 + n < 900; rw [Nat.add_assoc, Nat.add_comm 1 n]; exact h3
  · show u + 3 + 12 * n < 9800
    exact Nat.lt_of_le_of_lt (by rw [Nat.mul_succ, Nat.add_assoc, Nat.add_comm 3]; exact Nat.add_le_add_left (Nat.add_le_add_left (by decide) _) u) h4
theorem Sat.push (T : St C F.envs W1.ι W1.σ W1.h) (f : Frm C.base W1.ι W1.h penv) : Sat C ⟨A', penv :: F.envs⟩ W1 :=
  ⟨T.stays, fun e m => (List.mem_cons.mp m).elim (fun q => q ▸ f) (T.frs e), T.len, T.objs, T.all, T.apart, T.fresh, T.sysm⟩
theorem Sat.pop (T : Sat C ⟨A', penv :: F.envs⟩ W1) : Sat C F W1 := ⟨T.stays, fun e m => T.frs e (.tail _ m), T.len, T.objs, T.all, T.apart, T.fresh, T.sysm⟩
theorem Fut.back (T : Sat C F W) (k : Kp W.h W1.h) (eι : W1.ι = W.ι) (f : W.h.get? penv.locals = none) (fr : fadr (penv :: F.envs) = penv.locals :: fadr F.envs) (z : Fut C ⟨A', penv :: F.envs⟩ [penv.locals] W1 W2) : Fut C F [] W W2 := by
  have ne : ∀ b o, W.h.get? b = some o → b ∉ [penv.locals] := fun b o e q => by rw [List.mem_singleton.mp q, f] at e; injection e
  have down : ∀ b, W1.h.get? b = none → W.h.get? b = none := fun b q => by
    cases e : W.h.get? b with
    | none => rfl
    | some o => exact nomatch q.symm.trans (k b o e)
  refine ⟨T, z.S1.pop, fun i a d e => z.L.ext i a d (eι ▸ e), fun a m n => down a (z.L.new a m (eι ▸ n)), fun b o e n _ nf => z.L.keep b o (k b o e) (eι ▸ n) (ne b o e) (fr ▸ fun m => (List.mem_cons.mp m).elim (fun q => ne b o e (q ▸ .head _)) nf), fun b o e q n _ => z.L.frk b o (k b o e) (fr ▸ .tail _ q) (eι ▸ n) (ne b o e), fun b o e _ => z.L.dom b o (k b o e) (ne b o e), fun _ m => nomatch m⟩
theorem Fut.alone (T : Sat C F W) (k : Kp W.h W1.h) (eι : W1.ι = []) (f : W.h.get? penv.locals = none) (fr : fadr (penv :: F.envs) = penv.locals :: fadr F.envs) (z : Fut C ⟨A', penv :: F.envs⟩ [penv.locals] W1 W2) : Fut C F [] W { W with h := W2.h, tk := W2.tk } := by
  have ne : ∀ b o, W.h.get? b = some o → b ∉ [penv.locals] := fun b o e q => by rw [List.mem_singleton.mp q, f] at e; injection e
  have none1 : ∀ b, ¬ Own W1.ι b := fun b q1 => ob_EEEA q1 fun i a d e _u => by rw [eι] at e; exact nomatch e
  have kp : ∀ b o, W.h.get? b = some o → b ∉ fadr F.envs → W2.h.get? b = some o := fun b o e nf => z.L.keep b o (k b o e) (none1 b) (ne b o e) (fr ▸ fun m => (List.mem_cons.mp m).elim (fun q => ne b o e (q ▸ .head _)) nf)
  have kf : ∀ b o, W.h.get? b = some o → b ∈ fadr F.envs → ∃ sl, W2.h.get? b = some { o with slots := sl } := fun b o e q => z.L.frk b o (k b o e) (fr ▸ .tail _ q) (none1 b) (ne b o e)
  have L : Lat [] F.envs W.ι W.ι W.h W2.h := ⟨fun _ _ d e => ⟨d, e, .inr rfl⟩, fun _ m n => absurd m n, fun b o e n _ nf => kp b o e nf, fun b o e q n _ => kf b o e q, fun b o e _ => z.L.dom b o (k b o e) (ne b o e), fun _ m => nomatch m⟩
  have same : ∀ {i a d}, Pl W.ι i a d → ∀ b, (b = a ∨ d = some b) → W2.h.get? b = W.h.get? b := fun e b q => by
    refine ob_EA (T.odd ⟨_, _, _, e, q⟩) fun o e' _u => ?_
    rw [e']
    refine kp b o e' fun m => ?_
    refine ob_EEEAAA (T.frame_at m) fun _u _u _u _u _u _u no => ?_
    exact no ⟨_, _, _, e, q⟩
  refine ⟨T, ⟨z.S1.stays, fun env m => ?_, T.len, fun i mo e => ?_, fun i a d e => ?_, T.apart, T.fresh, T.sysm⟩, L⟩
  · refine ob_AEEEEAAAA (T.frs env m) fun c D o es ep b c' d' e f => ?_
    refine ob_E (kf D o d' (List.mem_filterMap.mpr ⟨env, m, b⟩)) fun sl e' => ?_
    exact ⟨c, D, _, es, ep, b, c', e', e, f⟩
  · refine ob_EEA (T.objs i mo e) fun a d e' O => ?_
    exact ⟨a, d, e', O.mono T L NoTup.nil (same e')⟩
  · refine ob_E (T.all i a d e) fun mo O => ?_
    exact ⟨mo, O.mono T L NoTup.nil (same e)⟩
theorem cl_step (O : Okay C) (Fk : ∀ a fi, C.P.fn a = some fi → FnOk C.p C.base C.K a fi) (hX : ExOk C ih n) (hA : AOk F (n + 1)) {f : Addr} {vs : List V} {xs : List Value} (r : VVL C W vs xs) : Run C F W (call (.ref f) xs) (fnF C.D C.P ih f vs W.σ) (VV C) := ⟨fun T Q E p => by
  unfold fnF at p
  cases hf : C.P.fn f with
  | none => rw [hf] at p; exact p.elim
  | some fi =>
  rw [hf] at p
  obtain ⟨⟨o, fd, ho, hd, hk, hco, hgen, hbody, hcd, hclo, hgl, hbi, hnames, hbind⟩, kinds, apart, gdf⟩ := Fk f fi hf
  change Ens C F W (oo .bad (fun vars => bt fi.pure (gd (vGL vs) (outP W.σ (ih.ex ⟨⟨fi.sc, vars⟩, C.D.nil⟩ fi.body))) (outF (ih.ex ⟨⟨fi.sc, vars⟩, W.σ⟩ fi.body))) (bpF fi.ps fi.dflt vs)) (VV C) Q E at p
  cases hb : bpF fi.ps fi.dflt vs with
  | none => rw [hb] at p; exact p.elim
  | some vars =>
  rw [hb] at p
  refine ob_EA (hbind (C.st W) W.ι vs xs vars (T.inK O) r hb) fun binds hB br => ?_
  have nb := br.names vars (bpF_names fi.ps hb)
  have dp := hA.dp
  refine wpC_call (codeC_call_function (s := C.st W) (show F.A.depth < 1000 by omega) (T.stays _ _ ho) hd hco hgen hbody (hcd.keeps T.stays) (wpC_of (hB _ _ _ _ ?_)))
  rw [hclo]
  have kd : ∀ b ∈ binds, fd.scope.names.lookup b.1 = some .local ∨ (fd.scope.names.lookup b.1 = some .cell ∧ ((cellsFrom (W.h.objs.size + 1) fd.scope.names []).lookup b.1).isSome = true) := fun b m => by
    rw [hnames]
    exact (kinds b.1 (nb ▸ List.mem_map_of_mem m)).imp id fun q => ⟨q, cells_some fi.sc (.inl q)⟩
  refine wpC_of (wpAny_newFunctionEnv_cells hk kd fun penv he s1 x => ?_)
  have eloc : penv.locals = W.h.objs.size := by rw [he]; rfl
  have efr : penv.frame = some penv.locals := by rw [he]; rfl
  have eko : ∀ x, penv.kindOf x = fi.sc.lookup x := fun x => by rw [he, ← hnames]; rfl
  have ecl : penv.cells = cellsFrom (W.h.objs.size + 1) fd.scope.names [] := by rw [he]; rfl
  have efn : penv.scope.kind = .function := by rw [he]; exact hk
  have egl : penv.globals = mainGlobals := by rw [he]; exact hgl
  have ebi : penv.builtins = builtinsNs := by rw [he]; exact hbi
  clear he
  refine ob_EEA x.done fun h1 tk1 e1 k1 => ?_
  have xns := x.toInCall.ns
  have xcell := x.cell
  subst e1
  dsimp only at xns xcell k1
  refine ⟨(O.lim.keeps T.stays).keeps k1, codeC_func ?_⟩
  have f0 : W.h.get? penv.locals = none := by rw [eloc]; exact get_fresh _
  have S1 : Sat C F { W with h := h1, tk := tk1 } := (Fut.grow T k1).S1
  have nbs : C.base.get? penv.locals = none := by
    cases e : C.base.get? penv.locals with
    | none => rfl
    | some o' => exact nomatch f0.symm.trans (T.stays _ _ e)
  have frm : ∀ {ι₀ : Io}, ¬ Own ι₀ penv.locals → Frm C.base ι₀ h1 penv := fun nw => by
    refine ob_EEEAA (id xns) fun o' es ep e' d' _u => ?_
    exact ⟨(by rw [efn]; exact (fun q => nomatch q)), penv.locals, o', es, ep, efr, nbs, e', d', nw⟩
  have fad : fadr (penv :: F.envs) = penv.locals :: fadr F.envs := by unfold fadr; rw [List.filterMap_cons, efr]
  have er : ∀ {ι₀ : Io}, ¬ Own ι₀ penv.locals → (∀ x v y, luk vars (kc x) = some v → VR C.p W.h W.ι v y → VR C.p h1 ι₀ v y) → ER C.p h1 ι₀ penv ⟨fi.sc, vars⟩ := fun {ι₀} nw tr => by
    refine ⟨efn, egl, ebi, fun z => ⟨fun q => (eko z).trans q, fun q => (eko z).trans q⟩, nw, _, xns, fun z v q => ?_⟩
    refine ob_EA (br.mem vars q) fun y m ry => ?_
    have zm : z ∈ fi.ps := nb ▸ List.mem_map_of_mem m
    refine ob_A (bind_at (kindOf := penv.kindOf) (m := fun _ => none) (cm := fun _ => none) binds (nb ▸ apart) m) fun l1 l2 => ?_
    rcases kinds z zm with kz | kz
    · exact .inl ⟨kz, y, l1 ((eko z).trans kz), tr z v y q ry⟩
    · obtain ⟨c, hc⟩ := Option.isSome_iff_exists.mp (show (penv.cells.lookup z).isSome = true by rw [ecl, hnames]; exact cells_some fi.sc (.inl kz))
      exact .inr ⟨.inl ((eko z).trans kz), c, y, hc, l2 (by rw [eko, kz]; exact fun q => nomatch q) ▸ xcell _ c hc, tr z v y q ry⟩
  have top : Top1 penv (penv :: F.envs) := ⟨⟨F.envs, rfl⟩, efr⟩
  have hA' : AOk ⟨F.A.deeper penv, penv :: F.envs⟩ n := hA.deeper
  cases hp : fi.pure with
  | false =>
    rw [hp] at p
    have nw : ¬ Own W.ι penv.locals := T.own_none f0
    have S2 : Sat C ⟨F.A.deeper penv, penv :: F.envs⟩ { W with h := h1, tk := tk1 } := Sat.push S1 (frm nw)
    have R2 : ER C.p h1 W.ι penv ⟨fi.sc, vars⟩ := er nw fun x v y q ry => VR.mono T (Lat.of_keeps k1) NoTup.nil v ry
    refine (hX ⟨F.A.deeper penv, penv :: F.envs⟩ { W with h := h1, tk := tk1 } penv ⟨fi.sc, vars⟩ fi.body ⟨⟨hA', R2⟩, top⟩).go S2 _ _ ?_
    change Ens C F W (outF (ih.ex ⟨⟨fi.sc, vars⟩, W.σ⟩ fi.body)) (VV C) Q E at p
    cases hr : ih.ex ⟨⟨fi.sc, vars⟩, W.σ⟩ fi.body with
    | bad => rw [hr] at p; exact p.elim
    | ok fl x2 =>
      rw [hr] at p
      intro W2 fl' e2 z2 R3 F3
      have zb := Fut.back (W1 := { W with h := h1, tk := tk1 }) T k1 rfl f0 fad z2
      cases fl with
      | next => rw [show fl' = _ from F3]; exact p W2 .none e2 zb rfl
      | ret v => refine ob_EA F3 fun y z1 ry => ?_; subst z1; exact p W2 y e2 zb ry
    | exc X x2 =>
      rw [hr] at p
      intro W2 ev e2 z2 R3 X3
      refine wpC_of (leave_at hA' top z2.S1 (z2.doms R3) (fun b q => ?_) X3 fun W3 Y e3 c n3 xf => ?_)
      · cases e : C.base.get? b with
        | none => rfl
        | some o => exact nomatch q.symm.trans (S1.stays b o e)
      · have z3 := z2.noted n3 c fun a m => List.mem_singleton.mp m ▸ (R3.noted c).lo
        exact p W3 ev (e3.trans e2) (Fut.back (W1 := { W with h := h1, tk := tk1 }) T k1 rfl f0 fad z3) (xf.from fun b o e => ⟨o, k1 b o e⟩)
  | true =>
    rw [hp] at p
    change Ens C F W (gd (vGL vs) (outP W.σ (ih.ex ⟨⟨fi.sc, vars⟩, C.D.nil⟩ fi.body))) (VV C) Q E at p
    cases hg : vGL vs with
    | false => rw [hg] at p; exact p.elim
    | true =>
    rw [hg] at p
    have nw : ¬ Own [] penv.locals := fun q1 => ob_EEEA q1 fun i a d e _u => nomatch e
    refine ob_A O.ok.nil fun l1 l2 => ?_
    have S2 : Sat C ⟨F.A.deeper penv, penv :: F.envs⟩ ⟨[], C.D.nil, h1, tk1⟩ := by
      refine ⟨S1.stays, fun e' m => ?_, l2.symm, fun i mo e => (nomatch (l1 i).symm.trans e), fun i a d e => (nomatch e), fun i j a d b c x e => (nomatch e), fun a q1 => ob_EEEA q1 fun i b d e _u => (nomatch e), S1.sysm⟩
      rcases List.mem_cons.mp m with rfl | m
      · exact frm nw
      · refine ob_AEEEEAAAA (S1.frs e' m) fun a L' o' es ep b c d e f => ?_
        exact ⟨a, L', o', es, ep, b, c, d, e, fun q1 => ob_EEEA q1 fun i b d e _u => nomatch e⟩
    have R2 : ER C.p h1 [] penv ⟨fi.sc, vars⟩ := er nw fun x v y q ry => VR.gr v (bpF_gr gdf fi.ps hb hg q) (VR.mono T (Lat.of_keeps k1) NoTup.nil v ry)
    refine (hX ⟨F.A.deeper penv, penv :: F.envs⟩ ⟨[], C.D.nil, h1, tk1⟩ penv ⟨fi.sc, vars⟩ fi.body ⟨⟨hA', R2⟩, top⟩).go S2 _ _ ?_
    change Ens C F W (outP W.σ (ih.ex ⟨⟨fi.sc, vars⟩, C.D.nil⟩ fi.body)) (VV C) Q E at p
    cases hr : ih.ex ⟨⟨fi.sc, vars⟩, C.D.nil⟩ fi.body with
    | bad => rw [hr] at p; exact p.elim
    | ok fl x2 =>
      rw [hr] at p
      intro W2 fl' e2 z2 R3 F3
      have zb := Fut.alone (W1 := ⟨[], C.D.nil, h1, tk1⟩) T k1 rfl f0 fad z2
      cases fl with
      | next => rw [show fl' = _ from F3]; exact p { W with h := W2.h, tk := W2.tk } .none rfl zb rfl
      | ret v =>
        refine ob_EA F3 fun y z1 ry => ?_; subst z1
        change Ens C F W (gd (vG v) (.ok v W.σ)) (VV C) Q E at p
        cases gv : vG v with
        | false => rw [gv] at p; exact p.elim
        | true => rw [gv] at p; exact p { W with h := W2.h, tk := W2.tk } y rfl zb (VR.gr v gv ry)
    | exc X x2 =>
      rw [hr] at p
      intro W2 ev e2 z2 R3 X3
      refine wpC_of (leave_at hA' top z2.S1 (z2.doms R3) (fun b q => ?_) X3 fun W3 Y e3 c n3 xf => ?_)
      · cases e : C.base.get? b with
        | none => rfl
        | some o => exact nomatch q.symm.trans (S1.stays b o e)
      · have z3 := z2.noted n3 c fun a m => List.mem_singleton.mp m ▸ (R3.noted c).lo
        exact p { W with h := W3.h, tk := W3.tk } ev rfl (Fut.alone (W1 := ⟨[], C.D.nil, h1, tk1⟩) T k1 rfl f0 fad z3) (xf.from fun b o e => ⟨o, k1 b o e⟩)⟩
end
end
end Mine
namespace Mine
open PySem PyProof.Rows PySem.W
open PySem.Builtin
noncomputable section
structure ZM (h : Heap) (n : Nat) (a : Addr) (S : PySem.Str) (t : Tok) (f : Value) (i : Nat) : Prop where
  z : IsZip h (n + 4) (n + 2) (n + 3) f
  ti : IsPair h (n + 2) (.ref n) (.ref (n + 1))
  to : ∃ u v, IsPair h (n + 3) u v
  i1 : h.IsTupleIter n a i
  i2 : h.IsStrIter (n + 1) "str_ascii_iterator" S t i
section
variable {prog : Program} {w : World} {A : Around} {E : Value → Shared → Prop} {s : Shared} {h h' : Heap} {n i : Nat} {a : Addr} {S : PySem.Str} {t : Tok} {f : Value} {xs : Array Value} {x : Value} {ch : Nat}
theorem ZM.at (m : ZM h n a S t f i) (k : ∀ b o, n ≤ b → h.get? b = some o → h'.get? b = some o) : ZM h' n a S t f i := by
  obtain ⟨m1, m2, ⟨u, v, m3⟩, ⟨_, e1, r1⟩, ⟨_, e2, r2⟩⟩ := m
  exact ⟨k _ _ (Nat.le_add_right n 4) m1, k _ _ (Nat.le_add_right n 2) m2, ⟨u, v, k _ _ (Nat.le_add_right n 3) m3⟩, ⟨_, k _ _ (Nat.le_refl n) e1, r1⟩, ⟨_, k _ _ (Nat.le_add_right n 1) e2, r2⟩⟩
theorem itx {h h' : Heap} {I a it : Addr} {i : Nat} (x : h.IsTupleIter it a i) (k : Heap.ExtBut I h h') (n : it ≠ I) : h'.IsTupleIter it a i := ob_EA (x) fun o ho r => ⟨o, k _ _ n ho, r⟩
theorem stx {h h' : Heap} {I it : Addr} {S : PySem.Str} {t : Tok} {i : Nat} {c : String} (x : h.IsStrIter it c S t i) (k : Heap.ExtBut I h h') (n : it ≠ I) : h'.IsStrIter it c S t i := ob_EA (x) fun o ho r => ⟨o, k _ _ n ho, r⟩
theorem nextOf_tup_item {it l : Addr} {i : Nat} {items} {x : Value} {Q : Value → Shared → Prop} (hit : s.heap.IsTupleIter it l i)
    (hl : s.heap.IsTuple l items) (hx : items[i]? = some x)
    (hQ : ∀ h', h'.IsTupleIter it l (i + 1) → Heap.SameBut it s.heap h' → Q x { s with heap := h' }) :
    wpAny (model prog w) A (Builtin.SmallTypes.nextOf (.ref it)) Q E s := by
  refine ob_EAA (id hit) fun o ho hc hd => ?_
  refine ob_EAAE hl fun ol hol _u nl hdl => ?_
  unfold Builtin.SmallTypes.nextOf
  refine wpAny_bind (wpAny_callSpecial?_slot (name := Str.ofString "__next__") hit.typeIs F.slot_tuple_iterator_next
    (wpAny_call_entry F.slot_tuple_iterator_next hit.typeIs F.entry_tuple_iterator_next ?_ (F.args_tuple_iterator_next_1 _)))
  refine wpAny_bind (m := field (.ref it) 0) (wpAny_field ho hd (x := .ref l) rfl ?_)
  refine wpAny_bind (m := field (.ref it) 1) (wpAny_field ho hd (x := .int i 0) rfl ?_)
  refine wpAny_bind (m := seqItems? (.ref l)) (wpAny_seqItems hol hdl ?_)
  simp only [Int.toNat_natCast, hx]
  refine wpAny_bind (wpAny_setField ho hd (by simp) (wpAny_pure ⟨x, rfl, wpAny_pure (hQ _ ?_ (Heap.SameBut.update ..))⟩))
  exact ⟨_, Heap.get?_update_self _ ho (Obj.isFreed_of_fields (Obj.data_mapFields hd _)), (Obj.cls_mapFields ..).trans hc, by
    rw [Obj.data_mapFields hd]; rfl⟩
theorem nextOf_tup_end {it l : Addr} {i : Nat} {items} {Q : Value → Shared → Prop} (hh : A.handled = none)
    (hit : s.heap.IsTupleIter it l i) (hl : s.heap.IsTuple l items) (hx : items[i]? = none)
    (hE : ∀ h' e, Heap.ExtBut it s.heap h' → (∃ o, h'.get? e = some o ∧ o.cls = .type "StopIteration") → E (.ref e) { s with heap := h' }) :
    wpAny (model prog w) A (Builtin.SmallTypes.nextOf (.ref it)) Q E s := by
  refine ob_EAA (id hit) fun o ho hc hd => ?_
  refine ob_EAAE hl fun ol hol _u nl hdl => ?_
  unfold Builtin.SmallTypes.nextOf
  refine wpAny_bind (wpAny_callSpecial?_slot (name := Str.ofString "__next__") hit.typeIs F.slot_tuple_iterator_next
    (wpAny_call_entry F.slot_tuple_iterator_next hit.typeIs F.entry_tuple_iterator_next ?_ (F.args_tuple_iterator_next_1 _)))
  refine wpAny_bind (m := field (.ref it) 0) (wpAny_field ho hd (x := .ref l) rfl ?_)
  refine wpAny_bind (m := field (.ref it) 1) (wpAny_field ho hd (x := .int i 0) rfl ?_)
  refine wpAny_bind (m := seqItems? (.ref l)) (wpAny_seqItems hol hdl ?_)
  simp only [Int.toNat_natCast, hx]
  refine wpAny_bind (wpAny_rule (wpAny_bind (wpAny_setField ho hd (by simp) ?_)))
  refine wpAny_bind (m := newExc (.type "StopIteration") []) ?_
  refine wpAny_bind (wpAny_newObj_type ?_ (by size_fits))
  refine wpAny_bind (m := firstArgMember _ _) (wpAny_of_eq (a := Value.none) (by first | rfl | (simp only [firstArgMember]; rfl)) ?_)
  refine wpAny_newObj_type ?_ (by size_fits)
  refine wpAny_bind (m := PySem.handled) (wpAny_handled ?_)
  rw [show A.in1.handled = none from hh]
  refine wpAny_bind (m := Pure.pure _) (wpAny_pure (wpAny_throw ?_))
  exact hE _ _ (((Heap.SameBut.update ..).extBut.push _).push _) ⟨_, Heap.get?_push_size _ rfl, rfl⟩
theorem tux {h h' : Heap} {I a : Addr} {xs : Array Value} (x : h.IsTuple a xs) (k : Heap.ExtBut I h h') (n : a ≠ I) : h'.IsTuple a xs := ob_EA (x) fun o ho r => ⟨o, k _ _ n ho, r⟩
theorem zip_next {hp : Heap} {g : Array GenState} {d : Drawn} {tk : Nat} {os : OsState} {Q : Option Value → Shared → Prop} (hh : A.handled = none) (M : ZM hp n a S t .none i) (la : a < n) (hl : hp.IsTuple a xs) (hy : ∀ x, xs[i]? = some x → ∃ ch, S.cps[i]? = some ch)
    (hQ : ∀ h' (T : Addr) x ch, xs[i]? = some x → S.cps[i]? = some ch → ZM h' n a S t (rawInt T) (i + 1) → IsPair h' T x (.str ⟨#[ch]⟩ tk) → n + 4 ≠ T → (∀ c o, c < n → hp.get? c = some o → h'.get? c = some o) → Q (some (.ref T)) ⟨h', g, d, tk + 1, os⟩)
    (hE : ∀ h', xs[i]? = none → (∀ c o, c < n → hp.get? c = some o → h'.get? c = some o) → Q none ⟨h', g, d, tk, os⟩) :
    wpAny (model prog w) A (pyNext (.ref (n + 4))) Q E ⟨hp, g, d, tk, os⟩ := by
  have D := zipApart_new la la
  have hT : Shared.TypeIs ⟨hp, g, d, tk, os⟩ (.ref (n + 4)) "zip" := ⟨_, M.z, rfl⟩
  refine ob_EE M.to fun u v hTO => ?_
  unfold pyNext
  refine wpAny_bind (wpAny_attempt (wpAny_callSpecial?_slot (name := Str.ofString "__next__") hT F.slot_zip_next (wpAny_call_entry F.slot_zip_next hT F.entry_zip_next ?_ (F.args_zip_next_1 _))))
  refine wpAny_bind (m := field (.ref (n + 4)) 2) (wpAny_field M.z rfl (x := .bool false) rfl ?_)
  refine wpAny_bind (m := field (.ref (n + 4)) 3) (wpAny_field M.z rfl (x := .ref (n + 2)) rfl ?_)
  refine wpAny_bind (m := seqItems? (.ref (n + 2))) (wpAny_seqItems M.ti rfl ?_)
  refine wpAny_bind (m := Builtin.SmallTypes.ownedTupleIsFree (.ref (n + 4))) (wpAny_bind (m := field (.ref (n + 4)) 0) (wpAny_field M.z rfl (x := .none) rfl (wpAny_pure ?_)))
  refine wpAny_bind (m := rule _) (wpAny_rule ?_)
  refine wpAny_bind (m := field (.ref (n + 4)) 4) (wpAny_field M.z rfl (x := .ref (n + 3)) rfl ?_)
  refine wpAny_bind (m := setField (.ref (n + 4)) 0 .ellipsis) (wpAny_setField_rec M.z (by simp) fun h₁ hz₁ hs₁ => ?_)
  change Heap.SameBut (n + 4) hp h₁ at hs₁
  change IsZip h₁ (n + 4) (n + 2) (n + 3) .ellipsis at hz₁
  change wpAny _ _ _ _ _ ⟨h₁, g, d, tk, os⟩
  refine wpAny_bind (wpAny_bind (wpAny_bind (wpAny_onRaise (wpAny_bind (m := Builtin.SmallTypes.nextOf (.ref n)) ?_))))
  have t1 := tux hl hs₁.extBut D.l1z
  have g1 := itx M.i1 hs₁.extBut D.i1z
  cases hx : xs[i]? with
  | none =>
    refine nextOf_tup_end hh g1 t1 hx fun h₂ e hs₂ q1 => ob_EA q1 fun oe hoe hce => ?_
    change wpAny _ _ _ _ _ ⟨h₂, g, d, tk, os⟩
    have hz₂ := hs₂ _ _ D.i1z.symm hz₁
    refine wpAny_setField_rec hz₂ (by simp) fun h₃ _ hs₃ => ?_
    change wpAny _ _ _ _ _ ⟨h₃, g, d, tk, os⟩
    have hez : e ≠ n + 4 := fun x => by subst x; rw [← Option.some.inj (hz₂.symm.trans hoe)] at hce; exact absurd (Value.type.inj hce) (by decide)
    refine wpAny_bind (wpAny_isInstance (T := "StopIteration") (b := true) ⟨oe, hs₃.extBut _ _ hez hoe, hce⟩ isSubtype_stop (wpAny_pure (hE h₃ hx fun c o q e => ?_)))
    exact hs₃.extBut _ _ (Nat.ne_of_lt (Nat.lt_add_right 4 q)) (hs₂ _ _ (Nat.ne_of_lt q) (hs₁.extBut _ _ (Nat.ne_of_lt (Nat.lt_add_right 4 q)) e))
  | some x =>
    refine ob_E (hy x hx) fun ch hc => ?_
    refine nextOf_tup_item g1 t1 hx fun h₂ g2 hs₂ => wpAny_pure ?_
    change Heap.SameBut n h₁ h₂ at hs₂
    change wpAny _ _ _ _ _ ⟨h₂, g, d, tk, os⟩
    have hTO₂ := hs₂.extBut _ _ D.TOi1 (hs₁.extBut _ _ D.TOz hTO)
    refine wpAny_bind (m := seqItems? (.ref (n + 3))) (wpAny_seqItems hTO₂ rfl ?_)
    refine wpAny_bind (wpAny_updateSeq_pair hTO₂ fun h₃ hTO₃ hs₃ => wpAny_bind (wpAny_letGo (wpAny_pure ?_)))
    change Heap.SameBut (n + 3) h₂ h₃ at hs₃
    change IsPair h₃ (n + 3) x v at hTO₃
    change wpAny _ _ _ _ _ ⟨h₃, g, d, tk, os⟩
    refine wpAny_bind (wpAny_bind (wpAny_onRaise (wpAny_bind (m := Builtin.SmallTypes.nextOf (.ref (n + 1))) ?_)))
    refine wpAny_nextOf_ascii_item (stx (stx (stx M.i2 hs₁.extBut D.i2z) hs₂.extBut D.i12.symm) hs₃.extBut D.TOi2.symm) hc fun h₄ g4 hs₄ => wpAny_pure ?_
    change Heap.SameBut (n + 1) h₃ h₄ at hs₄
    change wpAny _ _ _ _ _ ⟨h₄, g, d, tk + 1, os⟩
    have hTO₄ := hs₄.extBut _ _ D.TOi2 hTO₃
    refine wpAny_bind (m := seqItems? (.ref (n + 3))) (wpAny_seqItems hTO₄ rfl ?_)
    refine wpAny_bind (wpAny_updateSeq_pair hTO₄ fun h₅ hTO₅ hs₅ => wpAny_bind (wpAny_letGo (wpAny_pure (wpAny_pure ?_))))
    change Heap.SameBut (n + 3) h₄ h₅ at hs₅
    change IsPair h₅ (n + 3) x (.str ⟨#[ch]⟩ tk) at hTO₅
    change wpAny _ _ _ _ _ ⟨h₅, g, d, tk + 1, os⟩
    refine wpAny_bind (m := seqItems? (.ref (n + 3))) (wpAny_seqItems hTO₅ rfl ?_)
    have hz₅ := hs₅.extBut _ _ D.TOz.symm (hs₄.extBut _ _ D.i2z.symm (hs₃.extBut _ _ D.TOz.symm (hs₂.extBut _ _ D.i1z.symm hz₁)))
    have sz := Nat.ne_of_lt (Heap.lt_size hz₅)
    refine wpAny_bind (m := newTuple _) (wpAny_newTuple ?_)
    refine wpAny_bind (m := Builtin.SmallTypes.ownedTupleHandOut (.ref (n + 4)) (.ref h₅.objs.size)) (wpAny_bind (m := setField (.ref (n + 4)) 0 _) ?_)
    refine wpAny_setField_rec (Heap.get?_push_of_some _ hz₅) (by simp) fun h₇ hz₇ hs₇ => ?_
    change IsZip h₇ (n + 4) (n + 2) (n + 3) (rawInt h₅.objs.size) at hz₇
    change wpAny _ _ _ _ _ ⟨h₇, g, d, tk + 1, os⟩
    refine wpAny_setField_rec hz₇ (by simp) fun h₈ hz₈ hs₈ => ?_
    change IsZip h₈ (n + 4) (n + 2) (n + 3) (rawInt h₅.objs.size) at hz₈
    have up : ∀ c o, c ≠ n + 4 → h₅.get? c = some o → h₈.get? c = some o := fun c o q e => hs₈.extBut _ _ q (hs₇.extBut _ _ q (Heap.get?_push_of_some _ e))
    refine wpAny_pure ⟨_, rfl, wpAny_pure (hQ h₈ h₅.objs.size x ch hx hc ⟨hz₈, up _ _ D.TIz (hs₅.extBut _ _ D.TITO (hs₄.extBut _ _ D.TIi2 (hs₃.extBut _ _ D.TITO (hs₂.extBut _ _ D.TIi1 (hs₁.extBut _ _ D.TIz M.ti))))), ⟨_, _, up _ _ D.TOz hTO₅⟩, ?_, ?_⟩ ?_ sz fun c o q e => ?_)⟩
    · refine ob_EA g2 fun o e r => ?_
      exact ⟨o, up _ _ D.i1z (hs₅.extBut _ _ D.TOi1.symm (hs₄.extBut _ _ D.i12 (hs₃.extBut _ _ D.TOi1.symm e))), r⟩
    · refine ob_EA g4 fun o e r => ?_
      exact ⟨o, up _ _ D.i2z (hs₅.extBut _ _ D.TOi2.symm e), r⟩
    · exact hs₈.extBut _ _ sz.symm (hs₇.extBut _ _ sz.symm (Heap.get?_push_size _ rfl))
    · have l3 := Nat.ne_of_lt (Nat.lt_add_right 3 q)
      have l4 := Nat.ne_of_lt (Nat.lt_add_right 4 q)
      exact up _ _ l4 (hs₅.extBut _ _ l3 (hs₄.extBut _ _ (Nat.ne_of_lt (Nat.lt_add_right 1 q)) (hs₃.extBut _ _ l3 (hs₂.extBut _ _ (Nat.ne_of_lt q) (hs₁.extBut _ _ l4 e)))))
end
end
end Mine
namespace Mine
open PySem PyProof.Rows PySem.W
open PySem.Builtin
noncomputable section
def zH (h : Heap) (a : Addr) (S : PySem.Str) (t : Tok) : Heap := ((((h.push { cls := .type "tuple_iterator", data := .fields #[.ref a, .int 0 0] }).push { cls := .type "str_ascii_iterator", data := .fields #[.str S t, .int 0 0] }).push
  { cls := .type "tuple", data := .seq #[.ref h.objs.size, .ref (h.objs.size + 1)] }).push { cls := .type "tuple", data := .seq #[.none, .none] }).push { cls := .type "zip", data := .fields #[.none, .bool false, .bool false, .ref (h.objs.size + 2), .ref (h.objs.size + 3)] }
theorem gp {h : Heap} {o p : Obj} {n : Nat} (e : h.get? n = some p) : (h.push o).get? n = some p := Heap.get?_push_of_some _ e
theorem zH_at (h : Heap) (a : Addr) (S : PySem.Str) (t : Tok) : ZM (zH h a S t) h.objs.size a S t .none 0 ∧ ∀ c o, h.get? c = some o → (zH h a S t).get? c = some o :=
  have s1 : ∀ (h : Heap) o (n : Nat), h.objs.size = n → Obj.isFreed o = false → (h.push o).get? n = some o ∧ (h.push o).objs.size = n + 1 := fun h o n e f => e ▸ ⟨Heap.get?_push_size _ f, Heap.size_push ..⟩
  have a1 := s1 h { cls := .type "tuple_iterator", data := .fields #[.ref a, .int 0 0] } _ rfl rfl
  have a2 := s1 _ { cls := .type "str_ascii_iterator", data := .fields #[.str S t, .int 0 0] } _ a1.2 rfl
  have a3 := s1 _ { cls := .type "tuple", data := .seq #[.ref h.objs.size, .ref (h.objs.size + 1)] } _ a2.2 rfl
  have a4 := s1 _ { cls := .type "tuple", data := .seq #[.none, .none] } _ a3.2 rfl
  have a5 := s1 _ { cls := .type "zip", data := .fields #[.none, .bool false, .bool false, .ref (h.objs.size + 2), .ref (h.objs.size + 3)] } _ a4.2 rfl
  ⟨⟨a5.1, gp (gp a3.1), ⟨_, _, gp a4.1⟩, ⟨_, gp (gp (gp (gp a1.1))), rfl, rfl⟩, ⟨_, gp (gp (gp a2.1)), rfl, rfl⟩⟩, fun c o e => gp (gp (gp (gp (gp e))))⟩
set_option maxHeartbeats 4000000 in
theorem meets_zipT (a : Addr) (xs : Array Value) (S : PySem.Str) (t : Tok) :
    Meets (Builtin.«zip.__new__» ⟨[.type "zip", .ref a, .str S t], []⟩) (fun _ R s => s.heap.IsTuple a xs ∧ S.cps.all (· < 128) = true ∧
      R (.ok (.ret (.ref (s.heap.objs.size + 4)))) { s with heap := zH s.heap a S t }) :=
  .of_wp fun prog w A R s h => by
    obtain ⟨hp, g, d, tk, os⟩ := s; refine ob_AA h fun h1 h2 h => ?_
    have hsub := sub_zip
    have hL1 : Heap.IsTuple (Shared.heap ⟨hp, g, d, tk, os⟩) a xs := h1
    wp_walk using wpAny_pyIter_tuple hL1, wpAny_pyIter_ascii h2
    unfold zH at h
    simp only [Heap.size_push] at h ⊢
    exact ⟨_, rfl, h⟩
section
variable {prog : Program} {w : World} {A : Around} {E : Value → Shared → Prop} {s : Shared}
theorem call_zipT {a : Addr} {xs : Array Value} {S : PySem.Str} {t : Tok} {Q : Value → Shared → Prop} (h1 : s.heap.IsTuple a xs) (h2 : S.cps.all (· < 128) = true)
    (h : Q (.ref (s.heap.objs.size + 4)) { s with heap := zH s.heap a S t }) : wpAny (model prog w) A (call (.type "zip") [.ref a, .str S t]) Q E s :=
  callType_new F.called_zip (by decide) (F.typeCall_zip_2 _ _) (F.newCall_zip_2 _ _) (fun obj => F.args_object_init_3 obj _ _) F.entry_zip_new
    (meets_zipT a xs S t) ⟨h1, h2, ⟨_, (zH_at s.heap a S t).1.z, rfl⟩, h⟩
end
end
end Mine
namespace Mine
open PySem PyProof.Rows PySem.W
open PySem.Builtin
noncomputable section
section
variable {S : Type} {C : Cst S} {F : Fr} {n : Nat} {penv : Env} {env : MEnv} {W : Wd S} {ih : SemF S}
theorem Here.less (H : Here C F (n + 1) penv env W) : Here C F n penv env W := ⟨H.A.less (Nat.le_succ n), H.R⟩
theorem HereS.less (H : HereS C F penv (n + 1) env W) : HereS C F penv n env W := ⟨H.H.less, H.top⟩
theorem EvOk.up (h : EvOk C ih n) : EvOk C ih (n + 1) := fun F W penv env e H => h F W penv env e H.less
theorem ev_step (O : Okay C) (hE : EvOk C ih n) (hT : TsOk C ih n) (hC : ClOk C ih n) (H1 : Here C F (n + 1) penv env W) (e : PySem.Expr) : Ev C F penv env W ih e := by
  have H := H1.less
  cases e with
  | Constant c k q => exact const_ev O c k q
  | Name x q => exact name_ev O H x q
  | Attribute o x q => exact attr_ev O hE H o x q
  | BinOp a op b q => exact bin_ev O hE H a op b q
  | UnaryOp op a q => cases op <;> first | exact neg_ev O hE H a q | exact not_ev hE H a q | exact .bad
  | BoolOp op es q => exact .of (arm_eval_BoolOp op es q penv) (bop_go hE q op es H)
  | IfExp t a b q => exact ifexp_ev hE hT H t a b q
  | Tuple es k q => exact tuple_ev hE H es k q
  | List es q => exact list_ev O hE H es q
  | Dict ks vs q => exact dict_ev O hE H ks vs q
  | ListComp elt gens sc q => exact lcomp_ev O hE hT H elt gens sc q
  | DictComp k v gens sc q => exact dcomp_ev O hE hT H k v gens sc q
  | Compare a ops bs q =>
    rcases ops with _ | ⟨op, _ | ⟨op', _ | _⟩⟩ <;> rcases bs with _ | ⟨b, _ | ⟨c, _ | _⟩⟩ <;> first | exact .bad | exact cmp1_ev O hE H a op b q | exact cmp2_ev O hE H a op op' b c q
  | Subscript o i q =>
    cases i with
    | Slice a b c p =>
      cases c with
      | none => exact slice_ev O hE H o a b p q
      | some c => exact .bad
    | _ => exact sub_ev O hE H o _ q fun _ _ => rfl
  | Call f as ks q =>
    cases ks with
    | cons _ _ => exact .bad
    | nil =>
      cases f with
      | Name x p => exact call_ev O hC hE.up H1 x p as q
      | Attribute o x p => exact meth_ev O hC hE.up H1 o x p as q
      | _ => exact .bad
  | _ => exact .bad
theorem ts_step (O : Okay C) (hE : EvOk C ih n) (hT : TsOk C ih n) (hC : ClOk C ih n) (H1 : Here C F (n + 1) penv env W) (e : PySem.Expr) : Ts C F penv env W ih e (eval e penv) := by
  have H := H1.less
  cases e with
  | UnaryOp op a q => cases op <;> first | exact ts_not hT H a q | exact ts_plain rfl (ev_step O hE hT hC H1 _)
  | BoolOp op es q => exact .of (arm_isTrue_BoolOp op es q penv _) (ts_go hT op es H)
  | IfExp t a b q => exact ts_ifexp hT H t a b q
  | Compare a ops bs q =>
    rcases ops with _ | ⟨op, _ | ⟨op', _ | _⟩⟩ <;> rcases bs with _ | ⟨b, _ | ⟨c, _ | _⟩⟩ <;> first | exact .bad | exact cmp1_ts O hE H a op b q | exact cmp2_ts O hE H a op op' b c q
  | _ => exact ts_plain rfl (ev_step O hE hT hC H1 _)
variable (C) in
structure Ground : Prop where
  o : Okay C
  f : ∀ a fi, C.P.fn a = some fi → FnOk C.p C.base C.K a fi
  g : ExcG C
variable (C) in
def ZipOk (ih : SemF S) (n : Nat) : Prop := ∀ {F : Fr} {W : Wd S} {penv env}, HereS C F penv (n + 1) env W → ∀ t f q e e' p b pos, RunS C F penv W (exec (.For t (.Call (.Name f q) [e, e'] [] p) b [] pos) penv) ((cFor C.D t (.Call (.Name f q) [e, e'] [] p) b).run ih ⟨env, W.σ⟩)
theorem isLc_eq {e : PySem.Expr} (h : isLc e = true) : ∃ elt gens sc pos, e = .ListComp elt gens sc pos := by cases e <;> first | exact ⟨_, _, _, _, rfl⟩ | injection h
theorem asg_step (G : Ground C) (hE : EvOk C ih n) (hT : TsOk C ih n) (H : HereS C F penv n env W) (t e : PySem.Expr) (q : Pos) : St1 C F penv W ih env (.Assign [t] e q) := by
  show RunS C F penv W _ ((asg C.D C.P t e).run ih ⟨env, W.σ⟩)
  cases t with
  | Name x p =>
    refine CS.bt_run (fun h => ?_) fun _ => .kS fun nc => asgN_st hE H x p e q nc
    refine ob_EEEE (isLc_eq h) fun elt gens sc pos z1 => ?_; subst z1
    exact asgC_st G.o hE hT H x p elt gens sc pos q
  | Tuple os k p =>
    refine CS.bt_run (fun h => .kS fun ok => asgT_st hE H os k p e q ok) fun h => .kS fun g => ?_
    refine ob_A (btt g) fun nc g => ?_
    refine ob_A (btt g) fun g1 g2 => ?_
    cases os with
    | nil => injection g1
    | cons o os => exact asgAs_st G.o hE H o os k p e q h g2 nc
  | Attribute o x p => exact asgA_st G.o hE H o x p e q
  | Subscript o i p => exact asgS_st G.o hE H o i p e q
  | _ => exact .bad
theorem for_step (G : Ground C) (hE : EvOk C ih n) (hX : ExOk C ih n) (hZ : ZipOk C ih n) (H1 : HereS C F penv (n + 1) env W) (t it : PySem.Expr) (b : List Stmt) (q : Pos) : St1 C F penv W ih env (.For t it b [] q) := by
  have H := H1.less
  cases it with
  | Name f p => exact for_plain G.o hE hX H t _ b q rfl
  | Attribute o f p => exact for_plain G.o hE hX H t _ b q rfl
  | Call f as ks p =>
    cases f with
    | Name f p' =>
      rcases as with _ | ⟨e, _ | ⟨e', _ | _⟩⟩ <;> cases ks <;> first | exact .bad | exact for_plain G.o hE hX H t _ b q rfl | exact .kS fun hs => for_range G.o hE.up hX H1 t f p' e p b q hs | exact hZ H1 t f p' e e' p b q
    | Attribute o f p' =>
      cases ks with
      | nil => exact for_plain G.o hE hX H t _ b q rfl
      | cons _ _ => exact .bad
    | _ => exact .bad
  | _ => exact .bad
theorem try_as (hX : ExOk C ih n) (H : HereS C F penv n env W) (b : List Stmt) (h : ExceptHandler) (q : Pos) : RunS C F penv W (exec (.Try b [h] [] [] q) penv) (rn (ih.ex ⟨env, W.σ⟩ b) fun fl z => .ok fl z) := .of (arm_exec_Try ..) (.stand ⟨fun T Q E p => by
  rw [arm_execs_nil]
  refine tryStmt_C ((hX F W penv env b H).go T _ _ ?_)
  cases hr : ih.ex ⟨env, W.σ⟩ b with
  | ok fl x => rw [hr] at p; exact p
  | _ => rw [hr] at p; exact p.elim⟩)
theorem try_step (G : Ground C) (hX : ExOk C ih n) (H : HereS C F penv n env W) (b : List Stmt) (hs : List ExceptHandler) (e f : List Stmt) (q : Pos) : St1 C F penv W ih env (.Try b hs e f q) := by
  rcases hs with _ | ⟨⟨t, nm, h, q1⟩, _ | _⟩ <;> first | exact .bad | skip
  · rcases t with _ | t
    · exact .bad
    · cases t with
      | Name c p =>
        cases e with
        | cons _ _ => cases nm <;> exact .bad
        | nil =>
          cases f with
          | cons _ _ => cases nm <;> exact .bad
          | nil =>
            cases nm with
            | none => exact try_st G.o G.g.g hX H b c p h q1 q
            | some x => exact try_as hX H b _ q
      | _ => exact .bad
  · rcases t with _ | t
    · exact .bad
    · cases t with
      | Name c p => cases nm <;> exact .bad
      | _ => exact .bad
theorem st_step (G : Ground C) (hE : EvOk C ih n) (hT : TsOk C ih n) (hX : ExOk C ih n) (hZ : ZipOk C ih n) (H1 : HereS C F penv (n + 1) env W) (x : Stmt) : St1 C F penv W ih env x := by
  have H := H1.less
  cases x with
  | Expr e q => exact expr_st hE H e q
  | Return e q =>
    cases e with
    | none => exact ret0_st H q
    | some e => exact ret_st hE H e q
  | If t a b q => exact if_st hT hX H t a b q
  | While t b c q =>
    cases c with
    | nil => exact while_st hT hX H t b q
    | cons _ _ => exact .bad
  | Raise e c q =>
    cases c with
    | some _ => exact .bad
    | none =>
      rcases e with _ | e
      · exact .bad
      · cases e with
        | Call f as ks p =>
          cases ks with
          | cons _ _ => cases f <;> exact .bad
          | nil =>
            cases f with
            | Name f q' => exact raise_st G.o G.g hE H f q' as p q
            | _ => exact .bad
        | _ => exact .bad
  | Assign ts e q =>
    rcases ts with _ | ⟨t, _ | _⟩ <;> first | exact .bad | skip
    exact asg_step G hE hT H t e q
  | For t it b c q =>
    cases c with
    | nil => exact for_step G hE hX hZ H1 t it b q
    | cons _ _ => exact .bad
  | Try b hs e f q => exact try_step G hX H b hs e f q
  | _ => exact .bad
end
end
end Mine
namespace Mine
open PySem PyProof.Rows PySem.W
open PySem.Builtin
noncomputable section
theorem drop_nil {α : Type} {l : List α} {i : Nat} (e : l.drop i = []) : l[i]? = none := List.getElem?_eq_none (List.drop_eq_nil_iff.mp e)
theorem drop_cons {α : Type} {l u : List α} {i : Nat} {w : α} (e : l.drop i = w :: u) : l[i]? = some w ∧ l.drop (i + 1) = u :=
  ⟨(List.getElem?_drop (xs := l) (i := i) (j := 0)).symm.trans (by rw [e]; rfl), by rw [← List.drop_drop, e]; rfl⟩
section
variable {S : Type} {C : Cst S} {F : Fr} {n : Nat} {penv : Env} {env : MEnv} {σ : S} {h0 h h' : Heap} {ih : SemF S} {x y : PySem.Str} {m : PySem.Str → Option Value}
structure ZK (F : Fr) (loc : Addr) (h0 : Heap) (x y : PySem.Str) (m : PySem.Str → Option Value) (h : Heap) : Prop where
  L : Lat [loc] F.envs [] [] h0 h
  ns : ∃ m', h.Ns loc m' ∧ ∀ q, q ≠ x → q ≠ y → m' q = m q
theorem no_own {a : Addr} : ¬ Own [] a := fun ⟨_, _, _, e, _⟩ => nomatch e
theorem Lat.bare {X : List Addr} {ι : Io} {envs : List Env} (l : Lat X envs [] ι h h') (Y : List Addr) (s : ∀ a ∈ X, a ∈ Y) : Lat Y envs [] [] h h' :=
  ⟨fun _ _ _ e => (nomatch e), fun _ q => absurd q no_own, fun b o e n nx => l.keep b o e n fun q => nx (s b q), fun b o e f n nx => l.frk b o e f n fun q => nx (s b q), fun b o e nx => l.dom b o e fun q => nx (s b q), fun _ _ => no_own⟩
theorem Lat.on {loc : Addr} (L : Lat [loc] F.envs [] [] h0 h) (k : ∀ b o, b ≠ loc → b < h0.objs.size → h.get? b = some o → h'.get? b = some o) : Lat [loc] F.envs [] [] h0 h' :=
  have k' : ∀ {b o o'}, b ∉ [loc] → h0.get? b = some o → h.get? b = some o' → h'.get? b = some o' := fun {b o o'} q e => k b o' (fun f => q (f ▸ .head _)) (Heap.lt_size e)
  ⟨fun _ _ _ e => (nomatch e), fun _ q => absurd q no_own, fun b o e a1 a2 a3 => k' a2 e (L.keep b o e a1 a2 a3), fun b o e a1 a2 a3 => ob_E (L.frk b o e a1 a2 a3) fun sl e' => ⟨sl, k' a3 e e'⟩, fun b o e a1 => ob_E (L.dom b o e a1) fun o' e' => ⟨o', k' a1 e e'⟩, fun _ _ => no_own⟩
theorem ZM.go {n i : Nat} {a : Addr} {T : PySem.Str} {t : Tok} {f : Value} (M : ZM h n a T t f i) (z : IsZip h' (n + 4) (n + 2) (n + 3) .none) (s : Heap.SameBut (n + 4) h h') : ZM h' n a T t .none i :=
  have k : ∀ j, j < 4 → n + j ≠ n + 4 := fun j q => Nat.ne_of_lt (Nat.add_lt_add_left q n)
  ob_EE (M.to) fun u v m3 => ob_EA (M.i1) fun _u e1 r1 => let ⟨_, e2, r2⟩ := M.i2
  ⟨z, s.extBut _ _ (k 2 (by decide)) M.ti, ⟨u, v, s.extBut _ _ (k 3 (by decide)) m3⟩, ⟨_, s.extBut _ _ (k 0 (by decide)) e1, r1⟩, ⟨_, s.extBut _ _ (k 1 (by decide)) e2, r2⟩⟩
theorem ZK.st (T : St C F.envs [] σ h0) (nb : C.base.get? penv.locals = none) (z : ZK F penv.locals h0 x y m h) : St C F.envs [] σ h := by
  refine ⟨fun b o e => z.L.keep b o (T.stays b o e) no_own (fun q => ?_) fun q => ?_, fun v q => ?_, T.len, fun i mo e => ?_, fun i a d e => (nomatch e), T.apart, T.fresh, T.sysm⟩
  · rw [List.mem_singleton.mp q, nb] at e; injection e
  · refine ob_EEEAAA (T.frame_mem q) fun _u _u _u _u _u _u nn => ?_; rw [nn] at e; injection e
  · refine ob_AEEEEAAAA (T.frs v q) fun k L o es ep b c d e f => ?_
    by_cases w : L = penv.locals
    · refine ob_EA z.ns fun m' z1 _u => ?_; refine ob_EEEAA z1 fun o' es' ep' e' d' _u => ?_
      exact ⟨k, L, o', es', ep', b, c, w ▸ e', d', f⟩
    · refine ob_E (z.L.frk L o d (List.mem_filterMap.mpr ⟨v, q, b⟩) no_own fun q => w (List.mem_singleton.mp q)) fun sl e' => ?_
      exact ⟨k, L, _, es, ep, b, c, e', e, f⟩
  · refine ob_EEA (T.objs i mo e) fun a d e' _u => ?_; cases e'
theorem noTupN (hn : h0.Ns penv.locals m) : NoTup [penv.locals] h0 := fun a q ws t => by
  refine ob_EEEAA hn fun o es ep e d _u => ?_
  refine ob_EAAE t fun o' e' _u _u d' => ?_
  have z0 := (List.mem_singleton.mp q ▸ e').symm.trans e; injection z0 with z1; subst z1
  exact nomatch d.symm.trans d'
theorem ZK.lat {ι : Io} (lo : ¬ Own ι penv.locals) (z : ZK F penv.locals h0 x y m h) : Lat [penv.locals] F.envs ι ι h0 h :=
  ⟨fun _ _ d e => ⟨d, e, .inr rfl⟩, fun _ q n => absurd q n, fun b o e _ nx => z.L.keep b o e no_own nx, fun b o e f _ nx => z.L.frk b o e f no_own nx, z.L.dom, fun b q => List.mem_singleton.mp q ▸ lo⟩
theorem ZK.outer {ι : Io} {σ' : S} (T : St C F.envs ι σ h0) (T' : St C F.envs [] σ' h) (lo : ¬ Own ι penv.locals) (hn : h0.Ns penv.locals m) (z : ZK F penv.locals h0 x y m h) : St C F.envs ι σ h := by
  have same : ∀ {i a d}, Pl ι i a d → ∀ b, (b = a ∨ d = some b) → h.get? b = h0.get? b := fun e b q => by
    have own : Own ι b := ⟨_, _, _, e, q⟩
    refine ob_EA (T.odd own) fun o e' _u => ?_
    rw [e']
    exact z.L.keep b o e' no_own (fun q => lo (List.mem_singleton.mp q ▸ own)) fun q => let ⟨_, _, _, _, _, no, _⟩ := T.frame_mem q; no own
  refine ⟨T'.stays, fun v q => ?_, T.len, fun i mo e => ?_, fun i a d e => ?_, T.apart, T.fresh, T.sysm⟩
  · refine ob_AEEEEAAAA (T'.frs v q) fun k L o es ep b c d e _u => ?_
    refine ob_AEEEEAAAA (T.frs v q) fun _u L' _u _u _u b' _u _u _u f => ?_
    exact ⟨k, L, o, es, ep, b, c, d, e, Option.some.inj (b'.symm.trans b) ▸ f⟩
  · refine ob_EEA (T.objs i mo e) fun a d e' O => ?_
    exact ⟨a, d, e', O.mono T (z.lat lo) (noTupN hn) (same e')⟩
  · refine ob_E (T.all i a d e) fun mo O => ?_
    exact ⟨mo, O.mono T (z.lat lo) (noTupN hn) (same e)⟩
theorem ZK.er {ι : Io} (T : St C F.envs ι σ h0) (R : ER C.p h0 ι penv env) (hn : h0.Ns penv.locals m) (nx : luk env.vars (kc x) = none) (ny : luk env.vars (kc y) = none) (z : ZK F penv.locals h0 x y m h) : ER C.p h ι penv env := by
  refine ob_EA R.ns fun m0 hn0 hv => ?_
  refine ob_EA z.ns fun m' hn' hm' => ?_
  refine ⟨R.fn, R.gl, R.bi, R.sc, R.lo, m', hn', fun q v e => ?_⟩
  have n1 : q ≠ x := fun f => by rw [f, nx] at e; injection e
  have n2 : q ≠ y := fun f => by rw [f, ny] at e; injection e
  have vr : ∀ {v y}, VR C.p h0 ι v y → VR C.p h ι v y := fun r => VR.mono T (z.lat R.lo) (noTupN hn) _ r
  refine (hv q v e).imp (fun q1 => ob_AEA q1 fun a u b c => ⟨a, u, by rw [hm' _ n1 n2, ← hn0.agree hn q]; exact b, vr c⟩) fun q1 => ob_AEEAA q1 fun a c u b d f => ⟨a, c, u, b, T.cell_keep (z.lat R.lo) d fun b q o e v w => ?_, vr f⟩
  refine ob_EEEAA hn0 fun o' _u _u e' d' _u => ?_
  rw [List.mem_singleton.mp q] at e
  rw [Option.some.inj (e.symm.trans e')] at w
  exact nomatch d'.symm.trans w
variable (C F penv env ih h0 x y m) in
def ZL (σ : S) (a : Addr) (ws : List Value) (ks : List Nat) (t : Tok) (tgt : PySem.Expr) (c : PySem.Expr) (body : List Stmt) (Q : Result → Shared → Prop) (l : List V) : Prop := ∀ (i : Nat) {h : Heap} {tk : Nat}, VRL C.p h0 [] l (ws.drop i) → ZK F penv.locals h0 x y m h → ZM h h0.objs.size a ⟨ks.toArray⟩ t .none i →
  zipL ih env.sc (kc x) (kc y) c σ l (ks.drop i) = true → codeC C.M F.A (.forLoop tgt (.ref (h0.objs.size + 4)) body [] penv) Q (C.sh h tk)
theorem zip_turn {ι : Io} (hT : TsOk C ih n) (A : AOk F n) (T : St C F.envs [] σ h0) (R : ER C.p h0 ι penv env) (hn : h0.Ns penv.locals m) (lx : isLo (lukS env.sc (kc x)) = true) (ly : isLo (lukS env.sc (kc y)) = true) (nxy : Nat.beq (kc x) (kc y) = false)
    {a : Addr} {ws : List Value} {ks : List Nat} {t : Tok} (ta : IsTup h0 a ws.toArray) {b : List Stmt} {c : PySem.Expr} {px py pk pc : Pos} {k : Nat} {Q : Result → Shared → Prop} (nb : C.base.get? penv.locals = none)
    (hQ : ∀ h tk, ZK F penv.locals h0 x y m h → Q (.ok .next) (C.sh h tk)) (l : List V) (IH : ∀ v r, l = v :: r → ZL C F penv env h0 ih x y m σ a ws ks t (.Tuple [.Name x px, .Name y py] k pk) c [.If c b [] pc] Q r) : ZL C F penv env h0 ih x y m σ a ws ks t (.Tuple [.Name x px, .Name y py] k pk) c [.If c b [] pc] Q l := fun i h tk r K M z => by
  have la : a < h0.objs.size := let ⟨_, e, _⟩ := ta; Heap.lt_size e
  have lL : penv.locals < h0.objs.size := hn.lt
  have keep : ∀ {h}, ZK F penv.locals h0 x y m h → ∀ {h'}, (∀ c o, c < h0.objs.size → h.get? c = some o → h'.get? c = some o) → ZK F penv.locals h0 x y m h' := fun K _ k =>
    ob_EA (K.ns) fun m' hn' hm' => ⟨K.L.on fun b o _ => k b o, m', hn'.at fun o e => k _ o lL e, hm'⟩
  refine codeC_of_tree rfl ?_
  show wpC C.M F.A ((forTurn _ (.ref _) _ [] penv).onRaise (fun x => do noteFrame x penv; theTreesLotGoes x)) _ _ _
  refine wpC_onRaise ?_
  unfold forTurn
  refine wpC_bind (wpC_standAt (wpC_bind (wpC_onRaise (wpC_of (zip_next A.hd M la (T.tup_keep K.L ta fun q => noTupN hn a q _ ta) (fun w hw => ?_) (fun h1 I w ch hw hc M1 pr1 nI k1 => ?_) fun h1 hw k1 => ?_)))))
  · cases l with
    | nil => rw [List.getElem?_toArray, drop_nil r] at hw; injection hw
    | cons v l =>
      cases e : ks.drop i with
      | nil => rw [e] at z; injection z
      | cons ch u => exact ⟨ch, (List.getElem?_toArray ..).trans (drop_cons e).1⟩
  · cases l with
    | nil => rw [List.getElem?_toArray, drop_nil r] at hw; injection hw
    | cons v l =>
    cases e : ks.drop i with
    | nil => rw [e] at z; injection z
    | cons ch' u =>
    rw [e] at z
    refine ob_A (drop_cons e) fun e1 e2 => ?_
    have z0 := (hc.symm.trans (List.getElem?_toArray ..)).trans e1; injection z0 with z1; subst z1
    cases e3 : ws.drop i with
    | nil => rw [e3] at r; exact r.elim
    | cons w' us =>
    rw [e3] at r
    refine ob_A (drop_cons e3) fun e4 e5 => ?_
    have z0 := (hw.symm.trans (List.getElem?_toArray ..)).trans e4; injection z0 with z1; subst z1
    refine wpC_bind (wpC_of (wpAny_letOwnedTupleGo_zip M1.z fun h2 z2 hs2 => ?_))
    refine wpC_bind (wpC_of (wpAny_assign_Tuple (items := #[w, .str ⟨#[ch]⟩ tk]) A.hd ⟨_, hs2.extBut _ _ nI.symm pr1, rfl, _, rfl⟩ rfl rfl fun h3 ex3 => ?_))
    have K3 := keep K fun c o q e => ex3 c o (Nat.ne_of_lt (Heap.lt_size (hs2.extBut c o (Nat.ne_of_lt (Nat.lt_add_right 4 q)) (k1 c o q e)))) (hs2.extBut c o (Nat.ne_of_lt (Nat.lt_add_right 4 q)) (k1 c o q e))
    refine ob_EA K3.ns fun m' hn3 hm' => ?_
    have kn : ∀ {z : PySem.Str}, isLo (lukS env.sc (kc z)) = true → penv.kindOf z = some .local := fun q => (R.sc _).1 ((lukS_eq _ _).symm.trans (isLo_eq q))
    have hk : (penv.scope.kind == .class || (penv.scope.kind == .module && penv.locals != penv.globals)) = false := by rw [R.fn]; rfl
    refine wpAny_assignInOrder_more (wpAny_assign_Name (wpAny_storeName_local (kn lx) hn3 (fun h4 hn4 hs4 => ?_) hk))
    refine wpAny_assignInOrder_more (wpAny_assign_Name (wpAny_storeName_local (kn ly) hn4 (fun h5 hn5 hs5 => ?_) hk))
    refine wpAny_assignInOrder_none ?_
    have K5 : ZK F penv.locals h0 x y m h5 := ⟨K3.L.on fun b o q _ e => hs5.extBut b o q (hs4.extBut b o q e), _, hn5, fun q n1 n2 => (if_neg n2).trans ((if_neg n1).trans (hm' q n1 n2))⟩
    have M5 : ZM h5 h0.objs.size a ⟨ks.toArray⟩ t .none (i + 1) := (M1.go z2 hs2).at fun b o q e => by
      have nl : b ≠ penv.locals := fun f => absurd (f ▸ q) (Nat.not_le.mpr lL)
      exact hs5.extBut b o nl (hs4.extBut b o nl (ex3 b o (Nat.ne_of_lt (Heap.lt_size e)) e))
    have S5 : Sat C F ⟨[], σ, h5, tk + 1 + 1 + 1⟩ := K5.st T nb
    have nxy' : x ≠ y := fun f => by rw [f, Nat.beq_refl] at nxy; injection nxy
    have R5 : ER C.p h5 [] penv ⟨env.sc, [(kc x, v), (kc y, .str [ch])]⟩ := ⟨R.fn, R.gl, R.bi, R.sc, no_own, _, hn5, fun q w' e => .inl (by
      have l : ∀ {z : PySem.Str}, isLo (lukS env.sc (kc z)) = true → env.sc.lookup z = some .local := fun h => (lukS_eq _ _).symm.trans (isLo_eq h)
      change bt (Nat.beq (kc x) (kc q)) (some v) (bt (Nat.beq (kc y) (kc q)) (some (.str [ch])) none) = some w' at e
      rw [kc_beq, kc_beq] at e
      by_cases q1 : x = q
      · subst q1
        rw [beq_self_eq_true] at e; injection e with z1; subst z1
        exact ⟨l lx, w, (if_neg nxy').trans (if_pos rfl), VR.mono T K5.L (noTupN hn) _ r.1⟩
      · rw [beq_eq_false_iff_ne.mpr q1] at e
        by_cases q2 : y = q
        · subst q2
          rw [beq_self_eq_true] at e; injection e with z1; subst z1
          exact ⟨l ly, _, if_pos rfl, _, rfl⟩
        · rw [beq_eq_false_iff_ne.mpr q2] at e; injection e)⟩
    rw [arm_execs_cons, arm_exec_If]
    refine wpC_bind (wpC_bind (wpC_bind (wpC_standAt (wpC_bind ((hT F ⟨[], σ, h5, tk + 1 + 1 + 1⟩ penv ⟨env.sc, [(kc x, v), (kc y, .str [ch])]⟩ c ⟨A, R5⟩).go S5 _ _ ?_)))))
    change RF.rec (motive := fun _ => Bool) (fun r _ => vB false (fun b => bt b false (zipL ih env.sc (kc x) (kc y) c σ l u)) r) (fun _ _ => false) false (ih.ev ⟨env.sc, [(kc x, v), (kc y, .str [ch])]⟩ σ c) = true at z
    cases ev : ih.ev ⟨env.sc, [(kc x, v), (kc y, .str [ch])]⟩ σ c with
    | bad => rw [ev] at z; injection z
    | exc X s => rw [ev] at z; injection z
    | ok r' s =>
      rw [ev] at z
      cases r' with
      | bool bb =>
        cases bb with
        | true => injection z
        | false =>
          intro W6 b6 e6 z6 q6
          cases q6
          rw [if_neg Bool.false_ne_true, arm_execs_nil]
          refine wpC_pure (wpC_pure ?_)
          refine wpC_pure ⟨rfl, IH v l rfl (i + 1) (e5 ▸ r.2) ⟨K5.L.trans (z6.L.bare _ fun _ q => nomatch q), ?_⟩ (M5.at fun b o q e => z6.L.keep b o e no_own (fun q => nomatch q) fun f => ?_) (e2 ▸ z)⟩
          · refine ob_EA K5.ns fun m5 q5 qm => ?_
            exact ⟨m5, S5.ns_keep z6.L q5 no_own (fun q => nomatch q), qm⟩
          · refine ob_EEEA (T.frame_mem f) fun _u _u _u e _u => ?_
            exact absurd (Heap.lt_size e) (Nat.not_lt.mpr q)
      | _ => injection z
  · refine wpC_pure ⟨rfl, codeC_of_tree rfl ?_⟩
    show wpC C.M F.A (((execs [] penv).onRaise (fun x => do noteFrame x penv; theTreesLotGoes x)) >>= fun f => Pure.pure (Fin.done f)) _ _ _
    rw [arm_execs_nil]
    exact wpC_bind (wpC_onRaise (wpC_pure (wpC_pure (hQ _ _ (keep K k1)))))
theorem noOne_none {vars : List (Nat × V)} {x : Nat} (h : noOne vars x = true) : luk vars x = none := by
  unfold noOne at h
  cases q : luk vars x with
  | none => rfl
  | some v => rw [q] at h; injection h
theorem isZ_eq {fv : V} (h : isZ fv = true) : fv = .bi .tZip := by cases fv <;> first | injection h | (rename_i b; cases b <;> first | rfl | injection h)
theorem zip_all {ι : Io} (hT : TsOk C ih n) (A : AOk F n) (T : St C F.envs [] σ h0) (R : ER C.p h0 ι penv env) (hn : h0.Ns penv.locals m) (lx : isLo (lukS env.sc (kc x)) = true) (ly : isLo (lukS env.sc (kc y)) = true) (nxy : Nat.beq (kc x) (kc y) = false)
    {a : Addr} {ws : List Value} {ks : List Nat} {t : Tok} (ta : IsTup h0 a ws.toArray) {b : List Stmt} {c : PySem.Expr} {px py pk pc : Pos} {k : Nat} {Q : Result → Shared → Prop} (nb : C.base.get? penv.locals = none)
    (hQ : ∀ h tk, ZK F penv.locals h0 x y m h → Q (.ok .next) (C.sh h tk)) (l : List V) : ZL C F penv env h0 ih x y m σ a ws ks t (.Tuple [.Name x px, .Name y py] k pk) c [.If c b [] pc] Q l := by
  induction l with
  | nil => exact zip_turn hT A T R hn lx ly nxy ta nb hQ _ fun _ _ e => nomatch e
  | cons v l ih => exact zip_turn hT A T R hn lx ly nxy ta nb hQ _ fun _ _ e => by injection e with z1 z2; subst z1; subst z2; assumption
theorem ifE_some {x : Stmt} {c : PySem.Expr} (h : ifE x = some c) : ∃ b p, x = .If c b [] p := by
  cases x with
  | If c b e p => cases e <;> cases h; exact ⟨_, _, rfl⟩
  | _ => injection h
theorem l1_some {α β : Type} {f : α → Option β} {l : List α} {r : β} (h : l1 none f l = some r) : ∃ a, l = [a] ∧ f a = some r := by
  rcases l with _ | ⟨a, _ | _⟩
  · injection h
  · exact ⟨a, rfl, h⟩
  · injection h
theorem zipT_some {t : PySem.Expr} {b : List Stmt} {g : PySem.Str × PySem.Str × PySem.Expr} (h : zipT t b = some g) : ∃ px py k pk c pc, t = .Tuple [.Name g.1 px, .Name g.2.1 py] k pk ∧ b = [.If g.2.2 c [] pc] := by
  unfold zipT at h
  refine ob_EA (oo_some h) fun ts h1 k1 => ?_
  refine ob_EE (tupE_some h1) fun k pk z1 => ?_; subst z1
  rcases ts with _ | ⟨u, ts⟩
  · injection k1
  · refine ob_EA (l1_some k1) fun v z1 k2 => ?_; subst z1
    refine ob_EA (oo_some (o := nmE u) k2) fun x h2 k3 => ?_
    refine ob_EA (oo_some k3) fun y h3 k4 => ?_
    refine ob_EA (l1_some k4) fun s z1 k5 => ?_; subst z1
    refine ob_EA (oo_some (o := ifE s) k5) fun c h4 k6 => ?_
    injection k6 with z1; subst z1
    have z0 := nmE_some h2; subst z0
    have z0 := nmE_some h3; subst z0
    refine ob_EE (ifE_some h4) fun b p z1 => ?_; subst z1
    exact ⟨_, _, _, _, _, _, rfl, rfl⟩
theorem Sat.inner {W : Wd S} (ok : DmOk C.D C.p) (T : Sat C F W) : St C F.envs [] C.D.nil W.h :=
  ⟨T.stays, fun v q => ob_AEEEEAAAA (T.frs v q) fun k L o es ep b c d e _u => ⟨k, L, o, es, ep, b, c, d, e, no_own⟩, ok.nil.2.symm, fun i mo e => (nomatch (ok.nil.1 i).symm.trans e), fun _ _ _ e => (nomatch e), fun _ _ _ _ _ _ _ e => (nomatch e), fun _ q => absurd q no_own, T.sysm⟩
theorem VRL.gr {p : Mp} {h : Heap} {ι ι' : Io} (l : List V) : ∀ {ws : List Value}, vGL l = true → VRL p h ι l ws → VRL p h ι' l ws := by
  induction l with
  | nil => exact fun _ r => r
  | cons v l ih =>
    intro ws g r
    refine ob_A (btt (show bt (vG v) (vGL l) false = true from g)) fun g1 g2 => ?_
    cases ws with
    | nil => exact r.elim
    | cons w u => exact ⟨VR.gr v g1 r.1, ih g2 r.2⟩
theorem sp_cons {pos : Pos} {t : Sem Value} {ts : List (Bool × Sem Value)} : PySem.spliced (backTo pos ((false, t) :: ts)) = t >>= fun v => (Pure.pure [v] : Sem (List Value)) >>= fun here => PySem.holding here (PySem.spliced (backTo pos ts)) >>= fun r => Pure.pure (here ++ r) := by
  show PySem.spliced ((false, t) :: backTo pos ts) = _
  rw [PySem.spliced]; rfl
theorem call2 (hE : EvOk C ih n) {W : Wd S} (H : HereS C F penv n env W) (pos : Pos) (f : BI) {e e' : PySem.Expr} (s1 : noStar e = true) (s2 : noStar e' = true) {k : Value → Sem Flow} {g : V → V → S → RF (ES S) Fl}
    (K : ∀ W' v w y z, Fut C F [] W W' → VV C W' v y → VV C W' w z → RunS C F penv W' (call f.val [y, z] [] >>= fun a => (PySem.holding [a] point >>= fun _ => Pure.pure a) >>= k) (g v w W'.σ)) :
    RunS C F penv W (callWith pos f.val [] (backTo pos (starEach [e, e'] penv)) [] >>= k) (re env (ih.ev env W.σ e) fun v s => re env (ih.ev env s e') fun w s => g v w s) := by
  have hs : allF noStar [e, e'] = true := by show bt (noStar e) (bt (noStar e') true false) false = true; rw [s1, s2]; rfl
  unfold callWith
  rw [evalArgs_eq _ (args_plain pos hs), args_plain pos hs, star_cons s1, star_cons s2]
  rw [sp_cons, sp_cons]
  refine .assoc (.hold1 (.assoc (.assoc (.re (hE F W penv env e H.H) H.H fun W1 v y z1 r1 => ?_))))
  refine .assoc (.pre [y] rfl (.assoc (.hold1 (.assoc (.re (hE F W1 penv env e' (H.on z1).H) (H.on z1).H fun W2 w z z2 r2 => ?_)))))
  refine .assoc (.pre [z] rfl (.assoc (.hold1 (.pre [] (by show PySem.spliced [] = _; rw [PySem.spliced]) (.pre [z] rfl (.pre [y, z] rfl ?_))))))
  refine .assoc (.pre ([y, z], none) rfl (.hold1 (.pre ⟨[y, z], []⟩ rfl (.assoc (.stand (.assoc (.pre Keeper.machine (by cases f <;> rfl) (.assoc ?_))))))))
  exact K W2 v w y z (z1.trans z2) (r1.mono z2) r2
theorem for_zip (O : Okay C) (hE : EvOk C ih n) (hT : TsOk C ih n) : ZipOk C ih n := fun {F W penv env} H1 t f q e e' p b pos => by
  refine .of (arm_exec_For ..) (.stand (.of (t := (eval (.Name f q) penv >>= fun fv => callWith p fv [] (backTo p (starEach [e, e'] penv)) []) >>= _) rfl ?_))
  show RunS C F penv W _ (CS.run (oo bad2 _ (zipT t b)) ih ⟨env, W.σ⟩)
  cases hz : zipT t b with
  | none => exact .bad
  | some g =>
  refine .kS fun hs => .assoc (.re (hE.up F W penv env _ H1.H) H1.H fun W1 v y z r => .bt (fun h => ?_) fun _ => .bad)
  have z0 := isZ_eq h; subst z0
  have z0 := (show y = _ from r); subst z0
  refine ob_A (btt hs) fun s1 s2 => ?_
  refine call2 hE.up (H1.on z) p .tZip s1 s2 fun W2 v w y u z2 r1 r2 => ?_
  have H := (H1.on (z.trans z2)).less
  refine ob_EEEEEEA (zipT_some hz) fun px py k pk c pc z1 z2 => ?_; subst z1; subst z2
  cases v with
  | tup l => ?_
  | _ => exact .bad
  cases w with
  | str ks => ?_
  | _ => exact .bad
  refine ob_EEAA r1 fun a ws z1 ta rl => ?_; subst z1
  refine ob_E r2 fun t z1 => ?_; subst z1
  refine .bt (fun hc => ?_) fun _ => .bad
  refine ob_A (btt hc) fun c1 hc => ?_
  refine ob_A (btt hc) fun c2 hc => ?_
  refine ⟨fun T Q E pp => ?_⟩
  obtain ⟨ι, σ, h0, tk⟩ := W2
  obtain ⟨c3, hc⟩ : Nat.beq (kc g.1) (kc g.2.1) = false ∧ _ := by
    cases q : Nat.beq (kc g.1) (kc g.2.1) with
    | true => rw [q] at hc; injection hc
    | false => rw [q] at hc; exact ⟨rfl, hc⟩
  refine ob_A (btt hc) fun c4 hc => ?_
  refine ob_A (btt hc) fun c5 hc => ?_
  refine ob_A (btt hc) fun c6 c7 => ?_
  refine ob_A (allF_cons c4) fun l1 l2 => ?_
  refine ob_EA (id H.H.R.ns) fun m hn _u => ?_
  have asc : (⟨ks.toArray⟩ : PySem.Str).cps.all (· < 128) = true := by
    unfold ascii at c1
    rw [allF_eq] at c1
    rw [Array.all_eq_true']
    exact fun c m => decide_eq_true (Nat.lt_succ_of_le (Nat.le_of_ble_eq_true (List.all_eq_true.mp c1 c (List.mem_toArray.mp m))))
  refine ob_A (zH_at h0 a ⟨ks.toArray⟩ t) fun M k0 => ?_
  refine wpC_bind (wpC_of (call_zipT ta asc (wpC_bind (wpC_bind (wpC_holding (wpC_of (wpAny_point (wpC_pure ?_))))))))
  refine wpC_bind (wpC_of_eq rfl (wpC_bind (wpC_standAt (wpC_bind (wpC_holding (wpC_of (wpAny_pyIter_zip M.z (wpC_runOwn ?_))))))))
  have T0 := T.inner O.ok
  refine zip_all hT H.H.A T0 H.H.R hn l1 (allF_cons l2).1 c3 ta (H.nb T) (fun h tk K => ?_) l 0 (VRL.gr l c2 rl) ⟨(Lat.of_keeps k0).bare _ (fun _ q => nomatch q), m, hn.at fun o e => k0 _ o e, fun _ _ _ => rfl⟩ M c7
  exact pp ⟨ι, σ, h, tk⟩ .next rfl ⟨T, K.outer T (K.st T0 (H.nb T)) H.H.R.lo hn, K.lat H.H.R.lo⟩ (K.er T H.H.R hn (noOne_none c5) (noOne_none c6)) rfl
end
end
end Mine
namespace Mine
open PySem PyProof.Rows PySem.W
open PySem.Builtin
noncomputable section
section
variable {S : Type} {C : Cst S}
variable (C) in
def OrcOk (k : Nat) (orc : Addr → List V → S → Option (RF S V)) : Prop := ∀ F W f vs xs r, AOk F k → VVL C W vs xs → orc f vs W.σ = some r → Run C F W (call (.ref f) xs) r (VV C)
theorem sem_sound (G : Ground C) {k : Nat} {orc : Addr → List V → S → Option (RF S V)} (ho : OrcOk C k orc) (n : Nat) : EvOk C (sem C.D C.P orc n) (k + n) ∧ TsOk C (sem C.D C.P orc n) (k + n) ∧ ClOk C (sem C.D C.P orc n) (k + n) ∧ ExOk C (sem C.D C.P orc n) (k + n) := by
  induction n with
  | zero => exact ⟨fun _ _ _ _ _ _ => .bad, fun _ _ _ _ _ _ => .bad, fun _ _ _ _ _ _ _ => .bad, fun _ _ _ _ _ _ => .bad⟩
  | succ n ih =>
    refine ob_AAA ih fun hE hT hC hX => ?_
    refine ⟨fun F W penv env e H => ev_step G.o hE hT hC H e, fun F W penv env e H => ts_step G.o hE hT hC H e, fun F W f vs xs hA r => ?_, fun F W penv env b H => execs_run (fun W env x H => st_step G hE hT hX (for_zip G.o hE hT) H x) b H⟩
    show Run C F W _ (oo (fnF C.D C.P (sem C.D C.P orc n) f vs W.σ) (fun r => r) (orc f vs W.σ)) _
    cases h : orc f vs W.σ with
    | none => exact cl_step G.o G.f hX hA r
    | some q => exact ho F W f vs xs q (hA.less (Nat.le_trans (Nat.le_add_right k n) (Nat.le_succ _))) r h
end
end
end Mine
namespace Mine
open PySem PyProof.Rows PySem.W
open PySem.Builtin
noncomputable section
theorem nble (a b : Nat) : Nat.ble a b = decide (a ≤ b) := by rw [Bool.eq_iff_iff, Nat.ble_eq, decide_eq_true_eq]
theorem iEq_of {a b : Int} (h : iEq a b = true) : a = b := by
  cases a <;> cases b <;> first | exact congrArg _ (Nat.eq_of_beq_eq_true h) | injection h
theorem iEq_eq (a b : Int) : iEq a b = decide (a = b) := by
  cases h : iEq a b with
  | true => exact (decide_eq_true (iEq_of h)).symm
  | false => refine (decide_eq_false fun q => ?_).symm; subst q; cases a <;> exact absurd ((Nat.beq_refl _).symm.trans h) (by decide)
theorem iLe_eq (a b : Int) : iLe a b = decide (a ≤ b) := by
  cases a with
  | ofNat a => cases b with
    | ofNat b => exact (nble a b).trans (decide_eq_decide.mpr Int.ofNat_le.symm)
    | negSucc b => exact (decide_eq_false (Int.not_le.mpr (Int.negSucc_lt_zero b |> fun x => Int.lt_of_lt_of_le x (Int.natCast_nonneg a)))).symm
  | negSucc a => cases b with
    | ofNat b => exact (decide_eq_true (Int.le_of_lt (Int.lt_of_lt_of_le (Int.negSucc_lt_zero a) (Int.natCast_nonneg b)))).symm
    | negSucc b => exact (nble b a).trans (decide_eq_decide.mpr (by omega))
theorem iLe_of {a b : Int} (h : iLe a b = true) : a ≤ b := of_decide_eq_true ((iLe_eq a b).symm.trans h)
theorem iLt_eq (a b : Int) : iLt a b = decide (a < b) := by unfold iLt; rw [iLe_eq]; by_cases h : b ≤ a
                                                            · rw [decide_eq_true h, decide_eq_false (Int.not_lt.mpr h)]; rfl
                                                            · rw [decide_eq_false h, decide_eq_true (Int.not_le.mp h)]; rfl
theorem co_def (i : Int) : i = Int.ofNat (ck i * 1267650600228229401496703205376) + co i := by
  unfold co
  rw [show (ck i).mul 1267650600228229401496703205376 = ck i * 1267650600228229401496703205376 from rfl]; omega
theorem isC_ck {i : Int} (c : isC i = true) : ck i = 0 := by
  cases i with
  | ofNat n => exact Nat.div_eq_of_lt (Nat.add_lt_add_right (Nat.lt_succ_of_le (Nat.ble_eq.mp c)) 633825300114114700748351602688)
  | negSucc n => rfl
theorem iNat_of {i : Int} {n : Nat} (h : iNat i = some n) : i = Int.ofNat n ∧ n < 1000000 := by
  cases i with
  | ofNat m => refine ob_A (bt_some h) fun g h => ?_; injection h with z1; subst z1; exact ⟨rfl, Nat.lt_succ_of_le (Nat.ble_eq.mp g)⟩
  | negSucc m => injection h
theorem ck_cod {k o : Nat} (h : o < 2000000) : ck (cod k o) = k := by
  show (k * 1267650600228229401496703205376 + o + 633825300114114700748351602688) / 1267650600228229401496703205376 = k
  rw [Nat.add_assoc, Nat.mul_comm, Nat.mul_add_div (by decide), Nat.div_eq_of_lt (by omega)]; rfl
theorem co_cod {k o : Nat} (h : o < 2000000) : co (cod k o) = Int.ofNat o := by
  have := co_def (cod k o)
  rw [ck_cod h] at this
  exact Int.add_left_cancel (this.symm.trans (show cod k o = Int.ofNat (k * _) + Int.ofNat o from rfl))
def mkP (atm : Nat → Int) (tok : Nat → List Nat) (jar : Nat → Nat → MO) : Mp := ⟨fun i => atm (ck i) + co i, tok, jar⟩
structure Fit (T : Tb) (atm : Nat → Int) (tok : Nat → List Nat) (jar : Nat → Nat → MO) : Prop where
  at0 : atm 0 = 0
  lo : ∀ {k l d}, T.lo k l = some d → d ≤ atm k - atm l
  pick : ∀ {l i v}, T.pick l i = some v → ∃ n u, (mkP atm tok jar).f i = Int.ofNat n ∧ n < 1000000 ∧ nth l n = some u ∧ ∀ h ι x, VR (mkP atm tok jar) h ι u x → VR (mkP atm tok jar) h ι v x
  add : ∀ {a b c}, T.add a b = some c → (mkP atm tok jar).f c = (mkP atm tok jar).f a + (mkP atm tok jar).f b
  sub : ∀ {a b c}, T.sub a b = some c → (mkP atm tok jar).f c = (mkP atm tok jar).f a - (mkP atm tok jar).f b
  pres : ∀ q ∈ T.pres, atm q.1 = Int.ofNat (q.2.flatMap tok).length
  low : ∀ c, c < 256 → tok c = [c]
  one : ∀ {c}, one1 c = true → (tok c).length = 1
  tokl : ∀ c, (tok c).length ≤ 5000
theorem luk_mem {α : Type} {x : Nat} {v : α} (m : List (Nat × α)) (e : luk m x = some v) : (x, v) ∈ m := by
  induction m with
  | nil => injection e
  | cons a m ih =>
    change bt (Nat.beq a.1 x) (some a.2) (luk m x) = some v at e
    cases h : Nat.beq a.1 x with
    | true => rw [h] at e; injection e with z1; subst z1; exact Nat.eq_of_beq_eq_true h ▸ .head _
    | false => rw [h] at e; exact .tail _ (ih e)
theorem eqL_of (a : List Nat) {b : List Nat} (h : eqL a b = true) : a = b := of_decide_eq_true ((eqL_eq a b).symm.trans h)
theorem allF_all {α : Type} {f : α → Bool} {l : List α} (h : allF f l = true) : ∀ x ∈ l, f x = true := by rw [allF_eq] at h; exact List.all_eq_true.mp h
theorem Tri.look_mk (k : Nat) : ∀ i, (Tri.mk k).look i = none := by
  induction k with
  | zero => exact fun _ => rfl
  | succ k ih =>
    intro i
    show bt (Nat.ble (Nat.pow 2 k) i) ((Tri.mk k).look _) ((Tri.mk k).look i) = none
    rw [ih, ih]; cases Nat.ble (Nat.pow 2 k) i <;> rfl
theorem Tri.look_set (t : Tri) {o mo : MO} : ∀ {i j : Nat}, (t.set o i).look j = some mo → (j = i ∧ mo = o) ∨ (j ≠ i ∧ t.look j = some mo) := by
  induction t with
  | nil => intro i j e; cases i with
    | zero => cases j with | zero => (injection e with z1; subst z1); exact .inl ⟨rfl, rfl⟩ | succ _ => injection e
    | succ _ => injection e
  | leaf o' => intro i j e; cases i with
    | zero => cases j with | zero => (injection e with z1; subst z1); exact .inl ⟨rfl, rfl⟩ | succ _ => injection e
    | succ _ => cases j with | zero => exact .inr ⟨nofun, e⟩ | succ _ => injection e
  | node h l r ihl ihr =>
    intro i j e
    change (bt (Nat.ble h i) (Tri.node h l (r.set o (Nat.sub i h))) (.node h (l.set o i) r)).look j = some mo at e
    show _ ∨ (j ≠ i ∧ bt (Nat.ble h j) (r.look (Nat.sub j h)) (l.look j) = some mo)
    have ne : ∀ {b : Bool}, Nat.ble h i = b → Nat.ble h j = !b → j ≠ i := fun a c q => by rw [q, a] at c; cases ‹Bool› <;> injection c
    cases h1 : Nat.ble h i <;> rw [h1] at e
    · change bt (Nat.ble h j) (r.look (Nat.sub j h)) ((l.set o i).look j) = some mo at e
      cases h2 : Nat.ble h j <;> rw [h2] at e
      · exact ihl e
      · exact .inr ⟨ne h1 h2, e⟩
    · change bt (Nat.ble h j) ((r.set o (Nat.sub i h)).look (Nat.sub j h)) (l.look j) = some mo at e
      cases h2 : Nat.ble h j <;> rw [h2] at e
      · exact .inr ⟨ne h1 h2, e⟩
      · exact (ihr e).imp (fun q1 => ob_A q1 fun q w => ⟨by have := Nat.ble_eq.mp h1; have := Nat.ble_eq.mp h2; have q : j - h = i - h := q; omega, w⟩) fun q1 => ob_A q1 fun q w => ⟨fun z => q (by rw [z]), w⟩
section
variable {T : Tb} {atm : Nat → Int} {tok : Nat → List Nat} {jar : Nat → Nat → MO} (h : Fit T atm tok jar)
include h
theorem f_lit {i : Int} (c : isC i = true) : (mkP atm tok jar).f i = i := by
  show atm (ck i) + (i - Int.ofNat (Nat.mul (ck i) 1267650600228229401496703205376)) = i
  rw [isC_ck c, h.at0]; exact (Int.zero_add _).trans (Int.sub_zero i)
theorem f_same {a c : Int} (e : ck c = ck a) : (mkP atm tok jar).f c = (mkP atm tok jar).f a + (c - a) := by
  show atm (ck c) + (c - Int.ofNat _) = atm (ck a) + (a - Int.ofNat _) + (c - a)
  rw [e]; omega
theorem f_cod {k o : Nat} (l : o < 2000000) : (mkP atm tok jar).f (cod k o) = atm k + Int.ofNat o := by
  show atm (ck (cod k o)) + co (cod k o) = _
  rw [ck_cod l, co_cod l]
theorem wt_le (x : List Nat) : (x.flatMap tok).length ≤ wt x := by
  induction x with
  | nil => exact Nat.le_refl 0
  | cons c x ih =>
    rw [List.flatMap_cons, List.length_append]
    show _ ≤ bt (one1 c) (Nat.succ (wt x)) (Nat.add (wt x) 5000)
    cases e : one1 c with
    | true => rw [h.one e, Nat.add_comm]; exact Nat.succ_le_succ ih
    | false => rw [Nat.add_comm]; exact Nat.add_le_add ih (h.tokl c)
theorem fit_lt {x : List Nat} (g : fitT x = true) : (x.flatMap tok).length < 100000 := Nat.lt_of_le_of_lt (wt_le h x) (Nat.lt_succ_of_le (Nat.ble_eq.mp g))
theorem ones_len {x : List Nat} (g : allF one1 x = true) : (x.flatMap tok).length = x.length := by
  induction x with
  | nil => rfl
  | cons c x ih =>
    refine ob_A (allF_cons g) fun g1 g2 => ?_
    rw [List.flatMap_cons, List.length_append, h.one g1, ih g2, Nat.add_comm]; rfl
theorem low_flat {x : List Nat} (g : allF (fun c => Nat.ble c 255) x = true) : x.flatMap tok = x := by
  induction x with
  | nil => rfl
  | cons c x ih =>
    refine ob_A (allF_cons g) fun g1 g2 => ?_
    rw [List.flatMap_cons, h.low c (Nat.lt_succ_of_le (Nat.ble_eq.mp g1)), ih g2]; rfl
theorem ix_at {x : List Nat} {i : Int} {j : Nat} (e : ixT T x i = some j) : (mkP atm tok jar).f i = Int.ofNat ((x.take j).flatMap tok).length ∧ j ≤ x.length := by
  refine ob_EA (oo_some e) fun pr h1 e => ?_
  refine ob_EA (oo_some e) fun o h2 e => ?_
  refine ob_A (bt_some e) fun h3 e => ?_
  refine ob_A (bt_some e) fun h4 e => ?_
  refine ob_A (bt_some e) fun h5 e => ?_
  injection e with z1; subst z1
  have h4 := Nat.eq_of_beq_eq_true h4
  have h3 := eqL_of _ h3
  rw [lenF_eq, takeF_eq, dropF_eq, List.length_take] at h4
  rw [lenF_eq] at h3 h4 h5
  rw [takeF_eq] at h3 h5
  rw [dropF_eq] at h5
  rw [List.length_drop] at h4
  have lp : pr.length ≤ x.length := by rw [h3, List.length_take]; exact Nat.min_le_right ..
  rw [lenF_eq]
  refine ⟨?_, show pr.length + o ≤ _ by omega⟩
  have hp : atm (ck i) = Int.ofNat (pr.flatMap tok).length := h.pres _ (luk_mem _ h1)
  show atm (ck i) + co i = _
  rw [hp, (iNat_of h2).1, show pr.length.add o = pr.length + o from rfl, List.take_add, ← h3, List.flatMap_append, List.length_append, ones_len h h5, List.length_take, List.length_drop]
  show ((_ : Nat) : Int) + ((o : Nat) : Int) = ((_ : Nat) : Int)
  omega
theorem len_at {x : List Nat} {c : Int} (l : (x.flatMap tok).length < 1000000) (e : lenT T x = some c) : (mkP atm tok jar).f c = Int.ofNat (x.flatMap tok).length := by
  have key : ∀ ps : List (Nat × List Nat), (∀ q ∈ ps, q ∈ T.pres) → List.rec (motive := fun _ => Option Int) none (fun q _ ih => bt (eqL q.2 (takeF x (lenF q.2))) (bt (allF one1 (dropF (lenF q.2) x)) (some (cod q.1 (lenF (dropF (lenF q.2) x)))) ih) ih) ps = some c → (mkP atm tok jar).f c = Int.ofNat (x.flatMap tok).length := fun ps => by
    induction ps with
    | nil => exact fun _ e => nomatch e
    | cons q ps ih =>
      intro m e
      have ih := ih fun q m' => m q (.tail _ m')
      change bt (eqL q.2 (takeF x (lenF q.2))) (bt (allF one1 (dropF (lenF q.2) x)) (some (cod q.1 (lenF (dropF (lenF q.2) x)))) _) _ = some c at e
      cases h1 : eqL q.2 (takeF x (lenF q.2)) with
      | false => rw [h1] at e; exact ih e
      | true =>
        rw [h1] at e
        change bt (allF one1 (dropF (lenF q.2) x)) (some (cod q.1 (lenF (dropF (lenF q.2) x)))) _ = some c at e
        cases h2 : allF one1 (dropF (lenF q.2) x) with
        | false => rw [h2] at e; exact ih e
        | true =>
          rw [h2] at e; injection e with z1; subst z1
          have h1 := eqL_of _ h1
          rw [takeF_eq] at h1
          rw [dropF_eq] at h2 ⊢
          have e2 : (x.flatMap tok).length = (q.2.flatMap tok).length + (x.drop (lenF q.2)).length := by rw [← ones_len h h2]; conv => lhs; rw [← List.take_append_drop (lenF q.2) x, ← h1, List.flatMap_append, List.length_append]
          rw [lenF_eq (x.drop _), f_cod h (by omega), h.pres q (m q (.head _)), e2]; rfl
  exact key _ (fun _ m => m) e
omit h in
theorem lt2_aux {a b d : Int} (h1 : d ≤ atm (ck a) - atm (ck b)) (h2 : iLe 0 (d + (co a - co b)) = true) : ¬ (mkP atm tok jar).f a < (mkP atm tok jar).f b := by
  have := iLe_of h2
  show ¬ atm (ck a) + co a < atm (ck b) + co b
  omega
theorem ltG_at {a b : Int} {r : Bool} (e : ltG T a b = some r) : r = false ∧ ¬ (mkP atm tok jar).f a < (mkP atm tok jar).f b := by
  refine ob_EA (oo_some e) fun d h1 e => ?_
  refine ob_A (bt_some e) fun h2 e => ?_
  injection e with z1; subst z1
  exact ⟨rfl, lt2_aux (h.lo h1) h2⟩
theorem lt2_at {a b : Int} {r : Bool} (e : ltI2 T a b = some r) : decide ((mkP atm tok jar).f a < (mkP atm tok jar).f b) = r := by
  have g : ltG T a b = some r → decide ((mkP atm tok jar).f a < (mkP atm tok jar).f b) = r := fun e => ob_A (ltG_at h e) fun e1 e2 => e1 ▸ decide_eq_false e2
  unfold ltI2 at e
  cases h1 : T.lo (ck b) (ck a) with
  | none => rw [h1] at e; exact g e
  | some d =>
    rw [h1] at e
    change bt (iLe 1 (d + (co b - co a))) (some true) (ltG T a b) = some r at e
    cases h2 : iLe 1 (d + (co b - co a)) with
    | false => rw [h2] at e; exact g e
    | true =>
      rw [h2] at e; injection e with z1; subst z1
      have := iLe_of h2
      have := h.lo h1
      refine decide_eq_true ?_
      show atm (ck a) + co a < atm (ck b) + co b
      omega
theorem lt_at {a b : Int} {r : Bool} (e : ltI T a b = some r) : decide ((mkP atm tok jar).f a < (mkP atm tok jar).f b) = r := by
  unfold ltI at e
  cases h1 : Nat.beq (ck a) (ck b) with
  | false => rw [h1] at e; exact lt2_at h e
  | true =>
    rw [h1] at e; injection e with z1; subst z1
    rw [iLt_eq, f_same h (Nat.eq_of_beq_eq_true h1)]
    exact decide_eq_decide.mpr (by omega)
theorem eq_at' {a b : Int} {r : Bool} (e : eqI T a b = some r) : decide ((mkP atm tok jar).f a = (mkP atm tok jar).f b) = r := by
  unfold eqI at e
  cases h1 : Nat.beq (ck a) (ck b) with
  | true =>
    rw [h1] at e; injection e with z1; subst z1
    rw [iEq_eq, f_same h (Nat.eq_of_beq_eq_true h1)]
    exact decide_eq_decide.mpr (by omega)
  | false =>
    rw [h1] at e
    have ne : ∀ {o d : Option Bool}, neI o d = some r → (o = some true ∧ r = false) ∨ d = some r := fun {o d} e => by
      cases o with
      | none => exact .inr e
      | some c => cases c with
        | false => exact .inr e
        | true => (injection e with z1; subst z1); exact .inl ⟨rfl, rfl⟩
    rcases ne e with ⟨q, rfl⟩ | e
    · have := of_decide_eq_true (lt2_at h q); exact decide_eq_false (by omega)
    · rcases ne e with ⟨q, rfl⟩ | e
      · have := of_decide_eq_true (lt2_at h q); exact decide_eq_false (by omega)
      · injection e
theorem mv_at {a b c d : Int} (e : mvI a b c = some d) : d = c ∧ (mkP atm tok jar).f b = b ∧ (mkP atm tok jar).f c = (mkP atm tok jar).f a + (c - a) := by
  refine ob_A (bt_some e) fun h1 e => ?_
  refine ob_A (bt_some e) fun h2 e => ?_
  injection e with z1; subst z1
  exact ⟨rfl, f_lit h h1, f_same h (Nat.eq_of_beq_eq_true h2)⟩
theorem ar_at {op : Operator} {a b c : Int} (e : (arO T op).f a b = some c) : (op = .Add ∧ (mkP atm tok jar).f c = (mkP atm tok jar).f a + (mkP atm tok jar).f b) ∨ (op = .Sub ∧ (mkP atm tok jar).f c = (mkP atm tok jar).f a - (mkP atm tok jar).f b) := by
  cases op with
  | Add =>
    refine .inl ⟨rfl, ?_⟩
    change oo (mvI a b (a + b)) some (T.add a b) = some c at e
    cases h1 : T.add a b with
    | some d => rw [h1] at e; injection e with z1; subst z1; exact h.add h1
    | none => rw [h1] at e; refine ob_AA (mv_at h e) fun z1 e1 e2 => ?_; subst z1; rw [e2, e1]; omega
  | Sub =>
    refine .inr ⟨rfl, ?_⟩
    change oo (mvI a b (a - b)) some (T.sub a b) = some c at e
    cases h1 : T.sub a b with
    | some d => rw [h1] at e; injection e with z1; subst z1; exact h.sub h1
    | none => rw [h1] at e; refine ob_AA (mv_at h e) fun z1 e1 e2 => ?_; subst z1; rw [e2, e1]; omega
  | _ => injection e
theorem Fit.ok (bj : True) : DmOk (DT T) (mkP atm tok jar) where
  nil := ⟨Tri.look_mk 8, rfl⟩
  push := fun e => by refine ob_A (bt_some e) fun g e => ?_; injection e with z1; subst z1; exact ⟨rfl, fun i mo e => (Tri.look_set _ e).imp id And.right⟩
  set := ⟨rfl, fun j mo e => Tri.look_set _ e⟩
  num := fun n l => f_lit h (Nat.ble_eq.mpr (Nat.le_trans (Nat.le_of_lt l) (by decide)))
  ar := fun {op a b c} prog w A s {Q E t u} e hQ => by
    rcases ar_at h (op := op) (a := a) (b := b) e with ⟨rfl, q⟩ | ⟨rfl, q⟩
    · rw [q] at hQ; exact add_int (hQ _ _)
    · rw [q] at hQ; exact sub_int (hQ _ _)
  neg := fun {a c} e => by
    rcases ar_at h (op := .Sub) (a := 0) (b := a) e with ⟨q, _⟩ | ⟨_, q⟩
    · injection q
    · rw [q, f_lit h (show isC 0 = true from rfl)]; omega
  lt := lt_at h
  eq := eq_at' h
  eqb := fun e => by refine ob_A (bt_some e) fun g e => ?_; injection e with z1; subst z1; rw [eqL_of _ g]; exact decide_eq_true rfl
  nat := fun e => by
    refine ob_A (iNat_of e) fun z1 l => ?_; subst z1
    exact ⟨f_lit h (Nat.ble_eq.mpr (Nat.le_trans (Nat.le_of_lt l) (by decide))), l⟩
  ix := fun {l i v} e => by
    change oo (oo none (fun n => nth l n) (iNat i)) some (T.pick l i) = some v at e
    cases h1 : T.pick l i with
    | some u => rw [h1] at e; injection e with z1; subst z1; exact h.pick h1
    | none =>
      rw [h1] at e
      refine ob_EA (oo_some e) fun n e1 e2 => ?_
      refine ob_A (iNat_of e1) fun z1 l => ?_; subst z1
      exact ⟨n, v, f_lit h (Nat.ble_eq.mpr (Nat.le_trans (Nat.le_of_lt l) (by decide))), l, e2, fun _ _ _ r => r⟩
  cutb := fun {x a b y} e => by
    refine ob_EA (oo_some e) fun i h1 e => ?_
    refine ob_EA (oo_some e) fun j h2 e => ?_
    refine ob_A (bt_some e) fun h3 e => ?_
    refine ob_A (bt_some e) fun h4 e => ?_
    injection e with z1; subst z1
    have h3 := Nat.ble_eq.mp h3
    have l := fit_lt h h4
    have l1 : ∀ {i}, oo (some 0) (ixT T x) a = some i → (∀ z, a = some z → (mkP atm tok jar).f z = Int.ofNat ((x.take i).flatMap tok).length) ∧ (a = none → ((x.take i).flatMap tok).length = 0) := fun e => by
      cases a with
      | none => (injection e with z1; subst z1); exact ⟨nofun, fun _ => rfl⟩
      | some z => exact ⟨fun _ q => Option.some.inj q ▸ (ix_at h e).1, nofun⟩
    have l2 : ∀ {j}, oo (some (lenF x)) (ixT T x) b = some j → (∀ z, b = some z → (mkP atm tok jar).f z = Int.ofNat ((x.take j).flatMap tok).length) ∧ (b = none → ((x.take j).flatMap tok).length = (x.flatMap tok).length) := fun e => by
      cases b with
      | none => (injection e with z1; subst z1); exact ⟨nofun, fun _ => by rw [lenF_eq, List.take_length]⟩
      | some z => exact ⟨fun _ q => Option.some.inj q ▸ (ix_at h e).1, nofun⟩
    refine ob_A (l1 h1) fun a1 a2 => ?_
    refine ob_A (l2 h2) fun b1 b2 => ?_
    have ej : x.take j = x.take i ++ (x.drop i).take (j - i) := by rw [← List.take_add, Nat.add_sub_cancel' h3]
    have ex : x.flatMap tok = (x.take i).flatMap tok ++ (((x.drop i).take (j - i)).flatMap tok ++ (x.drop j).flatMap tok) := by
      rw [← List.append_assoc, ← List.flatMap_append, ← ej, ← List.flatMap_append, List.take_append_drop]
    have ln := congrArg (fun y => (y.flatMap tok).length) ej
    rw [List.flatMap_append, List.length_append] at ln
    refine ⟨_, _, a1, a2, b1, b2, by omega, ?_, Nat.lt_trans l (by decide), ?_⟩
    · show _ ≤ (x.flatMap tok).length
      rw [ex, List.length_append, List.length_append]; omega
    · show ((takeF (dropF i x) (j - i)).flatMap tok) = ((x.flatMap tok).drop _).take _
      rw [takeF_eq, dropF_eq, ex, List.drop_left, show ((x.take j).flatMap tok).length - ((x.take i).flatMap tok).length = (((x.drop i).take (j - i)).flatMap tok).length by omega]
      exact List.take_left.symm
  fit := fit_lt h
  lit := f_lit h
  tokb := h.low
  raw := low_flat h
  blen := fun e => by
    refine ob_A (bt_some e) fun g e => ?_
    have l := Nat.lt_trans (fit_lt h g) (show 100000 < 1000000 by decide)
    exact ⟨⟨_, len_at h l e, rfl⟩, l⟩
  bix := fun {x i c} e => by
    refine ob_EA (oo_some e) fun j h1 e => ?_
    refine ob_EA (oo_some e) fun c' h2 e => ?_
    refine ob_A (bt_some e) fun h3 e => ?_
    refine ob_A (bt_some e) fun h4 e => ?_
    cases e
    refine ob_A (ix_at h h1) fun e1 _u => ?_
    refine ⟨_, e1, ?_, Nat.lt_trans (fit_lt h h4) (show 100000 < 1000000 by decide)⟩
    rw [nth_eq] at h2
    refine ob_E (List.getElem?_eq_some_iff.mp h2) fun l e2 => ?_
    show (x.flatMap tok)[((x.take j).flatMap tok).length]? = some c
    conv => lhs; arg 1; rw [← List.take_append_drop j x, List.drop_eq_getElem_cons l, e2]
    rw [List.flatMap_append, List.flatMap_cons, h.low c (Nat.lt_succ_of_le (Nat.ble_eq.mp h3)), List.getElem?_append_right (Nat.le_refl _), Nat.sub_self]
    rfl
end
end
end Mine
namespace Mine
open PySem PyProof.Rows PySem.W
open PySem.Builtin
noncomputable section
theorem idt (x : List Nat) : x.flatMap idp.tok = x := by induction x with | nil => rfl | cons c x ih => exact congrArg (c :: ·) ih
theorem app_one {mo : MO} (s : List MO) {o : MO} : lenF (app s [o]) = Nat.succ (lenF s) ∧ ∀ i, nth (app s [o]) i = some mo → (i = lenF s ∧ mo = o) ∨ nth s i = some mo := by
  induction s with
  | nil => exact ⟨rfl, fun i e => by cases i with | zero => (injection e with z1; subst z1); exact .inl ⟨rfl, rfl⟩ | succ i => injection e⟩
  | cons a s ih => exact ⟨congrArg Nat.succ ih.1, fun i e => by cases i with | zero => exact .inr e | succ i => exact (ih.2 i e).imp (fun q => ⟨congrArg Nat.succ q.1, q.2⟩) id⟩
theorem set_at (s : List MO) {mo o : MO} : ∀ i, lenF (setN s o i) = lenF s ∧ ∀ j, nth (setN s o i) j = some mo → (j = i ∧ mo = o) ∨ (j ≠ i ∧ nth s j = some mo) := by
  induction s with
  | nil => exact fun i => ⟨rfl, fun j e => nomatch e⟩
  | cons a s ih =>
    intro i
    cases i with
    | zero => exact ⟨rfl, fun j e => by cases j with | zero => (injection e with z1; subst z1); exact .inl ⟨rfl, rfl⟩ | succ j => exact .inr ⟨nofun, e⟩⟩
    | succ i => exact ⟨congrArg Nat.succ (ih i).1, fun j e => by cases j with | zero => exact .inr ⟨nofun, e⟩ | succ j => exact ((ih i).2 j e).imp (fun q => ⟨congrArg Nat.succ q.1, q.2⟩) fun q => ⟨fun z => q.1 (Nat.succ.inj z), q.2⟩⟩
theorem bits_le {a : Int} (h : Nat.ble a.natAbs big = true) : Builtin.Int.intBits a ≤ 721 := by
  have h := Nat.ble_eq.mp h
  unfold Builtin.Int.intBits
  split
  · exact Nat.zero_le _
  · rename_i z
    exact (Nat.log2_lt (by simpa using z)).mpr (Nat.lt_of_le_of_lt h (by decide))
theorem noPylong {a b : Int} (h : 0 < b) (h2 : b < 2 ^ 30) : Builtin.divisionGoesByPylong a b = false := by
  unfold Builtin.divisionGoesByPylong
  have q : b.natAbs.log2 < 30 := (Nat.log2_lt (by omega)).mpr (by omega)
  simp [show b ≠ 0 by omega]
  intro z
  omega
section
variable {prog : Program} {w : World} {A : Around} {s : Shared} {Q : Value → Shared → Prop} {E : Value → Shared → Prop} {t u : Tok} {a b c : Int}
theorem mul_at (e : mulI a b = some c) (hQ : ∀ k v, Q (.int c v) { s with toks := k }) : wpAny (model prog w) A (binaryOp .Mult (.int a t) (.int b u)) Q E s := by
  refine ob_A (bt_some e) fun h1 e => ?_
  refine ob_A (bt_some e) fun h2 e => ?_
  injection e with z1; subst z1
  have z : (2 : Nat) ^ 20 = 1048576 := by decide
  exact PyProof.Rows.mul_int (hQ _ _) (IntMulOk.of_bits (by have := bits_le h1; omega) (by have := bits_le h2; omega))
theorem mod_at (e : modI a b = some c) (hQ : ∀ k v, Q (.int c v) { s with toks := k }) : wpAny (model prog w) A (binaryOp .Mod (.int a t) (.int b u)) Q E s := by
  cases b with
  | negSucc _ => injection e
  | ofNat n =>
    refine ob_A (bt_some e) fun h1 e => ?_
    cases a with
    | negSucc _ => injection e
    | ofNat m =>
      injection e with z1; subst z1
      refine mod_int' (Int.ne_of_gt (Int.ofNat_lt.mpr (Nat.ble_eq.mp h1))) ?_
      rw [show Int.fmod (Int.ofNat m) (Int.ofNat n) = Int.ofNat (m % n) from (Int.fmod_eq_emod_of_nonneg _ (Int.natCast_nonneg n)).trans rfl]
      exact hQ _ _
theorem div_at (e : divI a b = some c) (hQ : ∀ k v, Q (.int c v) { s with toks := k }) : wpAny (model prog w) A (binaryOp .FloorDiv (.int a t) (.int b u)) Q E s := by
  cases b with
  | negSucc _ => injection e
  | ofNat n =>
    refine ob_A (bt_some e) fun h1 e => ?_
    refine ob_A (bt_some e) fun h2 e => ?_
    injection e with z1; subst z1
    have h1 := Nat.ble_eq.mp h1
    have h2 : n < 2 ^ 30 := Nat.lt_of_le_of_lt (Nat.ble_eq.mp h2) (by decide)
    refine floordiv_int (Int.ne_of_gt (Int.ofNat_lt.mpr h1)) ?_ (.inl (noPylong (Int.ofNat_lt.mpr h1) (Int.ofNat_lt.mpr h2)))
    have : Int.fdiv a (Int.ofNat n) = Int.rec (motive := fun _ => Int) (fun m => .ofNat (Nat.div m n)) (fun m => .negSucc (Nat.div m n)) a := by
      cases n with
      | zero => cases h1
      | succ n => cases a with
        | ofNat m => cases m with
          | zero => show (0 : Int) = Int.ofNat (0 / (n + 1)); rw [Nat.zero_div]; rfl
          | succ m => rfl
        | negSucc m => rfl
    rw [this]
    exact hQ _ _
theorem shr_at (e : shrI a b = some c) (hQ : ∀ k v, Q (.int c v) { s with toks := k }) : wpAny (model prog w) A (binaryOp .RShift (.int a t) (.int b u)) Q E s := by
  cases b with
  | negSucc _ => injection e
  | ofNat n =>
    refine ob_A (bt_some e) fun h1 e => ?_
    cases a with
    | negSucc _ => injection e
    | ofNat m =>
      injection e with z1; subst z1
      refine rshift_int (Int.natCast_nonneg n) ?_
      rw [show Int.fdiv (Int.ofNat m) (2 ^ (Int.ofNat n).toNat) = Int.ofNat (m / 2 ^ n) from by
        rw [show ((2 : Int) ^ (Int.ofNat n).toNat) = ((2 ^ n : Nat) : Int) from (Int.natCast_pow 2 n).symm, Int.fdiv_eq_ediv_of_nonneg _ (Int.natCast_nonneg _)]; rfl]
      exact hQ _ _
theorem and_at (e : andI a b = some c) (hQ : ∀ k v, Q (.int c v) { s with toks := k }) : wpAny (model prog w) A (binaryOp .BitAnd (.int a t) (.int b u)) Q E s := by
  refine ob_A (bt_some e) fun h1 e => ?_
  have z0 := iEq_of h1; subst z0
  cases a with
  | negSucc _ => injection e
  | ofNat m =>
    injection e with z1; subst z1
    refine and_int (Q := Q) (s := s) ?_
    have q := bitAnd_pp (x := Int.ofNat m) (y := Int.ofNat 255) (Int.natCast_nonneg m) (by decide)
    rw [show (Int.ofNat 255).toNat = 2 ^ 8 - 1 from rfl, Nat.and_two_pow_sub_one_eq_mod] at q
    rw [q]
    exact hQ _ _
theorem pow_at (e : powI a b = some c) (hQ : ∀ k v, Q (.int c v) { s with toks := k }) : wpAny (model prog w) A (binaryOp .Pow (.int a t) (.int b u)) Q E s := by
  refine ob_A (bt_some e) fun h1 e => ?_
  refine ob_A (bt_some e) fun h2 e => ?_
  have z0 := iEq_of h1; subst z0; have z0 := iEq_of h2; subst z0
  injection e with z1; subst z1
  exact pow_int (by decide) (by decide) (hQ _ _)
theorem arX_at (op : Operator) (e : (arX op).f a b = some c) (hQ : ∀ k v, Q (.int c v) { s with toks := k }) : wpAny (model prog w) A (binaryOp op (.int a t) (.int b u)) Q E s := by
  cases op with
  | Add => rw [← Option.some.inj e] at hQ; exact add_int (hQ _ _)
  | Sub => rw [← Option.some.inj e] at hQ; exact sub_int (hQ _ _)
  | Mult => exact mul_at e hQ
  | Mod => exact mod_at e hQ
  | FloorDiv => exact div_at e hQ
  | RShift => exact shr_at e hQ
  | BitAnd => exact and_at e hQ
  | Pow => exact pow_at e hQ
  | _ => exact nomatch e
end
theorem endX_at {d i : Nat} {o : Option Int} (e : endX d o = some i) : (∀ z, o = some z → z = Int.ofNat i) ∧ (o = none → i = d) := by
  cases o with
  | none => exact ⟨nofun, fun _ => (Option.some.inj e).symm⟩
  | some z => exact ⟨fun _ q => Option.some.inj q ▸ (iNat_of e).1, nofun⟩
theorem exact_ok : DmOk DX idp where
  nil := ⟨fun _ => rfl, rfl⟩
  push := fun {s o s'} e => by
    rw [← Option.some.inj (show some (app s [o]) = some s' from e)]
    exact ⟨(app_one (mo := o) s).1, fun i mo => (app_one s).2 i⟩
  set := fun {s i o} => ⟨(set_at (mo := o) s i).1, fun j mo => (set_at s i).2 j⟩
  num := fun _ _ => rfl
  ar := fun {op a b c} prog w A s {Q E t u} e hQ => arX_at op e hQ
  neg := fun {a c} e => (Option.some.inj (show some (0 - a) = some c from e)) ▸ Int.zero_sub a
  lt := fun {a b r} e => (iLt_eq a b).symm.trans (Option.some.inj e)
  eq := fun {a b r} e => (iEq_eq a b).symm.trans (Option.some.inj e)
  eqb := fun {x y r} e => by
    rw [idt, idt, ← eqL_eq]
    exact Option.some.inj e
  nat := iNat_of
  ix := fun e => by refine ob_EA (oo_some e) fun n e1 e2 => ?_; refine ob_A (iNat_of e1) fun z1 l => ?_; subst z1; exact ⟨n, _, rfl, l, e2, fun _ _ _ r => r⟩
  cutb := fun {x a b y} e => by
    refine ob_EA (oo_some e) fun i h1 e => ?_
    refine ob_EA (oo_some e) fun j h2 e => ?_
    refine ob_A (bt_some e) fun h3 e => ?_
    refine ob_A (bt_some e) fun h4 e => ?_
    refine ob_A (bt_some e) fun h5 e => ?_
    injection e with z1; subst z1
    refine ob_A (endX_at h1) fun a1 a2 => ?_
    refine ob_A (endX_at h2) fun b1 b2 => ?_
    rw [lenF_eq] at h4 b2
    rw [idt, idt]
    exact ⟨i, j, a1, a2, b1, b2, Nat.ble_eq.mp h3, Nat.ble_eq.mp h4, (lenF_eq x ▸ ble_small h5), by rw [takeF_eq, dropF_eq]; rfl⟩
  fit := fun {x} g => by rw [idt, ← lenF_eq]; exact Nat.lt_succ_of_le (Nat.ble_eq.mp g)
  lit := fun _ => rfl
  tokb := fun _ _ => rfl
  raw := fun _ => idt _
  blen := fun {x c} e => by
    refine ob_A (bt_some e) fun h5 e => ?_
    rw [idt, ← Option.some.inj e, ← lenF_eq]
    exact ⟨⟨_, rfl, rfl⟩, ble_small h5⟩
  bix := fun {x i c} e => by
    refine ob_EA (oo_some e) fun n h1 e => ?_
    refine ob_A (bt_some e) fun h5 e => ?_
    rw [idt]
    exact ⟨n, (iNat_of h1).1, (nth_eq x n).symm.trans e, lenF_eq x ▸ ble_small h5⟩
end
end Mine
namespace Mine
open PySem PyProof.Rows PySem.W
open PySem.Builtin
noncomputable section
def mV (p : Mp) (v : V) : V := V.rec (motive_1 := fun _ => V) (motive_2 := fun _ => List V) .none .bool (fun i => .int (p.f i)) .str (fun b => .byt (b.flatMap p.tok)) (fun _ r => .tup r) .obj .ref .bi [] (fun _ _ a b => a :: b) v
def mVL (p : Mp) (l : List V) : List V := List.rec (motive := fun _ => List V) [] (fun v _ r => mV p v :: r) l
theorem mV_tup (p : Mp) (l : List V) : mV p (.tup l) = .tup (mVL p l) := by
  refine congrArg V.tup ?_
  induction l with
  | nil => rfl
  | cons v l ih => exact congrArg (mV p v :: ·) ih
section
variable {p : Mp} {h : Heap} {ι ι' : Io}
theorem mV_iff (v : V) : ∀ {x : Value}, vG v = true → (VR idp h ι' (mV p v) x ↔ VR p h ι v x) :=
  V.rec (motive_1 := fun v => ∀ {x : Value}, vG v = true → (VR idp h ι' (mV p v) x ↔ VR p h ι v x)) (motive_2 := fun l => ∀ {ws : List Value}, vGL l = true → (VRL idp h ι' (mVL p l) ws ↔ VRL p h ι l ws))
    (fun _ => .rfl) (fun _ _ _ => .rfl) (fun _ _ _ => .rfl) (fun _ _ _ => .rfl) (fun b x _ => by show (_ ∧ _) ↔ (_ ∧ _); rw [idt])
    (fun l ih x g => by
      rw [mV_tup]
      rw [vG_tup] at g
      exact ⟨fun q1 => ob_EEAA q1 fun a ws e t r => ⟨a, ws, e, t, (ih g).mp r⟩, fun q1 => ob_EEAA q1 fun a ws e t r => ⟨a, ws, e, t, (ih g).mpr r⟩⟩)
    (fun _ _ g => nomatch g) (fun _ _ _ => .rfl) (fun _ _ _ => .rfl) (fun _ => .rfl)
    (fun v l i1 i2 ws g => by
      refine ob_A (btt (show bt (vG v) (vGL l) false = true from g)) fun g1 g2 => ?_
      cases ws with
      | nil => exact .rfl
      | cons w u => exact ⟨fun r => ⟨(i1 g1).mp r.1, (i2 g2).mp r.2⟩, fun r => ⟨(i1 g1).mpr r.1, (i2 g2).mpr r.2⟩⟩) v
theorem mVL_iff (l : List V) : ∀ {ws : List Value}, vGL l = true → (VRL idp h ι' (mVL p l) ws ↔ VRL p h ι l ws) := by
  induction l with
  | nil => exact fun _ => .rfl
  | cons v l ih =>
    intro ws g
    refine ob_A (btt (show bt (vG v) (vGL l) false = true from g)) fun g1 g2 => ?_
    cases ws with
    | nil => exact .rfl
    | cons w u => exact ⟨fun r => ⟨(mV_iff v g1).mp r.1, (ih g2).mp r.2⟩, fun r => ⟨(mV_iff v g1).mpr r.1, (ih g2).mpr r.2⟩⟩
end
def Cst.sw {S S' : Type} (C : Cst S) (D : Dm S') (p : Mp) (P : Prg) : Cst S' := ⟨D, p, P, C.K, C.prog, C.w, C.base, C.s0⟩
section
variable {S S' : Type} {C : Cst S} {F : Fr} {W : Wd S} {W2 : Wd S'} {D : Dm S'} {p : Mp} {P : Prg}
theorem Fut.sub {W' : Wd S'} (T : Sat C F W) (eh : W'.h = W.h) (sub : ∀ i a d, Pl W'.ι i a d → Pl W.ι i a d) (z : Fut (C.sw D p P) F [] W' W2) (σ1 : S) (l : C.D.len σ1 = C.D.len W.σ)
    (hσ : ∀ i mo, C.D.look σ1 i = some mo → (C.D.look W.σ i = some mo ∧ ∀ a d, ¬ Pl W'.ι i a d) ∨ ∃ a d, Pl W'.ι i a d ∧ OR C.prog C.w C.p W2.h W.ι a d mo) (ha : ∀ i a d, Pl W'.ι i a d → ∃ mo, OR C.prog C.w C.p W2.h W.ι a d mo) : Fut C F [] W ⟨W.ι, σ1, W2.h, W2.tk⟩ := by
  have so : ∀ b, Own W'.ι b → Own W.ι b := fun b ⟨i, a, d, e, q⟩ => ⟨i, a, d, sub i a d e, q⟩
  have kp : ∀ b o, W.h.get? b = some o → ¬ Own W'.ι b → b ∉ fadr F.envs → W2.h.get? b = some o := fun b o e n f => z.L.keep b o (eh ▸ e) n (fun m => nomatch m) f
  have L : Lat [] F.envs W.ι W.ι W.h W2.h := ⟨fun _ _ d e => ⟨d, e, .inr rfl⟩, fun _ m n => absurd m n, fun b o e n _ f => kp b o e (fun q => n (so b q)) f, fun b o e f n nx => z.L.frk b o (eh ▸ e) f (fun q => n (so b q)) nx, fun b o e nx => z.L.dom b o (eh ▸ e) nx, fun _ m => nomatch m⟩
  have same : ∀ {i a d}, Pl W.ι i a d → (∀ a d, ¬ Pl W'.ι i a d) → ∀ b, (b = a ∨ d = some b) → W2.h.get? b = W.h.get? b := fun {i a d} e n b q => by
    have own : Own W.ι b := ⟨i, a, d, e, q⟩
    refine ob_EA (T.odd own) fun o e' _u => ?_
    rw [e']
    exact kp b o e' (fun ⟨j, a', d', e2, q2⟩ => n a' d' (T.apart i j a d a' d' b e (sub j a' d' e2) q q2 ▸ e2)) fun m => let ⟨_, _, _, _, _, no, _⟩ := T.frame_mem m; no own
  refine ⟨T, ⟨z.S1.stays, fun v m => ?_, T.len.trans l.symm, fun i mo e => ?_, fun i a d e => ?_, T.apart, T.fresh, T.sysm⟩, L⟩
  · refine ob_AEEEEAAAA (z.S1.frs v m) fun k A o es ep b c d e _u => ?_
    refine ob_AEEEEAAAA (T.frs v m) fun _u A' _u _u _u b' _u _u _u f => ?_
    exact ⟨k, A, o, es, ep, b, c, d, e, Option.some.inj (b'.symm.trans b) ▸ f⟩
  · rcases hσ i mo e with ⟨e, n⟩ | ⟨a, d, e, O⟩
    · refine ob_EEA (T.objs i mo e) fun a d e' O => ?_
      exact ⟨a, d, e', O.mono T L NoTup.nil (same e' n)⟩
    · exact ⟨a, d, sub i a d e, O⟩
  · by_cases q : ∃ a d, Pl W'.ι i a d
    · refine ob_EE q fun a' d' e' => ?_
      refine ob_A ((sub i a' d' e').fn e) fun z1 z2 => ?_; subst z1; subst z2
      exact ha i _ _ e'
    · refine ob_E (T.all i a d e) fun mo O => ?_
      exact ⟨mo, O.mono T L NoTup.nil (same e fun a d e => q ⟨a, d, e⟩)⟩
def Alike (p' p : Mp) (σ : S) (r : RF S V) (r' : RF S' V) : Prop := RF.rec (motive := fun _ => Prop) (fun u _ => ∃ v, r = .ok v σ ∧ vG u = true ∧ vG v = true ∧ mV p' u = mV p v) (fun X _ => r = .exc X σ) False r'
theorem Run.via (ok : DmOk D p) {f : Addr} {vs vs' : List V} {xs : List Value} {r : RF S V} {r' : RF S' V} (h : ∀ W', VVL (C.sw D p P) W' vs' xs → W'.σ = D.nil → Run (C.sw D p P) F W' (call (.ref f) xs) r' (VV (C.sw D p P)))
    (rv : VVL C W vs xs) (g : vGL vs = true) (g' : vGL vs' = true) (e : mVL C.p vs = mVL p vs') (hr : Alike p C.p W.σ r r') : Run C F W (call (.ref f) xs) r (VV C) := ⟨fun T Q E pp => by
  have T' : Sat (C.sw D p P) F ⟨[], D.nil, W.h, W.tk⟩ := ⟨T.stays, fun v q => ob_AEEEEAAAA (T.frs v q) fun k L o es ep b c d e _u => ⟨k, L, o, es, ep, b, c, d, e, no_own⟩, ok.nil.2.symm, fun i mo e => (nomatch (ok.nil.1 i).symm.trans e), fun _ _ _ e => (nomatch e), fun _ _ _ _ _ _ _ e => (nomatch e), fun _ q => absurd q no_own, T.sysm⟩
  have rv' : VRL p W.h [] vs' xs := (mVL_iff (ι' := []) vs' g').mp (e ▸ (mVL_iff vs g).mpr rv)
  have back : ∀ {W2 : Wd S'}, Fut (C.sw D p P) F [] ⟨[], D.nil, W.h, W.tk⟩ W2 → Fut C F [] W ⟨W.ι, W.σ, W2.h, W2.tk⟩ := fun {W2} z => by
    have no : ∀ i a d, ¬ Pl [] i a d := fun _ _ _ e => nomatch e
    exact Fut.sub (W' := ⟨[], D.nil, W.h, W.tk⟩) T rfl (fun i a d e => (no i a d e).elim) z W.σ rfl (fun i mo e => .inl ⟨e, no i⟩) fun i a d e => (no i a d e).elim
  refine (h ⟨[], D.nil, W.h, W.tk⟩ rv' rfl).go T' Q E ?_
  cases r' with
  | bad => exact hr.elim
  | ok u s =>
    refine ob_EAAA hr fun v z1 g1 g2 e1 => ?_; subst z1
    exact fun W2 x _ z r => pp ⟨W.ι, W.σ, W2.h, W2.tk⟩ x rfl (back z) ((mV_iff (ι' := []) v g2).mp (e1 ▸ (mV_iff u g1).mpr r))
  | exc X s => rw [show r = _ from hr] at pp; exact fun W2 x _ z q => pp ⟨W.ι, W.σ, W2.h, W2.tk⟩ x rfl (back z) q⟩
end
end
end Mine
namespace Mine
open PySem PyProof.Rows
noncomputable section
def e00 : Expr := .Constant .none 0 ⟨0, 0, 0, 0⟩
def lp (b : List Stmt) (i : Nat) : Expr × List Stmt := oo (e00, []) (fun s => match s with | .While t b _ _ => (t, b) | .For t _ b _ _ => (t, b) | .If t b _ _ => (t, b) | _ => (e00, [])) (nth b i)
section
variable {S : Type} {ih : SemF S} {t : Expr} {b : List Stmt} {x : ES S} {s : S} {k : Nat}
theorem whl_t (h : ih.ev x.e x.s t = .ok (.bool true) s) : whlF ih t b (k + 1) x = rs (ih.ex ⟨x.e, s⟩ b) (whlF ih t b k) := by
  show rn (ih.ev x.e x.s t) _ = _
  rw [h]; rfl
theorem whl_f (h : ih.ev x.e x.s t = .ok (.bool false) s) : whlF ih t b (k + 1) x = .ok .next ⟨x.e, s⟩ := by
  show rn (ih.ev x.e x.s t) _ = _
  rw [h]; rfl
end
theorem byte_ok {m : Nat} (h : m ≤ 255) : byteI DX (.int (.ofNat m)) = some m := by
  show oo none (fun n => bt (Nat.ble n 255) (some n) none) (bt (Nat.ble m 999999) (some m) none) = _
  rw [Nat.ble_eq.mpr (Nat.le_trans h (by decide : 255 ≤ 999999))]
  show bt (Nat.ble m 255) _ _ = _
  rw [Nat.ble_eq.mpr h]; rfl
theorem small_ok {α : Type} {l : List α} (h : l.length ≤ 999999) : smallF l = true := by unfold smallF; rw [lenF_eq]; exact Nat.ble_eq.mpr h
theorem lt_no {a b : Nat} (h : b < a) : Nat.ble a b = false := by rw [nble]; exact decide_eq_false (Nat.not_le.mpr h)
section
variable (ls : Addr → Option (List V)) (n : Nat)
abbrev X : SemF (List MO) := SX (PP ls) n
def encF (k : Nat) : Nat → List Nat := Nat.rec (motive := fun _ => Nat → List Nat) (fun a => [a]) (fun _ ih a => bt (Nat.ble a 127) [a] (Nat.add 128 (Nat.mod a 128) :: ih (Nat.div a 128))) k
def enc (a : Nat) : List Nat := encF 99 a
def pushB (acc : List Nat) (o : Option Nat) : RF (List MO) V := oo .bad (fun n => gd (smallF acc) (.ok V.none [.barr (app acc [n])])) o
theorem pushB_ok {acc : List Nat} {m : Nat} (h : smallF acc = true) : pushB acc (some m) = .ok .none [.barr (app acc [m])] := by
  show gd (smallF acc) _ = _
  rw [h]; rfl
def fO : FI := fiOf (top 39) [] true
def cE0 (N : V) (a : Nat) : MEnv := ⟨fO.sc, [(kc "number", N), (kc "found", .obj 0), (kc "rest", .int (.ofNat a))]⟩
def cK (σ : List MO) (r : RF (ES (List MO)) Fl) : RF (List MO) V := outP σ (rs r fun z => (cB DX (PP ls) (dropF 3 fO.body)).run (X ls (n + 12)) z)
theorem cnt_t (N : V) (a : Nat) (acc : List Nat) : (X ls (n + 12)).ev (cE0 N a) [.barr acc] (lp fO.body 2).1 = .ok (.bool (not (Nat.ble a 127))) [.barr acc] := by kernel_rfl
theorem cnt_b (N : V) (a : Nat) (acc : List Nat) (h : byteI DX (.int (.ofNat (128 + a % 128))) = some (128 + a % 128)) (h2 : smallF acc = true) : (X ls (n + 12)).ex ⟨cE0 N a, [.barr acc]⟩ (lp fO.body 2).2 = .ok .next ⟨cE0 N (a / 128), [.barr (app acc [128 + a % 128])]⟩ := by
  have e : (X ls (n + 12)).ex ⟨cE0 N a, [.barr acc]⟩ (lp fO.body 2).2 = rs (re (cE0 N a) (pushB acc (byteI DX (.int (.ofNat (128 + a % 128))))) fun _ s => .ok .next ⟨cE0 N a, s⟩) fun z => (cB DX (PP ls) (tl1 (lp fO.body 2).2)).run (X ls (n + 11)) z := by kernel_rfl
  rw [h, pushB_ok h2] at e
  exact e.trans (by kernel_rfl)
theorem cnt_k (N : V) (a : Nat) (acc : List Nat) (σ : List MO) (h : byteI DX (.int (.ofNat a)) = some a) (h2 : smallF acc = true) (h3 : smallF (app acc [a]) = true) : cK ls n σ (.ok .next ⟨cE0 N a, [.barr acc]⟩) = .ok (.byt (app acc [a])) σ := by
  have e : cK ls n σ (.ok .next ⟨cE0 N a, [.barr acc]⟩) = outP σ (rs (re (cE0 N a) (pushB acc (byteI DX (.int (.ofNat a)))) fun _ s => .ok .next ⟨cE0 N a, s⟩) fun z => (cB DX (PP ls) (dropF 4 fO.body)).run (X ls (n + 12)) z) := by kernel_rfl
  rw [h, pushB_ok h2] at e
  refine e.trans (Eq.trans (b := outP σ (rs (re (cE0 N a) (gd (smallF (app acc [a])) (.ok (.byt (app acc [a])) [.barr (app acc [a])])) fun v s => .ok (.ret v) ⟨cE0 N a, s⟩) fun z => .ok .next z)) (by kernel_rfl) ?_)
  rw [h3]; rfl
theorem app_assoc' {α : Type} (a : List α) (x : α) (b : List α) : app (app a [x]) b = app a (x :: b) := by rw [app_eq, app_eq, app_eq, List.append_assoc]; rfl
theorem cnt_loop (N : V) (σ : List MO) (k : Nat) : ∀ (a j : Nat) (acc : List Nat), a < 128 ^ (k + 1) → acc.length + k ≤ 999998 → cK ls n σ (whlF (X ls (n + 12)) (lp fO.body 2).1 (lp fO.body 2).2 (k + 1 + j) ⟨cE0 N a, [.barr acc]⟩) = .ok (.byt (app acc (encF k a))) σ := by
  have stop : ∀ (a j : Nat) (acc : List Nat), a ≤ 127 → acc.length ≤ 999998 → cK ls n σ (whlF (X ls (n + 12)) (lp fO.body 2).1 (lp fO.body 2).2 (j + 1) ⟨cE0 N a, [.barr acc]⟩) = .ok (.byt (app acc [a])) σ := fun a j acc h h2 => by
    have t := cnt_t ls n N a acc
    rw [Nat.ble_eq.mpr h] at t
    rw [whl_f t]
    exact cnt_k ls n N a acc σ (byte_ok (Nat.le_trans h (by decide))) (small_ok (Nat.le_succ_of_le h2)) (small_ok (by rw [app_eq, List.length_append]; exact Nat.succ_le_succ h2))
  induction k with
  | zero =>
    intro a j acc h h2
    rw [Nat.add_comm (0 + 1) j]
    exact stop a j acc (Nat.le_of_lt_succ h) h2
  | succ k ih =>
    intro a j acc h h2
    rw [show k + 1 + 1 + j = (k + 1 + j) + 1 by omega]
    show _ = RF.ok (V.byt (app acc (bt (Nat.ble a 127) [a] (Nat.add 128 (Nat.mod a 128) :: encF k (Nat.div a 128))))) σ
    by_cases q : a ≤ 127
    · rw [Nat.ble_eq.mpr q]
      exact stop a _ acc q (by omega)
    · have t := cnt_t ls n N a acc
      rw [lt_no (Nat.not_le.mp q)] at t ⊢
      rw [whl_t t, cnt_b ls n N a acc (byte_ok (by omega)) (small_ok (by omega))]
      refine (ih (a / 128) j (app acc [128 + a % 128]) ?_ ?_).trans ?_
      · rw [Nat.div_lt_iff_lt_mul (by decide), ← Nat.pow_succ]; exact h
      · rw [app_eq, List.length_append]; show acc.length + 1 + k ≤ _; omega
      · rw [app_assoc']; rfl
theorem count_at (a : Nat) (σ : List MO) (h : a < 128 ^ 100) : (X ls (n + 14)).cl 269 [.int (.ofNat a)] σ = .ok (.byt (enc a)) σ :=
  Eq.trans (b := cK ls n σ (whlF (X ls (n + 12)) (lp fO.body 2).1 (lp fO.body 2).2 (99 + 1 + 100) ⟨cE0 (.int (.ofNat a)) a, [.barr []]⟩)) (by kernel_rfl) (cnt_loop ls n _ σ 99 a 100 [] h (by decide))
end
end
end Mine
namespace Mine
open PySem PyProof.Rows
noncomputable section
section
variable {ih : SemF (List MO)} {P : Prg} {z : ES (List MO)} {s : List MO} {b : List Stmt} {i : Nat}
def IfAt (P : Prg) (b : List Stmt) (i : Nat) : Prop := ∀ ih z, (cB DX P (dropF i b)).run ih z = rs (re z.e (ih.ev z.e z.s (lp b i).1) fun v s => vB .bad (fun c => bt c (ih.ex ⟨z.e, s⟩ (lp b i).2) (ih.ex ⟨z.e, s⟩ [])) v) fun z => (cB DX P (dropF (Nat.succ i) b)).run ih z
theorem if_no (h : IfAt P b i) (t : ih.ev z.e z.s (lp b i).1 = .ok (.bool false) s) (e : ih.ex ⟨z.e, s⟩ [] = .ok .next ⟨z.e, s⟩) : (cB DX P (dropF i b)).run ih z = (cB DX P (dropF (Nat.succ i) b)).run ih ⟨z.e, s⟩ := by
  rw [h ih z, t]
  show rs (ih.ex ⟨z.e, s⟩ []) _ = _
  rw [e]; rfl
end
section
variable (ls : Addr → Option (List V)) (n : Nat)
def rO : FI := fiOf (top 40) [] true
def rE (d : List Nat) (p N W s : Nat) : MEnv := ⟨rO.sc, [(kc "data", .byt d), (kc "at", .int (.ofNat p)), (kc "number", .int (.ofNat N)), (kc "weight", .int (.ofNat W)), (kc "spot", .int (.ofNat s))]⟩
def rK (σ : List MO) (r : RF (ES (List MO)) Fl) : RF (List MO) V := outP σ (rs r fun z => (cB DX (PP ls) (dropF 4 rO.body)).run (X ls (n + 12)) z)
def byR (o : Option Nat) (σ : List MO) : RF (List MO) V := oo .bad (fun c => .ok (.int (.ofNat c)) σ) o
def rdT (o1 : Option Int) (o2 : Option Nat) (s : Nat) : RF (List MO) V := rb (rb (ob [] (on .int o1)) fun y σ => ob σ (on .bool (ltF DX (.int (.ofNat s)) y))) fun v σ => vB .bad (fun b => bt b (rb (rb (byR o2 σ) fun x σ => ob σ (on .bool (ltF DX (.int (.ofNat 127)) x))) fun v σ => vB .bad (fun b => .ok (.bool b) σ) v) (.ok (.bool false) σ)) v
def rd1 (o2 : Option Nat) (N W : Nat) : RF (List MO) V := rb (rb (rb (byR o2 []) fun x σ => binF DX .Sub x (.int (.ofNat 128)) σ) fun x σ => binF DX .Mult x (.int (.ofNat W)) σ) fun y σ => binF DX .Add (.int (.ofNat N)) y σ
variable (d : List Nat) (p N W s : Nat)
theorem rd_t : (X ls (n + 12)).ev (rE d p N W s) [] (lp rO.body 3).1 = rdT (DX.blen d) (DX.bix d (.ofNat s)) s := by kernel_rfl
theorem rd_b : (X ls (n + 12)).ex ⟨rE d p N W s, []⟩ (lp rO.body 3).2 = rs (re (rE d p N W s) (rd1 (DX.bix d (.ofNat s)) N W) fun v σ => bindF (cT (.Name "number" ⟨0, 0, 0, 0⟩)) v ⟨rE d p N W s, σ⟩) fun z => (cB DX (PP ls) (tl1 (lp rO.body 3).2)).run (X ls (n + 11)) z := by kernel_rfl
theorem rd_i4 : IfAt (PP ls) rO.body 4 := fun ih z => by kernel_rfl
theorem rd_i5 : IfAt (PP ls) rO.body 5 := fun ih z => by kernel_rfl
theorem rd_t4 : (X ls (n + 12)).ev (rE d p N W s) [] (lp rO.body 4).1 = rb (ob [] (on .int (DX.blen d))) fun y σ => ob σ (on .bool ((cO DX .GtE).f (.int (.ofNat s)) y σ)) := by kernel_rfl
theorem rd_t5 : (X ls (n + 12)).ev (rE d p N W s) [] (lp rO.body 5).1 = rb (rb (byR (DX.bix d (.ofNat s)) []) fun x σ => ob σ (on .bool ((cO DX .Eq).f x (.int (.ofNat 0)) σ))) fun v σ => vB .bad (fun b => bt b (.ok (.bool (iLt (.ofNat p) (.ofNat s))) σ) (.ok (.bool false) σ)) v := by kernel_rfl
theorem rd_e6 : (cB DX (PP ls) (dropF 6 rO.body)).run (X ls (n + 12)) ⟨rE d p N W s, []⟩ = rs (re (rE d p N W s) (rb (rb (rb (byR (DX.bix d (.ofNat s)) []) fun x σ => binF DX .Mult x (.int (.ofNat W)) σ) fun y σ => binF DX .Add (.int (.ofNat N)) y σ) fun v σ => .ok (.tup [v, .int (.ofNat (s + 1))]) σ) fun v σ => .ok (.ret v) ⟨rE d p N W s, σ⟩) fun z => .ok .next z := by kernel_rfl
section
variable {d p N W s}
theorem iLt_t {a b : Nat} (h : a < b) : iLt (.ofNat a) (.ofNat b) = true := congrArg not (lt_no h)
theorem iLt_f {a b : Nat} (h : b ≤ a) : iLt (.ofNat a) (.ofNat b) = false := congrArg not (Nat.ble_eq.mpr h)
theorem len_ok (hd : d.length ≤ 999999) : DX.blen d = some (.ofNat d.length) := by
  show bt (smallF d) _ _ = _
  rw [small_ok hd, lenF_eq]; rfl
theorem bix_ok {c : Nat} (hd : d.length ≤ 999999) (h : d[s]? = some c) : DX.bix d (.ofNat s) = some c := by
  have l := (List.getElem?_eq_some_iff.mp h).1
  show oo none (fun n => bt (smallF d) (nth d n) none) (bt (Nat.ble s 999999) (some s) none) = _
  rw [Nat.ble_eq.mpr (by omega)]
  show bt (smallF d) (nth d s) none = _
  rw [small_ok hd, nth_eq]; exact h
theorem le_big {a : Nat} (h : a ≤ 1000000) : a ≤ big := Nat.le_trans h (Nat.le_of_ble_eq_true (by kernel_rfl))
theorem mulI_ok {a b : Int} (ha : a.natAbs ≤ big) (hb : b.natAbs ≤ big) : mulI a b = some (a * b) := by
  unfold mulI
  rw [Nat.ble_eq.mpr ha, Nat.ble_eq.mpr hb]; rfl
theorem mul_ok {a b : Nat} (ha : a ≤ big) (hb : b ≤ big) : mulI (.ofNat a) (.ofNat b) = some (.ofNat (a * b)) := mulI_ok ha hb
theorem rd_turn {r : Nat} (hd : d.length ≤ 999999) (h : d[s]? = some (128 + r)) (hr : r ≤ big) (hW : W ≤ big) : (X ls (n + 12)).ev (rE d p N W s) [] (lp rO.body 3).1 = .ok (.bool true) [] ∧ (X ls (n + 12)).ex ⟨rE d p N W s, []⟩ (lp rO.body 3).2 = .ok .next ⟨rE d p (N + r * W) (W * 128) (s + 1), []⟩ := by
  have l1 := (List.getElem?_eq_some_iff.mp h).1
  have e1 := rd_t ls n d p N W s
  have e2 := rd_b ls n d p N W s
  rw [len_ok hd, bix_ok hd h] at e1
  rw [bix_ok hd h] at e2
  have e3 : rd1 (some (128 + r)) N W = .ok (.int (.ofNat (N + r * W))) [] := by
    show rb (ob [] (on V.int (mulI ((Int.ofNat (128 + r)) - Int.ofNat 128) (.ofNat W)))) _ = _
    rw [show Int.ofNat (128 + r) - Int.ofNat 128 = Int.ofNat r from by show ((128 + r : Nat) : Int) - ((128 : Nat) : Int) = (r : Int); omega, mul_ok hr hW]; rfl
  have e4 : (cB DX (PP ls) (tl1 (lp rO.body 3).2)).run (X ls (n + 11)) ⟨rE d p (N + r * W) W s, []⟩ = rs (re (rE d p (N + r * W) W s) (ob [] (on V.int (mulI (.ofNat W) (.ofNat 128)))) fun v σ => bindF (cT (.Name "weight" ⟨0, 0, 0, 0⟩)) v ⟨rE d p (N + r * W) W s, σ⟩) fun z => (cB DX (PP ls) (dropF 2 (lp rO.body 3).2)).run (X ls (n + 11)) z := by kernel_rfl
  rw [mul_ok hW (le_big (by decide))] at e4
  rw [e3] at e2
  refine ⟨e1.trans ?_, e2.trans (Eq.trans (b := (cB DX (PP ls) (tl1 (lp rO.body 3).2)).run (X ls (n + 11)) ⟨rE d p (N + r * W) W s, []⟩) (by kernel_rfl) (e4.trans (by kernel_rfl)))⟩
  show bt (iLt (.ofNat s) (.ofNat d.length)) _ _ = _
  rw [iLt_t (by omega)]
  show RF.ok (V.bool (iLt (.ofNat 127) (.ofNat (128 + r)))) _ = _
  rw [iLt_t (by omega)]
theorem rd_last {c : Nat} {σ : List MO} (hd : d.length ≤ 999999) (h : d[s]? = some c) (hc : c ≤ 127) (hW : W ≤ big) (hz : c = 0 → s ≤ p) (k : Nat) : rK ls n σ (whlF (X ls (n + 12)) (lp rO.body 3).1 (lp rO.body 3).2 (k + 1) ⟨rE d p N W s, []⟩) = .ok (.tup [.int (.ofNat (N + c * W)), .int (.ofNat (s + 1))]) σ := by
  have l1 := (List.getElem?_eq_some_iff.mp h).1
  have e1 := rd_t ls n d p N W s
  have e4 := rd_t4 ls n d p N W s
  have e5 := rd_t5 ls n d p N W s
  have e6 := rd_e6 ls n d p N W s
  rw [len_ok hd, bix_ok hd h] at e1
  rw [len_ok hd] at e4
  rw [bix_ok hd h] at e5 e6
  have t1 : rdT (some (.ofNat d.length)) (some c) s = .ok (.bool false) [] := by
    show bt (iLt (.ofNat s) (.ofNat d.length)) _ _ = _
    rw [iLt_t (by omega)]
    show RF.ok (V.bool (iLt (.ofNat 127) (.ofNat c))) _ = _
    rw [iLt_f (by omega)]
  have t4 : (X ls (n + 12)).ev (rE d p N W s) [] (lp rO.body 4).1 = .ok (.bool false) [] := e4.trans (by
    show RF.ok (V.bool (not (iLt (.ofNat s) (.ofNat d.length)))) _ = _
    rw [iLt_t (by omega)]; rfl)
  have t5 : (X ls (n + 12)).ev (rE d p N W s) [] (lp rO.body 5).1 = .ok (.bool false) [] := e5.trans (by
    show bt (iEq (.ofNat c) (.ofNat 0)) (RF.ok (V.bool (iLt (.ofNat p) (.ofNat s))) []) _ = _
    cases q : iEq (.ofNat c) (.ofNat 0) with
    | false => rfl
    | true => rw [iLt_f (hz (Int.ofNat.inj (iEq_of q)))]; rfl)
  rw [t1] at e1
  rw [whl_f e1]
  show outP σ ((cB DX (PP ls) (dropF 4 rO.body)).run (X ls (n + 12)) ⟨rE d p N W s, []⟩) = _
  rw [if_no (rd_i4 ls) t4 rfl, if_no (rd_i5 ls) t5 rfl, e6]
  show outP σ (rs (re _ (rb (rb (ob [] (on V.int (mulI (.ofNat c) (.ofNat W)))) _) _) _) _) = _
  rw [mul_ok (le_big (Nat.le_trans hc (by decide))) hW]; rfl
theorem rd_loop {σ : List MO} {post : List Nat} (hd : d.length ≤ 999999) (k : Nat) : ∀ (a j N W : Nat) (pre : List Nat), d = pre ++ (encF k a ++ post) → a < 128 ^ (k + 1) → W * 128 ^ (k + 1) ≤ big → (a = 0 → pre.length ≤ p) →
    rK ls n σ (whlF (X ls (n + 12)) (lp rO.body 3).1 (lp rO.body 3).2 (k + 1 + j) ⟨rE d p N W pre.length, []⟩) = .ok (.tup [.int (.ofNat (N + a * W)), .int (.ofNat (pre.length + (encF k a).length))]) σ := by
  have at' : ∀ {pre r : List Nat} {c : Nat}, d = pre ++ (c :: r) → d[pre.length]? = some c := fun e => by rw [e, List.getElem?_append_right (Nat.le_refl _), Nat.sub_self]; rfl
  have pw : ∀ {W k}, W * 128 ^ (k + 1) ≤ big → W ≤ big := fun h => Nat.le_trans (Nat.le_mul_of_pos_right _ (Nat.pow_pos (by decide))) h
  induction k with
  | zero =>
    intro a j N W pre e h hW hz
    rw [Nat.add_comm (0 + 1) j]
    exact rd_last ls n hd (at' e) (Nat.le_of_lt_succ h) (pw hW) hz j
  | succ k ih =>
    intro a j N W pre e h hW hz
    rw [show k + 1 + 1 + j = (k + 1 + j) + 1 by omega]
    have eq : encF (k + 1) a = bt (Nat.ble a 127) [a] ((128 + a % 128) :: encF k (a / 128)) := rfl
    by_cases q : a ≤ 127
    · rw [eq, Nat.ble_eq.mpr q] at e ⊢
      exact rd_last ls n hd (at' e) q (pw hW) hz _
    · rw [eq, lt_no (Nat.not_le.mp q)] at e ⊢
      have hb : a % 128 ≤ big := le_big (Nat.le_trans (Nat.le_of_lt (Nat.mod_lt _ (by decide))) (by decide))
      refine ob_A (rd_turn ls n (p := p) (N := N) hd (at' e) hb (pw hW)) fun t1 t2 => ?_
      rw [whl_t t1, t2]
      have := ih (a / 128) j (N + a % 128 * W) (W * 128) (pre ++ [128 + a % 128]) (by rw [e, List.append_assoc]; rfl) (by rw [Nat.div_lt_iff_lt_mul (by decide), ← Nat.pow_succ]; exact h) (by rw [Nat.mul_assoc, Nat.mul_comm 128, ← Nat.pow_succ]; exact hW) (fun z => absurd z (by omega))
      rw [List.length_append] at this
      refine this.trans ?_
      have ed : N + a % 128 * W + a / 128 * (W * 128) = N + a * W := by
        rw [Nat.mul_comm W 128, ← Nat.mul_assoc, Nat.add_assoc, ← Nat.add_mul, Nat.mul_comm (a / 128) 128, Nat.mod_add_div]
      rw [ed]
      show _ = RF.ok (V.tup [_, .int (.ofNat (pre.length + ((encF k (a / 128)).length + 1)))]) σ
      rw [show pre.length + [128 + a % 128].length + (encF k (a / 128)).length = pre.length + ((encF k (a / 128)).length + 1) by simp; omega]
end
end
end
end Mine
namespace Mine
open PySem PyProof.Rows
noncomputable section
section
variable {ih : SemF (List MO)} {P : Prg} {z z' : ES (List MO)} {s : List MO} {b : List Stmt} {i : Nat}
theorem if_yes (h : IfAt P b i) (t : ih.ev z.e z.s (lp b i).1 = .ok (.bool true) s) : (cB DX P (dropF i b)).run ih z = rs (ih.ex ⟨z.e, s⟩ (lp b i).2) fun z => (cB DX P (dropF (Nat.succ i) b)).run ih z := by
  rw [h ih z, t]; rfl
variable {S : Type} {D : Dm S} {ih : SemF S} {t : TT} {src : Src} {k : Nat} {x x1 x2 : ES S} {v : V}
theorem for_go (h : itF D src x.s i = some (some v)) (h1 : bindF t v x = .ok .next x1) (h2 : ih.ex x1 b = .ok .next x2) : forF D ih t b src (k + 1) i x = forF D ih t b src k (i + 1) x2 := by
  show oo RF.bad _ (itF D src x.s i) = _
  rw [h]
  show rs (bindF t v x) _ = _
  rw [h1]
  show rs (ih.ex x1 b) _ = _
  rw [h2]; rfl
theorem for_end (h : itF D src x.s i = some none) : forF D ih t b src (k + 1) i x = .ok .next x := by
  show oo RF.bad _ (itF D src x.s i) = _
  rw [h]; rfl
end
section
variable (ls : Addr → Option (List V)) (n : Nat)
theorem read_at {d pre post : List Nat} (a : Nat) (σ : List MO) (e : d = pre ++ (enc a ++ post)) (hd : d.length ≤ 999999) (h : a < 128 ^ 100) : (X ls (n + 14)).cl 276 [.byt d, .int (.ofNat pre.length)] σ = .ok (.tup [.int (.ofNat a), .int (.ofNat (pre.length + (enc a).length))]) σ := by
  refine Eq.trans (b := rK ls n σ (whlF (X ls (n + 12)) (lp rO.body 3).1 (lp rO.body 3).2 (99 + 1 + 100) ⟨rE d pre.length 0 1 pre.length, []⟩)) (by kernel_rfl) ?_
  refine (rd_loop ls n hd 99 a 100 0 1 pre e h (Nat.le_of_ble_eq_true (by kernel_rfl)) fun _ => Nat.le_refl _).trans ?_
  rw [Nat.zero_add, Nat.mul_one]; rfl
theorem read_end {d : List Nat} (σ : List MO) (hd : d.length ≤ 999999) : (X ls (n + 14)).cl 276 [.byt d, .int (.ofNat d.length)] σ = .exc 64 σ := by
  refine Eq.trans (b := rK ls n σ (whlF (X ls (n + 12)) (lp rO.body 3).1 (lp rO.body 3).2 (199 + 1) ⟨rE d d.length 0 1 d.length, []⟩)) (by kernel_rfl) ?_
  have e1 := rd_t ls n d d.length 0 1 d.length
  have e4 := rd_t4 ls n d d.length 0 1 d.length
  rw [len_ok hd] at e1 e4
  have e1 := e1.trans (show _ = RF.ok (V.bool false) [] from by
    show bt (iLt (.ofNat d.length) (.ofNat d.length)) _ _ = _
    rw [iLt_f (Nat.le_refl _)]; rfl)
  have e4 := e4.trans (show _ = RF.ok (V.bool true) [] from by
    show RF.ok (V.bool (not (iLt (.ofNat d.length) (.ofNat d.length)))) _ = _
    rw [iLt_f (Nat.le_refl _)]; rfl)
  rw [whl_f e1]
  show outP σ ((cB DX (PP ls) (dropF 4 rO.body)).run (X ls (n + 12)) ⟨rE d d.length 0 1 d.length, []⟩) = _
  rw [if_yes (rd_i4 ls) e4]
  kernel_rfl
def foldN (i : Int) : Nat := Int.rec (motive := fun _ => Nat) (fun a => 2 * a) (fun a => 2 * a + 1) i
theorem fold_at (i : Int) (σ : List MO) (h : i.natAbs ≤ big) : (X ls (n + 12)).cl 283 [.int i] σ = .ok (.int (.ofNat (foldN i))) σ := by
  cases i with
  | ofNat a =>
    have e : (X ls (n + 12)).cl 283 [.int (.ofNat a)] σ = outP σ (rs (re ⟨(fiOf (top 41) [] true).sc, [(kc "number", .int (.ofNat a))]⟩ (ob [] (on V.int (mulI (.ofNat 2) (.ofNat a)))) fun v s => .ok (.ret v) ⟨⟨(fiOf (top 41) [] true).sc, [(kc "number", .int (.ofNat a))]⟩, s⟩) fun z => .ok .next z) := by kernel_rfl
    rw [mul_ok (le_big (by decide)) (show a ≤ big from h)] at e
    exact e
  | negSucc a =>
    have e : (X ls (n + 12)).cl 283 [.int (.negSucc a)] σ = outP σ (rs (re ⟨(fiOf (top 41) [] true).sc, [(kc "number", .int (.negSucc a))]⟩ (rb (ob [] (on V.int (mulI (.negSucc 1) (.negSucc a)))) fun x s => binF DX .Sub x (.int (.ofNat 1)) s) fun v s => .ok (.ret v) ⟨⟨(fiOf (top 41) [] true).sc, [(kc "number", .int (.negSucc a))]⟩, s⟩) fun z => .ok .next z) := by kernel_rfl
    rw [show mulI (.negSucc 1) (.negSucc a) = some (.ofNat (2 * (a + 1))) from by
      exact mulI_ok (a := .negSucc 1) (b := .negSucc a) (le_big (by decide)) h] at e
    refine e.trans (congrArg (fun c => RF.ok (V.int c) σ) ?_)
    show ((2 * (a + 1) : Nat) : Int) - 1 = ((2 * a + 1 : Nat) : Int)
    omega
theorem unfold_at (i : Int) (σ : List MO) : (X ls (n + 12)).cl 290 [.int (.ofNat (foldN i))] σ = .ok (.int i) σ := by
  have e : ∀ c : Nat, (X ls (n + 12)).cl 290 [.int (.ofNat c)] σ = outP σ (rs (re ⟨(fiOf (top 42) [] true).sc, [(kc "count", .int (.ofNat c))]⟩ (bt (Nat.beq (c % 2) 0) (.ok (.int (.ofNat (c / 2))) []) (.ok (.int (.negSucc (c / 2))) [])) fun v s => .ok (.ret v) ⟨⟨(fiOf (top 42) [] true).sc, [(kc "count", .int (.ofNat c))]⟩, s⟩) fun z => .ok .next z) := fun c => by kernel_rfl
  cases i with
  | ofNat a =>
    have e := e (2 * a)
    rw [Nat.mul_mod_right, Nat.mul_div_cancel_left a (by decide)] at e
    exact e
  | negSucc a =>
    have e := e (2 * a + 1)
    rw [show (2 * a + 1) % 2 = 1 by omega, show (2 * a + 1) / 2 = a by omega] at e
    exact e
def aO : FI := fiOf (top 51) [] true
def aE (x : List Nat) (lo hi : Nat) (o : Option Nat) : MEnv := ⟨aO.sc, (kc "octets", .byt x) :: (kc "low", .int (.ofNat lo)) :: (kc "high", .int (.ofNat hi)) :: oo [] (fun c => [(kc "code", .int (.ofNat c))]) o⟩
def adlF (x : List Nat) : Nat → Nat → Nat := List.rec (motive := fun _ => Nat → Nat → Nat) (fun lo hi => hi * 65536 + lo) (fun c _ ih lo hi => ih ((lo + c) % 65521) ((hi + (lo + c) % 65521) % 65521)) x
def adl (x : List Nat) : Nat := adlF x 1 0
def aT : TT := cT (lp aO.body 2).1
theorem ad_b (x : List Nat) (lo hi c : Nat) : (X ls (n + 12)).ex ⟨aE x lo hi (some c), []⟩ (lp aO.body 2).2 = .ok .next ⟨aE x ((lo + c) % 65521) ((hi + (lo + c) % 65521) % 65521) (some c), []⟩ := by kernel_rfl
def aK (σ : List MO) (r : RF (ES (List MO)) Fl) : RF (List MO) V := outP σ (rs r fun z => (cB DX (PP ls) (dropF 3 aO.body)).run (X ls (n + 12)) z)
theorem ad_k (x : List Nat) (lo hi : Nat) (o : Option Nat) (σ : List MO) (h : hi ≤ 65521) : aK ls n σ (.ok .next ⟨aE x lo hi o, []⟩) = .ok (.int (.ofNat (hi * 65536 + lo))) σ := by
  have e : aK ls n σ (.ok .next ⟨aE x lo hi o, []⟩) = outP σ (rs (re (aE x lo hi o) (rb (ob [] (on V.int (mulI (.ofNat hi) (.ofNat 65536)))) fun x s => binF DX .Add x (.int (.ofNat lo)) s) fun v s => .ok (.ret v) ⟨aE x lo hi o, s⟩) fun z => .ok .next z) := by cases o <;> kernel_rfl
  rw [mul_ok (le_big (Nat.le_trans h (by decide))) (le_big (by decide))] at e
  exact e
theorem ad_loop (x : List Nat) (σ : List MO) (j : Nat) (y : List Nat) : ∀ (i lo hi : Nat) (o : Option Nat), x.drop i = y → hi ≤ 65521 → aK ls n σ (forF DX (X ls (n + 12)) aT (lp aO.body 2).2 (.v (.byt x)) (y.length + 1 + j) i ⟨aE x lo hi o, []⟩) = .ok (.int (.ofNat (adlF y lo hi))) σ := by
  induction y with
  | nil =>
    intro i lo hi o e h
    rw [show ([] : List Nat).length + 1 + j = j + 1 by simp; omega, for_end (show itF DX _ _ _ = some none from by show some (on _ (nth x i)) = _; rw [nth_eq, drop_nil e]; rfl)]
    exact ad_k ls n x lo hi o σ h
  | cons c y ih =>
    intro i lo hi o e h
    refine ob_A (drop_cons e) fun e1 e2 => ?_
    rw [show (c :: y).length + 1 + j = (y.length + 1 + j) + 1 by simp; omega, for_go (x1 := ⟨aE x lo hi (some c), []⟩) (v := .int (.ofNat c)) (show itF DX _ _ _ = _ from by show some (on _ (nth x i)) = _; rw [nth_eq, e1]; rfl) (by cases o <;> kernel_rfl) (ad_b ls n x lo hi c)]
    exact ih (i + 1) _ _ (some c) e2 (Nat.le_of_lt (Nat.mod_lt _ (by decide)))
theorem adler_at (x : List Nat) (σ : List MO) (h : x.length ≤ 1999) : (X ls (n + 14)).cl 351 [.byt x] σ = .ok (.int (.ofNat (adl x))) σ := by
  refine Eq.trans (b := aK ls n σ (forF DX (X ls (n + 12)) aT (lp aO.body 2).2 (.v (.byt x)) 2000 0 ⟨aE x 1 0 none, []⟩)) (by kernel_rfl) ?_
  rw [show 2000 = x.length + 1 + (1999 - x.length) by omega]
  exact ad_loop ls n x σ _ x 0 1 0 none rfl (by decide)
def sum4 (m : Nat) : List Nat := [m / 16777216 % 256, m / 65536 % 256, m / 256 % 256, m % 256]
theorem sum_at (m : Nat) (σ : List MO) : (X ls (n + 14)).cl 358 [.int (.ofNat m)] σ = .ok (.byt (sum4 m)) σ := by
  have e : (X ls (n + 14)).cl 358 [.int (.ofNat m)] σ = outP σ (rs (re ⟨(fiOf (top 52) [] true).sc, [(kc "number", .int (.ofNat m))]⟩ (oo .bad (fun b => .ok (.byt b) [.list ((sum4 m).map fun c => .int (.ofNat c))]) (mapO (byteI DX) ((sum4 m).map fun c => .int (.ofNat c)))) fun v s => .ok (.ret v) ⟨⟨(fiOf (top 52) [] true).sc, [(kc "number", .int (.ofNat m))]⟩, s⟩) fun z => .ok .next z) := by kernel_rfl
  have q : ∀ x : List Nat, (∀ c ∈ x, c ≤ 255) → mapO (byteI DX) (x.map fun c => .int (.ofNat c)) = some x := fun x => by
    induction x with
    | nil => exact fun _ => rfl
    | cons c x ih =>
      intro h
      show oo none _ (byteI DX (.int (.ofNat c))) = _
      rw [byte_ok (h c (.head _))]
      show oo none _ (mapO (byteI DX) _) = _
      rw [ih fun c m => h c (.tail _ m)]; rfl
  rw [q _ fun c m => by
    simp only [sum4, List.mem_cons, List.not_mem_nil, or_false] at m
    rcases m with rfl | rfl | rfl | rfl <;> exact Nat.le_of_lt_succ (Nat.mod_lt _ (by decide))] at e
  exact e
end
end
end Mine
namespace Mine
open PySem PyProof.Rows PySem.W
noncomputable section
theorem encF_len (k : Nat) : ∀ a, 1 ≤ (encF k a).length ∧ (encF k a).length ≤ k + 1 := by
  induction k with
  | zero => exact fun _ => ⟨Nat.le_refl 1, Nat.le_refl 1⟩
  | succ k ih =>
    intro a
    show 1 ≤ (bt (Nat.ble a 127) [a] (_ :: encF k (a / 128))).length ∧ (bt (Nat.ble a 127) [a] (_ :: encF k (a / 128))).length ≤ _
    cases Nat.ble a 127 with
    | true => exact ⟨Nat.le_refl 1, Nat.succ_le_succ (Nat.zero_le _)⟩
    | false => exact ⟨Nat.succ_le_succ (Nat.zero_le _), Nat.succ_le_succ (ih _).2⟩
theorem enc_low {n : Nat} (h : Nat.ble n 127 = true) : enc n = [n] := by show bt (Nat.ble n 127) _ _ = _; rw [h]; rfl
def tokC (A L : Nat) (g : Nat → Int) (pre post : List Nat) (c : Nat) : List Nat :=
  bt (Nat.ble c 255) [c] (bt (Nat.ble c 299) [oo 0 (fun c => c) (nth (sum4 A) (c - 256))] (eq0 c 350 pre (eq0 c 352 post (eq0 c 351 (enc L) (enc (foldN (g (c - 300))))))))
def eB (i : Nat) (g : Nat → Int) : List Nat := (eE i).flatMap (tokC 0 0 g [] [])
def tkC (i : Nat) (g : Nat → Int) (pre post : List Nat) : Nat → List Nat := tokC (adl (eB i g)) (eB i g).length g pre post
def atmC (i : Nat) (g : Nat → Int) (tok : Nat → List Nat) (k : Nat) : Int :=
  bt (Nat.ble k 64) (eq0 k 0 0 (eq0 k 50 (.ofNat (adl (eB i g))) (bt (Nat.ble k 49) (g k) (.ofNat (foldN (g (k - 50))))))) (oo 0 (fun pr => .ofNat (pr.flatMap tok).length) (luk (presC i) k))
def atC' (i : Nat) (g : Nat → Int) (tok : Nat → List Nat) (k : Nat) : Int := bt (Nat.ble 1000 k) (atmC i g tok ((k - 1000) / 200) - atmC i g tok ((k - 1000) % 200)) (atmC i g tok k)
def w2 (x : List Nat) : Nat := List.rec (motive := fun _ => Nat) 0 (fun c _ n => bt (Nat.ble c 255) (Nat.succ n) (Nat.add n 100)) x
def isS (o : Option α) : Bool := oo false (fun _ => true) o
def okP (i : Nat) : Bool := bt (allF (fun q => eq0 q.1 0 (eqL q.2 []) (bt (Nat.ble 65 q.1) (bt (Nat.ble q.1 199) (oo false (fun pr => eqL pr q.2) (luk (presC i) q.1)) false) false)) (presC i)) (bt (bt (allF (fun c => bt (Nat.ble c 255) true (bt (Nat.ble 301 c) (Nat.ble c 314) false)) (eE i)) (Nat.ble (w2 (eE i)) 1999) false)
  (bt (allF (fun x => bt (fitT x) (isS (lenT (TC i) x)) false) [eE i, 350 :: frameT i, [350, 351], [350], datT i]) (Nat.beq (ck (atC i [350, 351] + 4)) (ck (atC i [350, 351]))) false) false) false
section
variable {i : Nat} {g : Nat → Int} {pre post : List Nat} (ok : okP i = true) (hg : ∀ k, (g k).natAbs < 2 ^ 100) (h1 : pre.length ≤ 5000) (h2 : post.length ≤ 5000)
abbrev pC (i : Nat) (g : Nat → Int) (pre post : List Nat) : Mp := mkP (atC' i g (tkC i g pre post)) (tkC i g pre post) fun _ _ => .list []
theorem tokC_low {A L : Nat} {c : Nat} (h : Nat.ble c 255 = true) : tokC A L g pre post c = [c] := by unfold tokC; rw [h]; rfl
theorem tokC_len {A L : Nat} (h1 : pre.length ≤ 5000) (h2 : post.length ≤ 5000) (c : Nat) : (tokC A L g pre post c).length ≤ 5000 ∧ (one1 c = true → (tokC A L g pre post c).length = 1) ∧ (Nat.beq c 350 = false → Nat.beq c 352 = false → 1 ≤ (tokC A L g pre post c).length) := by
  unfold tokC one1 eq0
  have e : ∀ a, (enc a).length ≤ 5000 := fun a => Nat.le_trans (encF_len 99 a).2 (by decide)
  cases q1 : Nat.ble c 255 with
  | true => exact ⟨by show 1 ≤ 5000; decide, fun _ => rfl, fun _ _ => Nat.le_refl 1⟩
  | false =>
    cases q2 : Nat.ble c 299 with
    | true => exact ⟨by show 1 ≤ 5000; decide, fun _ => rfl, fun _ _ => Nat.le_refl 1⟩
    | false =>
      cases q3 : Nat.beq c 350 with
      | true => exact ⟨h1, nofun, nofun⟩
      | false =>
        cases q4 : Nat.beq c 352 with
        | true => exact ⟨h2, nofun, nofun⟩
        | false =>
          cases Nat.beq c 351 with
          | true => exact ⟨e _, nofun, fun _ _ => (encF_len 99 _).1⟩
          | false => exact ⟨e _, nofun, fun _ _ => (encF_len 99 _).1⟩
theorem w1_le (h1 : pre.length ≤ 5000) (h2 : post.length ≤ 5000) (x : List Nat) : w1 x ≤ (x.flatMap (tkC i g pre post)).length := by
  induction x with
  | nil => exact Nat.le_refl 0
  | cons c x ih =>
    rw [List.flatMap_cons, List.length_append]
    show bt (bt (Nat.beq c 350) true (Nat.beq c 352)) (w1 x) (Nat.succ (w1 x)) ≤ _
    have := (tokC_len (A := adl (eB i g)) (L := (eB i g).length) (g := g) h1 h2 c).2.2
    cases q3 : Nat.beq c 350 with
    | true => exact Nat.le_trans ih (Nat.le_add_left ..)
    | false =>
      cases q4 : Nat.beq c 352 with
      | true => exact Nat.le_trans ih (Nat.le_add_left ..)
      | false => exact Nat.le_trans (Nat.succ_le_succ ih) (Nat.le_trans (Nat.le_of_eq (Nat.add_comm _ 1)) (Nat.add_le_add_right (this q3 q4) _))
include ok
theorem pres_at {k : Nat} {x : List Nat} (m : (k, x) ∈ presC i) : atmC i g (tkC i g pre post) k = .ofNat (x.flatMap (tkC i g pre post)).length ∧ k ≤ 199 := by
  have := allF_all (btt ok).1 (k, x) m
  dsimp only at this
  unfold eq0 at this
  cases q : Nat.beq k 0 with
  | true =>
    rw [q] at this
    rw [Nat.eq_of_beq_eq_true q, eqL_of _ this]
    exact ⟨rfl, by decide⟩
  | false =>
    rw [q] at this
    refine ob_A (btt (show bt (Nat.ble 65 k) _ false = true from this)) fun q1 this => ?_
    refine ob_A (btt this) fun q2 this => ?_
    refine ob_EA (oo_true this) fun pr q3 this => ?_
    refine ⟨?_, Nat.ble_eq.mp q2⟩
    unfold atmC
    rw [lt_no (show 64 < k from Nat.ble_eq.mp q1), q3, eqL_of _ this]; rfl
theorem loP_at (h1 : pre.length ≤ 5000) (h2 : post.length ≤ 5000) {k m : Nat} {d : Int} (e : loP (presC i) k m = some d) : d ≤ atmC i g (tkC i g pre post) k - atmC i g (tkC i g pre post) m ∧ k ≤ 199 ∧ m ≤ 199 := by
  refine ob_EA (oo_some e) fun x e1 e => ?_
  refine ob_EA (oo_some e) fun y e2 e => ?_
  refine ob_A (bt_some e) fun e3 e => ?_
  injection e with z1; subst z1
  refine ob_A (pres_at (g := g) (pre := pre) (post := post) ok (luk_mem _ e1)) fun a1 a2 => ?_
  refine ob_A (pres_at (g := g) (pre := pre) (post := post) ok (luk_mem _ e2)) fun b1 b2 => ?_
  refine ⟨?_, a2, b2⟩
  have e3 := eqL_of _ e3
  rw [lenF_eq, takeF_eq] at e3
  have := w1_le (i := i) (g := g) h1 h2 (x.drop y.length)
  have ex : (x.flatMap (tkC i g pre post)).length = (y.flatMap (tkC i g pre post)).length + ((x.drop y.length).flatMap (tkC i g pre post)).length := by conv => lhs; rw [← List.take_append_drop y.length x, ← e3, List.flatMap_append, List.length_append]
  rw [a1, b1, ex, dropF_eq, lenF_eq]
  show ((w1 (x.drop y.length) : Nat) : Int) ≤ ((_ : Nat) : Int) - ((_ : Nat) : Int)
  omega
omit ok in
theorem atC_low {tok : Nat → List Nat} {k : Nat} (h : k ≤ 199) : atC' i g tok k = atmC i g tok k := by unfold atC'; rw [lt_no (show k < 1000 by omega)]; rfl
omit ok in
theorem ck_near {k : Nat} {x y : Nat} (h1 : x < 1000000) (h2 : y < 1000000) (hk : 1 ≤ k) : ck (cod k 0 + (Int.ofNat x - Int.ofNat y)) = k ∧ co (cod k 0 + (Int.ofNat x - Int.ofNat y)) = Int.ofNat x - Int.ofNat y := by
  have e : cod k 0 + (Int.ofNat x - Int.ofNat y) = Int.ofNat (k * 1267650600228229401496703205376 + x - y) := by
    show ((k * 1267650600228229401496703205376 + 0 : Nat) : Int) + (((x : Nat) : Int) - ((y : Nat) : Int)) = ((_ : Nat) : Int)
    omega
  have c : ck (Int.ofNat (k * 1267650600228229401496703205376 + x - y)) = k := by
    show (k * 1267650600228229401496703205376 + x - y + 633825300114114700748351602688) / 1267650600228229401496703205376 = k
    omega
  refine ⟨e ▸ c, ?_⟩
  have := co_def (cod k 0 + (Int.ofNat x - Int.ofNat y))
  rw [show ck (cod k 0 + (Int.ofNat x - Int.ofNat y)) = k from e ▸ c] at this
  exact Int.add_left_cancel (this.symm.trans rfl)
omit ok in
theorem len_ok' {x : List Nat} {c : Int} (F : Fit (TC i) (atC' i g (tkC i g pre post)) (tkC i g pre post) fun _ _ => .list []) (f : fitT x = true) (e : lenT (TC i) x = some c) : (pC i g pre post).f c = .ofNat (x.flatMap (tkC i g pre post)).length := len_at F (Nat.lt_trans (fit_lt F f) (by decide)) e
theorem fitC (h1 : pre.length ≤ 5000) (h2 : post.length ≤ 5000) : Fit (TC i) (atC' i g (tkC i g pre post)) (tkC i g pre post) fun _ _ => .list [] := by
  have T0 : Fit { TC i with add := fun _ _ => none, sub := fun _ _ => none } (atC' i g (tkC i g pre post)) (tkC i g pre post) fun _ _ => .list [] := {
    at0 := rfl
    lo := fun {k m d} e => by
      change bt (Nat.ble 1000 k) (eq0 m 0 (loP (presC i) (Nat.div (Nat.sub k 1000) 200) (Nat.mod (Nat.sub k 1000) 200)) none) (loP (presC i) k m) = some d at e
      cases q : Nat.ble 1000 k with
      | false =>
        rw [q] at e
        refine ob_AA (loP_at (g := g) ok h1 h2 e) fun a b c => ?_
        rw [atC_low b, atC_low c]; exact a
      | true =>
        rw [q] at e
        refine ob_A (bt_some e) fun z e => ?_
        refine ob_AA (loP_at (g := g) ok h1 h2 e) fun a _u _u => ?_
        rw [Nat.eq_of_beq_eq_true z, show atC' i g (tkC i g pre post) 0 = 0 from rfl, show atC' i g (tkC i g pre post) k = atmC i g (tkC i g pre post) ((k - 1000) / 200) - atmC i g (tkC i g pre post) ((k - 1000) % 200) from by unfold atC'; rw [q]; rfl, Int.sub_zero]
        exact a
    pick := nofun
    add := nofun
    sub := nofun
    pres := fun q m => by refine ob_A (pres_at (g := g) (pre := pre) (post := post) ok m) fun a b => ?_; rw [atC_low b]; exact a
    low := fun c h => tokC_low (Nat.ble_eq.mpr (Nat.le_of_lt_succ h))
    one := fun {c} h => (tokC_len h1 h2 c).2.1 h
    tokl := fun c => (tokC_len h1 h2 c).1 }
  have lens0 : ∀ x ∈ [eE i, 350 :: frameT i, [350, 351], [350], datT i], (pC i g pre post).f (atC i x) = .ofNat (x.flatMap (tkC i g pre post)).length := fun x m => by
    refine ob_A (btt (allF_all (btt (btt (btt ok).2).2).1 x m)) fun a b => ?_
    refine ob_EA (oo_true b) fun c b _u => ?_
    rw [show atC i x = c from congrArg (oo 0 fun c => c) b]
    exact len_at T0 (Nat.lt_trans (fit_lt T0 a) (by decide)) b
  exact { T0 with
    add := fun {a b c} e => by
      refine ob_A (bt_some e) fun q1 e => ?_
      refine ob_A (bt_some e) fun q2 e => ?_
      injection e with z1; subst z1
      have ck4 := Nat.eq_of_beq_eq_true (btt (btt (btt ok).2).2).2
      show (pC i g pre post).f (atC i (350 :: frameT i)) = (pC i g pre post).f a + (pC i g pre post).f b
      rw [iEq_of q1, iEq_of q2, f_same T0 ck4, lens0 _ (.head _), lens0 _ (.tail _ (.head _)), lens0 _ (.tail _ (.tail _ (.head _)))]
      have : ((350 :: frameT i).flatMap (tkC i g pre post)).length = ([350, 351].flatMap (tkC i g pre post)).length + (4 + ((eE i).flatMap (tkC i g pre post)).length) := by
        rw [show 350 :: frameT i = [350, 351] ++ ([256, 257, 258, 259] ++ eE i) from rfl, List.flatMap_append, List.flatMap_append, List.length_append, List.length_append]; rfl
      rw [this]
      show ((_ + (4 + _) : Nat) : Int) = ((_ : Nat) : Int) + _ + ((_ : Nat) : Int)
      omega
    sub := fun {a b c} e => by
      refine ob_EA (oo_some e) fun x q1 e => ?_
      refine ob_EA (oo_some e) fun y q2 e => ?_
      refine ob_A (bt_some e) fun q3 e => ?_
      refine ob_A (bt_some e) fun q4 e => ?_
      injection e with z1; subst z1
      have q3 := Nat.ble_eq.mp q3
      have q4 := Nat.ble_eq.mp q4
      obtain ⟨n1, n2⟩ := ck_near (k := 1000 + (ck a * 200 + ck b)) (iNat_of q1).2 (iNat_of q2).2 (by omega)
      show atC' i g _ (ck (cod (1000 + (ck a * 200 + ck b)) 0 + (Int.ofNat x - Int.ofNat y))) + co (cod (1000 + (ck a * 200 + ck b)) 0 + (Int.ofNat x - Int.ofNat y)) = atC' i g _ (ck a) + co a - (atC' i g _ (ck b) + co b)
      have hd : ∀ tok, atC' i g tok (1000 + (ck a * 200 + ck b)) = atmC i g tok (ck a) - atmC i g tok (ck b) := fun tok => by
        unfold atC'
        rw [Nat.ble_eq.mpr (Nat.le_add_right ..), Nat.add_sub_cancel_left, show (ck a * 200 + ck b) / 200 = ck a by omega, show (ck a * 200 + ck b) % 200 = ck b by omega]; rfl
      rw [n1, n2, (iNat_of q1).1, (iNat_of q2).1, hd, atC_low q3, atC_low q4]
      omega }
theorem lens (h1 : pre.length ≤ 5000) (h2 : post.length ≤ 5000) : ∀ x ∈ [eE i, 350 :: frameT i, [350, 351], [350], datT i], (pC i g pre post).f (atC i x) = .ofNat (x.flatMap (tkC i g pre post)).length := fun x m => by
  refine ob_A (btt (allF_all (btt (btt (btt ok).2).2).1 x m)) fun a b => ?_
  refine ob_EA (oo_true b) fun c b _u => ?_
  rw [show atC i x = c from congrArg (oo 0 fun c => c) b]
  exact len_ok' (fitC ok h1 h2) a b
theorem eB_eq : (eE i).flatMap (tkC i g pre post) = eB i g := by
  have h := allF_all (btt (btt (btt ok).2).1).1
  unfold eB
  generalize eE i = x at h
  clear ok
  induction x with
  | nil => rfl
  | cons c x ih =>
    rw [List.flatMap_cons, List.flatMap_cons, ih fun c m => h c (.tail _ m)]
    refine congrArg (· ++ _) ?_
    have := h c (.head _)
    unfold tkC tokC
    cases q : Nat.ble c 255 with
    | true => rfl
    | false =>
      rw [q] at this
      refine ob_A (btt (show bt (Nat.ble 301 c) _ false = true from this)) fun a b => ?_
      have a := Nat.ble_eq.mp a
      have b := Nat.ble_eq.mp b
      have e : ∀ k, k ≠ c → Nat.beq c k = false := fun k h => by rw [nbeq]; exact decide_eq_false fun q => h q.symm
      unfold eq0
      rw [lt_no (show 299 < c by omega), e 350 (by omega), e 352 (by omega), e 351 (by omega)]; rfl
theorem eB_w2 : (eB i g).length ≤ w2 (eE i) := by
  unfold eB
  clear ok
  induction eE i with
  | nil => exact Nat.le_refl 0
  | cons c x ih =>
    rw [List.flatMap_cons, List.length_append]
    show _ ≤ bt (Nat.ble c 255) (Nat.succ (w2 x)) (Nat.add (w2 x) 100)
    cases q : Nat.ble c 255 with
    | true => rw [tokC_low q, Nat.add_comm]; exact Nat.succ_le_succ ih
    | false =>
      rw [Nat.add_comm]
      refine Nat.add_le_add ih ?_
      unfold tokC eq0
      rw [q]
      have e : ∀ a, (enc a).length ≤ 100 := fun a => (encF_len 99 a).2
      show (bt (Nat.ble c 299) _ (bt (Nat.beq c 350) [] (bt (Nat.beq c 352) [] (bt (Nat.beq c 351) (enc 0) (enc _))))).length ≤ 100
      cases Nat.ble c 299 with
      | true => show 1 ≤ 100; decide
      | false => cases Nat.beq c 350 with
        | true => exact Nat.zero_le _
        | false => cases Nat.beq c 352 with
          | true => exact Nat.zero_le _
          | false => cases Nat.beq c 351 with
            | true => exact e 0
            | false => exact e (foldN (g (c - 300)))
theorem eB_len : (eB i g).length ≤ 1999 := Nat.le_trans (eB_w2 ok) (Nat.ble_eq.mp (btt (btt (btt ok).2).1).2)
end
end
end Mine
namespace Mine
open PySem PyProof.Rows PySem.W
noncomputable section
section
variable {S : Type} {C : Cst S} {F : Fr} {W : Wd S} {P : Prg} {k : Nat} {f : Addr} {vs vs' : List V} {xs : List Value} {r : RF S V} {r' : RF (List MO) V}
theorem noOrc_ok (C : Cst S) (k : Nat) : OrcOk C k (noOrc S) := fun _ _ _ _ _ _ _ _ e => nomatch e
theorem via_x (GX : Ground (C.sw DX idp P)) (A : AOk F k) (q : (SX P k).cl f vs' [] = r') (rv : VVL C W vs xs) (g : vGL vs = true) (g' : vGL vs' = true) (e : mVL C.p vs = mVL idp vs') (hr : Alike idp C.p W.σ r r') : Run C F W (call (.ref f) xs) r (VV C) :=
  .via exact_ok (fun W' rv' s => by
    have := (sem_sound GX (noOrc_ok _ 0) k).2.2.1 F W' f vs' xs ((Nat.zero_add k).symm ▸ A) rv'
    rw [s] at this
    exact q ▸ this) rv g g' e hr
theorem eq0_some {α : Type} {a b : Nat} {x y : Option α} {r : α} (e : eq0 a b x y = some r) : (a = b ∧ x = some r) ∨ y = some r := by
  unfold eq0 at e
  cases q : Nat.beq a b with
  | true => rw [q] at e; exact .inl ⟨Nat.eq_of_beq_eq_true q, e⟩
  | false => rw [q] at e; exact .inr e
theorem a1_some {α : Type} {f : V → Option α} {vs : List V} {r : α} (e : a1 none f vs = some r) : ∃ v, vs = [v] ∧ f v = some r := by
  rcases vs with _ | ⟨v, _ | _⟩
  · injection e
  · exact ⟨v, rfl, e⟩
  · injection e
theorem a2_some {α : Type} {f : V → V → Option α} {vs : List V} {r : α} (e : a2 none f vs = some r) : ∃ v w, vs = [v, w] ∧ f v w = some r := by
  rcases vs with _ | ⟨v, vs⟩
  · injection e
  · refine ob_EA (a1_some (f := f v) e) fun w z1 e => ?_; subst z1; exact ⟨v, w, rfl, e⟩
end
section
variable {S : Type} {C : Cst S} {F : Fr} {W : Wd S} {ls : Addr → Option (List V)} {f : Addr} {xs : List Value} {c : Int} {a : Nat} {y : List Nat}
theorem mV_byt {p : Mp} {a y : List Nat} (h : y.flatMap p.tok = a) : mV idp (.byt a) = mV p (.byt y) := congrArg V.byt ((idt a).trans h.symm)
theorem int_eq {p : Mp} {c d : Int} (h : p.f c = d) : mVL p [.int c] = mVL idp [.int d] := congrArg (fun i => [V.int i]) h
theorem cnt_orc (GX : Ground (C.sw DX idp (PP ls))) (A : AOk F 20) (rv : VVL C W [.int c] xs) (hc : C.p.f c = .ofNat a) (ha : a < 128 ^ 100) (hy : y.flatMap C.p.tok = enc a) : Run C F W (call (.ref 269) xs) (.ok (.byt y) W.σ) (VV C) :=
  via_x GX A (vs' := [.int (.ofNat a)]) (count_at ls 6 a [] ha) rv rfl rfl (int_eq hc) ⟨_, rfl, rfl, rfl, mV_byt hy⟩
theorem num_orc {g : Int} {b d : Int} (q : ∀ n σ, (X ls (n + 14)).cl f [.int g] σ = .ok (.int b) σ) (GX : Ground (C.sw DX idp (PP ls))) (A : AOk F 20) (rv : VVL C W [.int c] xs) (hc : C.p.f c = g) (hd : C.p.f d = b) : Run C F W (call (.ref f) xs) (.ok (.int d) W.σ) (VV C) :=
  via_x GX A (vs' := [.int g]) (q 6 []) rv rfl rfl (int_eq hc) ⟨_, rfl, rfl, rfl, congrArg V.int hd.symm⟩
theorem rd_orc {x : List Nat} {j t : Nat} {n m : Int} (GX : Ground (C.sw DX idp (PP ls))) (A : AOk F 20) (rv : VVL C W [.byt x, .int c] xs) (hx : (x.flatMap C.p.tok).length ≤ 999999) (hc : C.p.f c = .ofNat ((x.take j).flatMap C.p.tok).length) (ht : x[j]? = some t) (hn : C.p.tok t = enc a) (ha : a < 128 ^ 100) (hm : C.p.f m = .ofNat a) (hl : C.p.f n = .ofNat ((x.take (j + 1)).flatMap C.p.tok).length) :
    Run C F W (call (.ref 276) xs) (.ok (.tup [.int m, .int n]) W.σ) (VV C) := by
  refine ob_E (List.getElem?_eq_some_iff.mp ht) fun l1 e2 => ?_
  have e : x.flatMap C.p.tok = (x.take j).flatMap C.p.tok ++ (enc a ++ (x.drop (j + 1)).flatMap C.p.tok) := by
    conv => lhs; rw [← List.take_append_drop j x, List.drop_eq_getElem_cons l1, e2]
    rw [List.flatMap_append, List.flatMap_cons, hn]
  refine via_x GX A (vs' := [.byt (x.flatMap C.p.tok), .int (.ofNat ((x.take j).flatMap C.p.tok).length)]) (read_at ls 6 a [] e hx ha) rv rfl rfl ?_ ⟨_, rfl, rfl, rfl, ?_⟩
  · show [V.byt _, V.int (C.p.f c)] = [V.byt ((x.flatMap C.p.tok).flatMap idp.tok), V.int _]
    rw [idt, hc]; rfl
  · show V.tup [.int _, .int _] = V.tup [.int (C.p.f m), .int (C.p.f n)]
    rw [hm, hl, List.take_add_one, ht, List.flatMap_append, List.length_append]
    show _ = V.tup [_, .int (.ofNat (_ + ([t].flatMap C.p.tok).length))]
    rw [List.flatMap_singleton, hn]; rfl
theorem end_orc {x : List Nat} (GX : Ground (C.sw DX idp (PP ls))) (A : AOk F 20) (rv : VVL C W [.byt x, .int c] xs) (hx : (x.flatMap C.p.tok).length ≤ 999999) (hc : C.p.f c = .ofNat (x.flatMap C.p.tok).length) : Run C F W (call (.ref 276) xs) (.exc 64 W.σ) (VV C) := by
  refine via_x GX A (vs' := [.byt (x.flatMap C.p.tok), .int (.ofNat (x.flatMap C.p.tok).length)]) (read_end ls 6 [] hx) rv rfl rfl ?_ rfl
  show [V.byt _, V.int (C.p.f c)] = [V.byt ((x.flatMap C.p.tok).flatMap idp.tok), V.int _]
  rw [idt, hc]; rfl
end
end
end Mine
namespace Mine
open PySem PyProof.Rows PySem.W
noncomputable section
section
variable {i : Nat} {g : Nat → Int} {pre post : List Nat} (ok : okP i = true) (hg : ∀ k, (g k).natAbs ≤ 18446744073709551616) (h1 : pre.length ≤ 5000) (h2 : post.length ≤ 5000)
theorem fold_lt {x : Int} (h : x.natAbs ≤ 18446744073709551616) : foldN x < 128 ^ 100 := by
  refine Nat.lt_of_le_of_lt ?_ (Nat.lt_of_lt_of_le (show 36893488147419103235 < 128 ^ 10 by decide) (Nat.pow_le_pow_right (by decide) (by decide)))
  cases x with
  | ofNat a => have : a ≤ 18446744073709551616 := h; show 2 * a ≤ _; omega
  | negSucc a => have : a + 1 ≤ 18446744073709551616 := h; show 2 * a + 1 ≤ _; omega
theorem at0_some {c : Int} {a b : Nat} {K : Nat → Option V} {r : V} (e : at0 c a b K = some r) : co c = 0 ∧ a ≤ ck c ∧ ck c ≤ b ∧ K (ck c - a) = some r := by
  refine ob_A (bt_some e) fun e1 e => ?_
  refine ob_A (bt_some e) fun e2 e => ?_
  refine ob_A (bt_some e) fun e3 e => ?_
  exact ⟨iEq_of e1, Nat.ble_eq.mp e2, Nat.ble_eq.mp e3, e⟩
theorem beq_no {a b : Nat} (h : a ≠ b) : Nat.beq a b = false := by rw [nbeq]; exact decide_eq_false h
theorem atm_x {tok : Nat → List Nat} {k : Nat} (a : 1 ≤ k) (b : k ≤ 14) : atC' i g tok k = g k := by
  unfold atC' atmC eq0
  rw [lt_no (show k < 1000 by omega), Nat.ble_eq.mpr (show k ≤ 64 by omega), beq_no (show k ≠ 0 by omega), beq_no (show k ≠ 50 by omega), Nat.ble_eq.mpr (show k ≤ 49 by omega)]; rfl
theorem atm_f {tok : Nat → List Nat} {k : Nat} (a : 51 ≤ k) (b : k ≤ 64) : atC' i g tok k = .ofNat (foldN (g (k - 50))) := by
  unfold atC' atmC eq0
  rw [lt_no (show k < 1000 by omega), Nat.ble_eq.mpr b, beq_no (show k ≠ 0 by omega), beq_no (show k ≠ 50 by omega), lt_no (show 49 < k by omega)]; rfl
theorem f_at {atm : Nat → Int} {tok : Nat → List Nat} {jar : Nat → Nat → MO} {c : Int} (h : co c = 0) : (mkP atm tok jar).f c = atm (ck c) := by show atm (ck c) + co c = _; rw [h]; exact Int.add_zero _
theorem tok_e {A L t : Nat} (a : 301 ≤ t) (b : t ≤ 314) : tokC A L g pre post t = enc (foldN (g (t - 300))) := by
  unfold tokC eq0
  rw [lt_no (show 255 < t by omega), lt_no (show 299 < t by omega), beq_no (show t ≠ 350 by omega), beq_no (show t ≠ 352 by omega), beq_no (show t ≠ 351 by omega)]; rfl
include ok hg h1 h2
theorem num_at {t : Nat} {m : Int} (e : numC i t = some m) : ∃ a, (pC i g pre post).f m = .ofNat a ∧ tkC i g pre post t = enc a ∧ a < 128 ^ 100 := by
  unfold numC at e
  cases q : Nat.ble t 127 with
  | true =>
    rw [q] at e; injection e with z1; subst z1
    have l := Nat.ble_eq.mp q
    exact ⟨t, f_lit (fitC ok h1 h2) (Nat.ble_eq.mpr (show t ≤ 633825300114114700748351602687 by omega)), (tokC_low (Nat.ble_eq.mpr (show t ≤ 255 by omega))).trans (enc_low q).symm, Nat.lt_of_le_of_lt l (Nat.lt_of_lt_of_le (show 127 < 128 ^ 1 by decide) (Nat.pow_le_pow_right (by decide) (by decide)))⟩
  | false =>
    rw [q] at e
    change bt (bt (Nat.ble 301 t) (Nat.ble t 314) false) (some (cod (t - 250) 0)) _ = some m at e
    cases q2 : bt (Nat.ble 301 t) (Nat.ble t 314) false with
    | true =>
      rw [q2] at e; injection e with z1; subst z1
      obtain ⟨a, b⟩ := btt q2
      have a := Nat.ble_eq.mp a
      have b := Nat.ble_eq.mp b
      refine ⟨foldN (g (t - 300)), ?_, tok_e a b, fold_lt (hg _)⟩
      rw [f_cod (fitC ok h1 h2) (by decide), atm_f (show 51 ≤ t - 250 by omega) (by omega), show t - 250 - 50 = t - 300 by omega]; rfl
    | false =>
      rw [q2] at e
      obtain ⟨rfl, e⟩ | e := eq0_some e
      case inr => injection e
      injection e with z1; subst z1
      refine ⟨(eB i g).length, ?_, rfl, Nat.lt_of_le_of_lt (eB_len ok) (Nat.lt_of_lt_of_le (show 1999 < 128 ^ 2 by decide) (Nat.pow_le_pow_right (by decide) (by decide)))⟩
      rw [lens ok h1 h2 _ (.head _), eB_eq ok]
theorem orK_at {S : Type} {C : Cst S} {F : Fr} {W : Wd FS} {f : Addr} {vs : List V} {xs : List Value} {fn : List V → Option V} {u : V} (GX : Ground ((C.sw (DT (TC i)) (pC i g pre post) (PP noL)).sw DX idp (PP noL))) (A : AOk F 20) (rv : VVL (C.sw (DT (TC i)) (pC i g pre post) (PP noL)) W vs xs)
    (e1 : (orK i f).f = some fn) (e2 : fn vs = some u) : Run (C.sw (DT (TC i)) (pC i g pre post) (PP noL)) F W (call (.ref f) xs) (.ok u W.σ) (VV (C.sw (DT (TC i)) (pC i g pre post) (PP noL))) := by
  have F0 := fitC (i := i) (g := g) ok h1 h2
  have orc : ∀ {a b : Nat} {x y : Orc}, (eq0 a b x y).f = some fn → (a = b ∧ x.f = some fn) ∨ y.f = some fn := fun {a b x y} e => by
    unfold eq0 at e
    cases q : Nat.beq a b with
    | true => rw [q] at e; exact .inl ⟨Nat.eq_of_beq_eq_true q, e⟩
    | false => rw [q] at e; exact .inr e
  obtain ⟨rfl, e1⟩ | e1 := orc e1
  · injection e1 with z1; subst z1
    refine ob_EA (a1_some e2) fun v z1 e3 => ?_; subst z1
    refine ob_EA (vI_some e3) fun c z1 e => ?_; subst z1
    cases q : iNat c with
    | some n =>
      rw [q] at e
      refine ob_A (bt_some e) fun q2 e => ?_
      injection e with z1; subst z1
      refine ob_A (iNat_of q) fun z1 _u => ?_; subst z1
      have l := Nat.ble_eq.mp q2
      obtain ⟨a, a1, a2, a3⟩ := num_at (t := n) ok hg h1 h2 (show numC i n = some (.ofNat n) from by unfold numC; rw [q2]; rfl)
      exact cnt_orc GX A rv a1 a3 ((List.flatMap_singleton ..).trans a2)
    | none =>
      rw [q] at e
      change bt (iEq c (atC i (eE i))) (some (V.byt [351])) (at0 c 51 64 fun k => some (V.byt [Nat.add 301 k])) = some u at e
      cases q2 : iEq c (atC i (eE i)) with
      | true =>
        rw [q2] at e; injection e with z1; subst z1
        refine ob_EAA (num_at (t := 351) ok hg h1 h2 (show numC i 351 = some (atC i (eE i)) from rfl)) fun a a1 a2 a3 => ?_
        exact cnt_orc GX A rv (iEq_of q2 ▸ a1) a3 ((List.flatMap_singleton ..).trans a2)
      | false =>
        rw [q2] at e
        refine ob_AAA (at0_some (c := c) (a := 51) (b := 64) (K := fun k => some (V.byt [Nat.add 301 k])) e) fun b1 b2 b3 e => ?_
        injection e with z1; subst z1
        refine cnt_orc GX A rv ((f_at b1).trans (atm_f b2 b3)) (fold_lt (hg _)) ((List.flatMap_singleton ..).trans ?_)
        rw [show Nat.add 301 (ck c - 51) = 250 + ck c from by show 301 + (ck c - 51) = _; omega]
        refine (tok_e (by omega) (by omega)).trans ?_
        rw [show 250 + ck c - 300 = ck c - 50 by omega]
  obtain ⟨rfl, e1⟩ | e1 := orc e1
  · injection e1 with z1; subst z1
    refine ob_EA (a1_some e2) fun v z1 e3 => ?_; subst z1
    refine ob_EA (vI_some e3) fun c z1 e => ?_; subst z1
    refine ob_AAA (at0_some e) fun b1 b2 b3 e => ?_
    injection e with z1; subst z1
    refine num_orc (ls := noL) (g := g (ck c)) (fun n σ => fold_at noL (n + 2) _ σ (Nat.le_trans (hg _) (Nat.le_of_ble_eq_true (by kernel_rfl)))) GX A rv ((f_at b1).trans (atm_x b2 b3)) ?_
    show (pC i g pre post).f (cod (51 + (ck c - 1)) 0) = _
    rw [f_cod F0 (by decide), atm_f (by omega) (by omega), show 51 + (ck c - 1) - 50 = ck c by omega]; rfl
  obtain ⟨rfl, e1⟩ | e1 := orc e1
  · injection e1 with z1; subst z1
    refine ob_EA (a1_some e2) fun v z1 e3 => ?_; subst z1
    refine ob_EA (vI_some e3) fun c z1 e => ?_; subst z1
    refine ob_AAA (at0_some e) fun b1 b2 b3 e => ?_
    injection e with z1; subst z1
    refine num_orc (ls := noL) (g := .ofNat (foldN (g (ck c - 50)))) (fun n σ => unfold_at noL (n + 2) _ σ) GX A rv ((f_at b1).trans (atm_f b2 b3)) ?_
    show (pC i g pre post).f (cod (ck c - 51 + 1) 0) = _
    rw [f_cod F0 (by decide), atm_x (by omega) (by omega), show ck c - 51 + 1 = ck c - 50 by omega]; exact Int.add_zero _
  obtain ⟨rfl, e1⟩ | e1 := orc e1
  · injection e1 with z1; subst z1
    refine ob_EA (a1_some e2) fun v z1 e3 => ?_; subst z1
    refine ob_EA (vY_some e3) fun x z1 e => ?_; subst z1
    refine ob_A (bt_some e) fun q e => ?_
    injection e with z1; subst z1
    have q := eqL_of _ q
    subst q
    refine via_x GX A (vs' := [.byt (eB i g)]) (adler_at noL 6 (eB i g) [] (eB_len ok)) rv rfl rfl ?_ ⟨_, rfl, rfl, rfl, ?_⟩
    · show [V.byt ((eE i).flatMap (tkC i g pre post))] = [V.byt ((eB i g).flatMap idp.tok)]
      rw [idt, eB_eq ok]
    · show V.int _ = V.int ((pC i g pre post).f (cod 50 0))
      rw [f_cod F0 (by decide)]; rfl
  obtain ⟨rfl, e1⟩ | e1 := orc e1
  · injection e1 with z1; subst z1
    refine ob_EA (a1_some e2) fun v z1 e3 => ?_; subst z1
    refine ob_EA (vI_some e3) fun c z1 e => ?_; subst z1
    refine ob_A (bt_some e) fun q e => ?_
    injection e with z1; subst z1
    refine via_x GX A (vs' := [.int (.ofNat (adl (eB i g)))]) (sum_at noL 6 (adl (eB i g)) []) rv rfl rfl (int_eq ?_) ⟨_, rfl, rfl, rfl, mV_byt rfl⟩
    show (pC i g pre post).f c = _
    rw [iEq_of q, f_cod F0 (by decide)]; rfl
  injection e1
theorem orcC_ok {S : Type} {C : Cst S} {P : Prg} (hP : P = PP noL) (GX : Ground (C.sw DX idp P)) : OrcOk (C.sw (DT (TC i)) (pC i g pre post) P) 20 (orcC i) := fun F W f vs xs r A rv e => by
  subst hP
  have GX : Ground ((C.sw (DT (TC i)) (pC i g pre post) (PP noL)).sw DX idp (PP noL)) := GX
  have F0 := fitC (i := i) (g := g) ok h1 h2
  have f0 : ∀ {x : List Nat}, fitT x = true → (x.flatMap (tkC i g pre post)).length ≤ 999999 := fun h => Nat.le_trans (Nat.le_of_lt (fit_lt F0 h)) (by decide)
  obtain ⟨rfl, e⟩ | e := eq0_some e
  · refine ob_EEA (a2_some e) fun v w z1 e => ?_; subst z1
    refine ob_EA (vY_some e) fun x z1 e => ?_; subst z1
    refine ob_EA (vI_some e) fun c z1 e => ?_; subst z1
    refine ob_A (bt_some e) fun q1 e => ?_
    refine ob_EA (oo_some e) fun j q2 e => ?_
    refine ob_A (ix_at F0 q2) fun p1 p2 => ?_
    obtain ⟨q3, e⟩ | e := eq0_some e
    · injection e with z1; subst z1
      rw [q3, lenF_eq, List.take_length] at p1
      exact end_orc GX A rv (f0 q1) p1
    · refine ob_EA (oo_some e) fun t q4 e => ?_
      refine ob_EA (oo_some e) fun m q5 e => ?_
      refine ob_EA (on_some e) fun n q6 e => ?_
      subst e
      refine ob_EAA (num_at ok hg h1 h2 q5) fun a a1 a2 a3 => ?_
      rw [nth_eq] at q4
      have hl : (pC i g pre post).f n = .ofNat ((x.take (j + 1)).flatMap (tkC i g pre post)).length := by
        rw [takeF_eq] at q6
        refine len_at F0 ?_ q6
        have := f0 q1
        rw [show x.flatMap _ = _ from congrArg (List.flatMap (tkC i g pre post)) (List.take_append_drop (j + 1) x).symm, List.flatMap_append, List.length_append] at this
        omega
      exact rd_orc GX A rv (f0 q1) p1 q4 a2 a3 a1 hl
  · refine ob_EA (oo_some e) fun fn e1 e5 => ?_
    refine ob_EA (on_some e5) fun u e2 e' => ?_
    exact e' ▸ orK_at ok hg h1 h2 GX A rv e1 e2
end
end
end Mine
namespace Mine
open PySem PyProof.Rows PySem.W
noncomputable section
theorem same_of (a : V) : ∀ {b : V}, same a b = true → a = b :=
  V.rec (motive_1 := fun a => ∀ {b : V}, same a b = true → a = b) (motive_2 := fun l => ∀ {m : List V}, V.rec_1 (motive_1 := fun _ => V → Bool) (motive_2 := fun _ => List V → Bool) (fun b => vN true false b) (fun _ _ => false) (fun i b => vI false (fun j => iEq i j) b) (fun x b => vS false (fun y => eqL x y) b) (fun x b => vY false (fun y => eqL x y) b)
      (fun _ h b => vT false (fun m => h m) b) (fun _ _ => false) (fun _ _ => false) (fun _ _ => false)
      (fun m => List.rec (motive := fun _ => Bool) true (fun _ _ _ => false) m) (fun _ _ h k m => List.rec (motive := fun _ => Bool) false (fun b m _ => bt (h b) (k m) false) m) l m = true → l = m)
    (fun {b} h => by cases b <;> first | rfl | injection h) (fun _ _ h => nomatch h) (fun i {b} h => by cases b <;> first | exact congrArg V.int (iEq_of h) | injection h) (fun x {b} h => by cases b <;> first | exact congrArg V.str (eqL_of _ h) | injection h)
    (fun x {b} h => by cases b <;> first | exact congrArg V.byt (eqL_of _ h) | injection h) (fun l ih {b} h => by cases b <;> first | exact congrArg V.tup (ih h) | injection h) (fun _ _ h => nomatch h) (fun _ _ h => nomatch h) (fun _ _ h => nomatch h)
    (fun {m} h => by cases m <;> first | rfl | injection h) (fun v l i1 i2 m h => by
      cases m with
      | nil => injection h
      | cons w m => refine ob_A (btt h) fun a b => ?_; rw [i1 a, i2 b]) a
theorem isV_of {S : Type} {w : V} {r : RF S V} (h : isV w r = true) : ∃ s, r = .ok w s := by
  cases r with
  | ok v s => exact ⟨s, by rw [same_of w h]⟩
  | _ => injection h
def okN : Bool := isV .none (clC 0 372 [.byt [350], .int (atC 0 [350])])
def okW : Bool := bt (allF (fun w => bt (isV w ((SX (PP noL) 130).cl 504 [w] [])) (isV w ((SX (PP noL) 130).cl 398 [w] [])) false) words) (allF (fun w => isV w ((SX (PP noL) 130).cl 106 [w] [])) flagsOk) false
def wK (i : Nat) : Nat := bt (Nat.ble i 3) 500 2500
def okL (i : Nat) : Bool := Nat.ble (Nat.add (w2 (eE i)) 104) (wK i)
def okAll : Bool := bt (allF (fun i => bt (okC i) (bt (okP i) (okL i) false) false) [0, 1, 2, 3, 4, 5, 6, 7]) (bt okN okW false) false
def Grd {S : Type} (C : Cst S) : Prop := ∀ {S' : Type} (D : Dm S') (p : Mp), DmOk D p → (∀ i, isC i = true → p.f i = i) → Ground (C.sw D p (PP noL))
section
variable {S : Type} {C : Cst S} {F : Fr} {W : Wd S} {f : Addr} {vs vs' : List V} {xs : List Value} {u v : V} {i : Nat} {g : Nat → Int} {pre post : List Nat}
theorem via_c (G : Grd C) (ok : okP i = true) (hg : ∀ k, (g k).natAbs ≤ 18446744073709551616) (h1 : pre.length ≤ 5000) (h2 : post.length ≤ 5000) (A : AOk F 150) (q : isV u (clC i f vs') = true) (rv : VVL C W vs xs) (gv : vGL vs = true) (gv' : vGL vs' = true) (e : mVL C.p vs = mVL (pC i g pre post) vs') (hu : vG u = true) (hv : vG v = true) (hr : mV (pC i g pre post) u = mV C.p v) : Run C F W (call (.ref f) xs) (.ok v W.σ) (VV C) := by
  have okD := Fit.ok (fitC (i := i) (g := g) ok h1 h2) trivial
  have GC := G (DT (TC i)) (pC i g pre post) okD fun _ h => okD.lit h
  refine ob_E (isV_of q) fun s q => ?_
  refine .via (P := PP noL) okD (fun W' rv' s' => ?_) rv gv gv' e (r' := .ok u s) ⟨v, rfl, hu, hv, hr⟩
  have := (sem_sound GC (orcC_ok ok hg h1 h2 rfl (G DX idp exact_ok fun _ _ => rfl)) 130).2.2.1 F W' f vs' xs A rv'
  rw [s'] at this
  exact q ▸ this
def cut14 (f : Nat → Int) (k : Nat) : Int := bt (Nat.ble 1 k) (bt (Nat.ble k 14) (f k) 0) 0
theorem rowK_cut (f : Nat → Int) (i : Nat) : rowK f i = rowK (cut14 f) i := by kernel_rfl
theorem rowK_eq {f f' : Nat → Int} (i : Nat) (h : ∀ k, 1 ≤ k → k ≤ 14 → f k = f' k) : rowK f i = rowK f' i := by
  rw [rowK_cut f, rowK_cut f', show cut14 f = cut14 f' from funext fun k => by
    unfold cut14
    cases q : Nat.ble 1 k with
    | false => rfl
    | true => cases q2 : Nat.ble k 14 with
      | false => rfl
      | true => exact h k (Nat.ble_eq.mp q) (Nat.ble_eq.mp q2)]
theorem mV_row {p : Mp} (hp : ∀ c, c < 256 → p.tok c = [c]) (f : Nat → Int) (i : Nat) : mV p (rowK f i) = rowK (fun k => p.f (f k)) i := by
  have e0 : ∀ (a b : Nat) (x y : V), mV p (eq0 a b x y) = eq0 a b (mV p x) (mV p y) := fun a b x y => by unfold eq0; cases Nat.beq a b <;> rfl
  have t : ∀ c, c < 256 → [c].flatMap p.tok = [c] := fun c h => (List.flatMap_singleton ..).trans (hp c h)
  have s : ∀ b d, mV p (snapA b d f) = snapA b d (fun k => p.f (f k)) := fun b d => by
    cases b <;> cases d <;> (show V.tup [_, _, _, V.tup (V.tup [_, _, _, _, _, V.tup [V.tup [_, V.byt ([121].flatMap p.tok), _, _, _]], _] :: _)] = _; rw [t 121 (by decide)]; rfl)
  have a : ∀ (c : Nat) (y : V) (h : c < 256), mV p (.tup [.str kApp, .str [73, 78, 66, 79, 88], y, .int (f 1), .byt [c]]) = .tup [.str kApp, .str [73, 78, 66, 79, 88], mV p y, .int (p.f (f 1)), .byt [c]] := fun c y h => by
    show V.tup [.str kApp, .str [73, 78, 66, 79, 88], mV p y, .int (p.f (f 1)), V.byt ([c].flatMap p.tok)] = _
    rw [t c h]
  unfold rowK
  rw [e0, e0, e0, e0, e0, e0, e0, s, s, s, s, a 120 _ (by decide), a 122 _ (by decide)]; rfl
theorem vG_row (f : Nat → Int) (i : Nat) : vG (rowK f i) = true := by
  have e0 : ∀ (a b : Nat) (x y : V), vG x = true → vG y = true → vG (eq0 a b x y) = true := fun a b x y h1 h2 => by unfold eq0; cases Nat.beq a b <;> assumption
  have s : ∀ b d, vG (snapA b d f) = true := fun b d => by cases b <;> cases d <;> rfl
  exact e0 _ _ _ _ rfl (e0 _ _ _ _ rfl (e0 _ _ _ _ rfl (e0 _ _ _ _ rfl (e0 _ _ _ _ (s _ _) (e0 _ _ _ _ (s _ _) (e0 _ _ _ _ (s _ _) (s _ _)))))))
theorem xA_at {k : Nat} (a : 1 ≤ k) (b : k ≤ 14) : (pC i g pre post).f (xA k) = g k := by
  show atC' i g _ (ck (cod k 0)) + co (cod k 0) = _
  rw [ck_cod (by decide), co_cod (by decide), atm_x a b]; exact Int.add_zero _
theorem row_c {p : Mp} (hp : ∀ c, c < 256 → p.tok c = [c]) {f : Nat → Int} (h : ∀ k, 1 ≤ k → k ≤ 14 → p.f (f k) = g k) : mV p (rowK f i) = mV (pC i g pre post) (rowK xA i) := by
  rw [mV_row hp, mV_row fun c h => tokC_low (Nat.ble_eq.mpr (Nat.le_of_lt_succ h))]
  exact rowK_eq i fun k a b => (h k a b).trans (xA_at a b).symm
def frB (i : Nat) (g : Nat → Int) : List Nat := enc (eB i g).length ++ (sum4 (adl (eB i g)) ++ eB i g)
theorem fr_c (ok : okP i = true) : (frameT i).flatMap (tkC i g pre post) = frB i g := by
  rw [show frameT i = [351] ++ ([256, 257, 258, 259] ++ eE i) from rfl, List.flatMap_append, List.flatMap_append, eB_eq ok, List.flatMap_singleton]
  rfl
theorem fr_len (ok : okP i = true) (okl : okL i = true) : 1 ≤ (frB i g).length ∧ (frB i g).length ≤ wK i := by
  have := eB_w2 (g := g) ok
  have okl : w2 (eE i) + 104 ≤ wK i := Nat.ble_eq.mp okl
  have := encF_len 99 (eB i g).length
  have e : (frB i g).length = (enc (eB i g).length).length + (4 + (eB i g).length) := by unfold frB; rw [List.length_append, List.length_append]; rfl
  rw [e]
  unfold enc
  omega
theorem wK_le (i : Nat) : wK i ≤ 2500 := by unfold wK; cases Nat.ble i 3 <;> decide
end
end
end Mine
namespace Mine
open PySem PyProof.Rows PySem.W
noncomputable section
def floorN (d : Nat → Nat) : Int := eq0 (d 7) 0 0 (eq0 (d 7) 1 5 (9223372036854775804 - d 5))
def folN (d : Nat → Nat) : Int := eq0 (d 2) 0 (.ofNat (d 0 + 2)) (eq0 (d 2) 1 4294967294 4294967295)
def atL (d : Nat → Nat) : List Int := [0, .ofNat (d 3), 4294967296 - d 3, .ofNat (d 4), 4294967295 - d 3 - d 4, .ofNat (d 5), 9223372036854775807 - d 5, .ofNat (d 6), 9223372036854775807 - d 5 - d 6, .ofNat (d 7), floorN d, .ofNat (d 8), 9223372036854775807 - d 5 - d 8, .ofNat (d 2), folN d, .ofNat (bt (Nat.ble 10 (d 1)) (d 1) 10)]
def atmB (d : Nat → Nat) (k : Nat) : Int := oo 0 (fun c => c) (nth (atL d) k)
def fv (d : Nat → Nat) (c : Int) : Int := atmB d (ck c) + co c
def tokS (s : Sh) (d : Nat → Nat) (t : Nat) : List Nat := bt (Nat.ble t 255) [t] (bt (Nat.ble t 299) [0] (oo [] (fun r => frB r.i fun k => fv d (r.f k)) (nth s.rws (t - 300))))
def atmS (s : Sh) (d : Nat → Nat) (k : Nat) : Int := bt (Nat.ble k 20) (atmB d k) (oo 0 (fun pr => .ofNat (pr.flatMap (tokS s d)).length) (luk (presS (lenF s.rws)) k))
structure Dr (s : Sh) (d : Nat → Nat) : Prop where
  t : d 0 = s.t
  sp : (d 1 = s.sp ∧ s.sp < 10) ∨ (s.sp = 10 ∧ 10 ≤ d 1)
  hg : d 9 = s.hg
  sb : d 10 = s.sb
  fo0 : s.fo = 0 → d 2 = 0
  fo2 : s.fo = 2 → 1 ≤ d 2
  dn1 : s.dn = true → d 3 = 0
  dn0 : s.dn = false → s.sp = 10 → 1 ≤ d 3
  dt1 : s.dt = true → d 5 ≤ 1
  dt0 : s.dt = false → s.sp = 10 → 2 ≤ d 5
  b : ∀ k m, (k, m) ∈ [(0, 3), (1, 14), (2, 3), (3, 4), (4, 3), (5, 5), (6, 3), (7, 3), (8, 3), (9, 2), (10, 2)] → d k < m
def sumW (l : List Rw) : Nat := List.rec (motive := fun _ => Nat) 0 (fun r _ n => Nat.add (wK r.i) n) l
def two63 : Nat := 9223372036854775808
def okS (s : Sh) : Bool := bt (allF (fun r => bt (Nat.ble r.i 7) (allF (fun c => bt (Nat.ble (ck c) 20) (Nat.ble (co c).natAbs two63) false) r.l) false) s.rws) (bt (bt (Nat.ble (sumW s.rws) 5000) (Nat.ble (lenF s.rws) 5) false)
  (bt (allF (fun q => eq0 q.1 0 (eqL q.2 []) (bt (Nat.ble 21 q.1) (oo false (fun pr => eqL pr q.2) (luk (presS (lenF s.rws)) q.1)) false)) (presS (lenF s.rws)))
  (allF (fun j => bt (Nat.ble (lenF s.rws) j) true (bt (oo false (fun pr => eqL pr (takeF s.log (Nat.succ j))) (luk (presS (lenF s.rws)) (Nat.add 21 j))) (oo false (fun t => Nat.beq t (Nat.add 300 j)) (nth s.log j)) false)) [0, 1, 2, 3, 4]) false) false) false
abbrev pS (s : Sh) (d : Nat → Nat) (jar : Nat → Nat → MO) : Mp := mkP (atmS s d) (tokS s d) jar
theorem luk_all {α : Type} {P : Nat → α → Prop} {x : Nat} {v : α} (m : List (Nat × α)) (h : m.foldr (fun q r => P q.1 q.2 ∧ r) True) (e : luk m x = some v) : P x v := by
  induction m with
  | nil => injection e
  | cons a m ih =>
    change bt (Nat.beq a.1 x) (some a.2) (luk m x) = some v at e
    cases q : Nat.beq a.1 x with
    | true => rw [q] at e; injection e with z1; subst z1; exact Nat.eq_of_beq_eq_true q ▸ h.1
    | false => rw [q] at e; exact ih h.2 e
theorem l3_some {f : Int → Int → Int → Bool} {r : Int} {l : List V} {v : V} (e : l3 f r l = some v) : ∃ a b c, l = [.int a, .int b, .int c] ∧ f a b c = true ∧ v = .int r := by
  rcases l with _ | ⟨v, l⟩
  · injection e
  · refine ob_EEA (a2_some (f := fun b c => vI none (fun a => vI none (fun b => vI none (fun c => bt (f a b c) (some (V.int r)) none) c) b) v) e) fun w u z1 e => ?_; subst z1
    refine ob_EA (vI_some e) fun a z1 e => ?_; subst z1
    refine ob_EA (vI_some e) fun b z1 e => ?_; subst z1
    refine ob_EA (vI_some e) fun c z1 e => ?_; subst z1
    refine ob_A (bt_some e) fun q e => ?_
    exact ⟨a, b, c, rfl, q, (Option.some.inj e).symm⟩
section
variable {s : Sh} {d : Nat → Nat} {jar : Nat → Nat → MO}
theorem Dr.lt (D : Dr s d) : (d 0 < 3 ∧ d 1 < 14 ∧ d 2 < 3) ∧ (d 3 < 4 ∧ d 4 < 3 ∧ d 5 < 5) ∧ d 6 < 3 ∧ d 7 < 3 ∧ d 8 < 3 := by
  refine ⟨⟨D.b _ _ ?_, D.b _ _ ?_, D.b _ _ ?_⟩, ⟨D.b _ _ ?_, D.b _ _ ?_, D.b _ _ ?_⟩, D.b _ _ ?_, D.b _ _ ?_, D.b _ _ ?_⟩ <;> decide
theorem floor_at (b5 : d 5 < 5) : 0 ≤ floorN d ∧ floorN d ≤ 9223372036854775804 - d 5 := by
  unfold floorN eq0
  cases Nat.beq (d 7) 0 with
  | true => show (0 : Int) ≤ 0 ∧ (0 : Int) ≤ _; omega
  | false => cases Nat.beq (d 7) 1 with
    | true => show (0 : Int) ≤ 5 ∧ (5 : Int) ≤ _; omega
    | false => show (0 : Int) ≤ 9223372036854775804 - d 5 ∧ (9223372036854775804 : Int) - d 5 ≤ 9223372036854775804 - d 5; omega
theorem fol_at (b0 : d 0 < 3) : (2 : Int) + d 0 ≤ folN d ∧ folN d ≤ 4294967295 ∧ (1 ≤ d 2 → 4294967294 ≤ folN d) := by
  unfold folN eq0
  cases q : Nat.beq (d 2) 0 with
  | true => have := Nat.eq_of_beq_eq_true q; show (2 : Int) + d 0 ≤ ((d 0 + 2 : Nat) : Int) ∧ ((d 0 + 2 : Nat) : Int) ≤ 4294967295 ∧ (_ → _ ≤ ((d 0 + 2 : Nat) : Int)); omega
  | false => cases Nat.beq (d 2) 1 with
    | true => show (2 : Int) + d 0 ≤ 4294967294 ∧ (4294967294 : Int) ≤ 4294967295 ∧ (_ → (4294967294 : Int) ≤ 4294967294); omega
    | false => show (2 : Int) + d 0 ≤ 4294967295 ∧ (4294967295 : Int) ≤ 4294967295 ∧ (_ → (4294967294 : Int) ≤ 4294967295); omega
theorem sp_at (b : d 1 < 14) : 10 ≤ bt (Nat.ble 10 (d 1)) (d 1) 10 ∧ bt (Nat.ble 10 (d 1)) (d 1) 10 ≤ 13 := by
  cases q : Nat.ble 10 (d 1) with
  | true => exact ⟨Nat.ble_eq.mp q, Nat.le_of_lt_succ b⟩
  | false => exact ⟨Nat.le_refl 10, show 10 ≤ 13 by decide⟩
theorem sp10 (D : Dr s d) (h : s.sp = 10) : 10 ≤ d 1 := D.sp.elim (fun q => absurd h (Nat.ne_of_lt q.2)) And.right
theorem lo_at (D : Dr s d) {k : Nat} {v : Int} (e : luk (loS s) k = some v) : v ≤ atmS s d k := by
  refine ob_AAAA D.lt fun z1 z2 b6 b7 b8 => ?_; obtain ⟨b0, b1, b2⟩ := z1; obtain ⟨b3, b4, b5⟩ := z2
  refine luk_all (P := fun k v => v ≤ atmS s d k) (loS s) ⟨?_, ?_, ?_, ?_, ?_, ?_, ?_, ?_, trivial⟩ e
  · show bt s.dn (.ofNat 4294967296) (.ofNat 4294967293) ≤ 4294967296 - (d 3 : Int)
    cases q : s.dn with
    | true => have := D.dn1 q; show (4294967296 : Int) ≤ _; omega
    | false => show (4294967293 : Int) ≤ _; omega
  · show (4294967290 : Int) ≤ 4294967295 - d 3 - d 4; omega
  · show bt s.dt (.ofNat 9223372036854775806) (.ofNat 9223372036854775803) ≤ 9223372036854775807 - (d 5 : Int)
    cases q : s.dt with
    | true => have := D.dt1 q; show (9223372036854775806 : Int) ≤ _; omega
    | false => show (9223372036854775803 : Int) ≤ _; omega
  · show (9223372036854775801 : Int) ≤ 9223372036854775807 - d 5 - d 6; omega
  · exact (floor_at b5).1
  · show (9223372036854775801 : Int) ≤ 9223372036854775807 - d 5 - d 8; omega
  · show eq0 s.fo 2 (.ofNat 4294967294) s.first ≤ folN d
    refine ob_AA (fol_at (d := d) b0) fun h1 _u h2 => ?_
    unfold eq0
    cases q : Nat.beq s.fo 2 with
    | true => exact h2 (D.fo2 (Nat.eq_of_beq_eq_true q))
    | false => show ((s.t + 2 : Nat) : Int) ≤ _; rw [← D.t]; omega
  · exact Int.ofNat_le.mpr (sp_at b1).1
theorem hi_at (D : Dr s d) {k : Nat} {v : Int} (e : luk (hiS s) k = some v) : v ≤ -atmS s d k := by
  refine ob_AAAA D.lt fun z1 z2 b6 b7 b8 => ?_; obtain ⟨b0, b1, b2⟩ := z1; obtain ⟨b3, b4, b5⟩ := z2
  refine luk_all (P := fun k v => v ≤ -atmS s d k) (hiS s) ⟨?_, ?_, ?_, ?_, ?_, ?_, ?_, ?_, trivial⟩ e
  · show bt s.dn (.negSucc 4294967295) (bt (Nat.beq s.sp 10) (.negSucc 4294967294) (.negSucc 4294967295)) ≤ -(4294967296 - (d 3 : Int))
    cases q : s.dn with
    | true => show (-4294967296 : Int) ≤ _; omega
    | false => cases q2 : Nat.beq s.sp 10 with
      | true => have := D.dn0 q (Nat.eq_of_beq_eq_true q2); show (-4294967295 : Int) ≤ _; omega
      | false => show (-4294967296 : Int) ≤ _; omega
  · show (-4294967295 : Int) ≤ -(4294967295 - d 3 - d 4); omega
  · show bt s.dt (.negSucc 9223372036854775806) (bt (Nat.beq s.sp 10) (.negSucc 9223372036854775804) (.negSucc 9223372036854775806)) ≤ -(9223372036854775807 - (d 5 : Int))
    cases q : s.dt with
    | true => show (-9223372036854775807 : Int) ≤ _; omega
    | false => cases q2 : Nat.beq s.sp 10 with
      | true => have := D.dt0 q (Nat.eq_of_beq_eq_true q2); show (-9223372036854775805 : Int) ≤ _; omega
      | false => show (-9223372036854775807 : Int) ≤ _; omega
  · show (-9223372036854775807 : Int) ≤ -(9223372036854775807 - d 5 - d 6); omega
  · have := (floor_at (d := d) b5).2; show (-9223372036854775804 : Int) ≤ -floorN d; omega
  · show (-9223372036854775807 : Int) ≤ -(9223372036854775807 - d 5 - d 8); omega
  · have := (fol_at (d := d) b0).2.1; show (-4294967295 : Int) ≤ -folN d; omega
  · exact Int.neg_le_neg (Int.ofNat_le.mpr (sp_at b1).2)
theorem two_at (D : Dr s d) {k l : Nat} {v : Int} (h : l ≤ 99) (e : luk twoS (k * 100 + l) = some v) : v ≤ atmS s d k - atmS s d l := by
  refine ob_AAAA D.lt fun z1 z2 b6 b7 b8 => ?_; obtain ⟨b0, b1, b2⟩ := z1; obtain ⟨b3, b4, b5⟩ := z2
  have P : ∀ {a b : Nat} {v : Int}, b ≤ 99 → v ≤ atmS s d a - atmS s d b → ∀ k l, l ≤ 99 → k * 100 + l = a * 100 + b → v ≤ atmS s d k - atmS s d l := fun {a b v} hb q k l hl e => by
    obtain ⟨rfl, rfl⟩ : k = a ∧ l = b := by omega
    exact q
  refine luk_all (P := fun x v => ∀ k l, l ≤ 99 → k * 100 + l = x → v ≤ atmS s d k - atmS s d l) twoS ⟨P (a := 2) (b := 4) (by decide) ?_, P (a := 4) (b := 2) (by decide) ?_, P (a := 6) (b := 8) (by decide) ?_, P (a := 8) (b := 6) (by decide) ?_, P (a := 6) (b := 10) (by decide) ?_, P (a := 6) (b := 12) (by decide) ?_, P (a := 12) (b := 10) (by decide) ?_, trivial⟩ e k l h rfl
  · show (1 : Int) ≤ 4294967296 - d 3 - (4294967295 - d 3 - d 4); omega
  · show (-3 : Int) ≤ 4294967295 - d 3 - d 4 - (4294967296 - d 3); omega
  · show (0 : Int) ≤ 9223372036854775807 - d 5 - (9223372036854775807 - d 5 - d 6); omega
  · show (-2 : Int) ≤ 9223372036854775807 - d 5 - d 6 - (9223372036854775807 - d 5); omega
  · have := (floor_at (d := d) b5).2; show (3 : Int) ≤ 9223372036854775807 - d 5 - floorN d; omega
  · show (0 : Int) ≤ 9223372036854775807 - d 5 - (9223372036854775807 - d 5 - d 8); omega
  · have := (floor_at (d := d) b5).2; show (1 : Int) ≤ 9223372036854775807 - d 5 - d 8 - floorN d; omega
theorem lo_s (D : Dr s d) {k l : Nat} {v : Int} (e : loN s k l = some v) : v ≤ atmS s d k - atmS s d l := by
  rcases eq0_some e with ⟨rfl, e⟩ | e
  · exact Int.le_trans (lo_at D e) (Int.le_of_eq (Int.sub_zero _).symm)
  · rcases eq0_some e with ⟨rfl, e⟩ | e
    · exact Int.le_trans (hi_at D e) (Int.le_of_eq (Int.zero_sub _).symm)
    · refine ob_A (bt_some e) fun q e => ?_
      exact two_at D (Nat.ble_eq.mp q) e
theorem sub_s (D : Dr s d) {a b c : Int} (e : subS a b = some c) : (pS s d jar).f c = (pS s d jar).f a - (pS s d jar).f b := by
  have f : ∀ {x y z : Int} {o : Option Int}, bt (iEq b x) (bt (iEq a y) (some z) none) o = some c → (pS s d jar).f z = (pS s d jar).f y - (pS s d jar).f x → (o = some c → (pS s d jar).f c = (pS s d jar).f a - (pS s d jar).f b) → (pS s d jar).f c = (pS s d jar).f a - (pS s d jar).f b := fun {x y z o} e h k => by
    cases q : iEq b x with
    | true => rw [q] at e; refine ob_A (bt_some e) fun q2 e => ?_; injection e with z1; subst z1; rw [iEq_of q, iEq_of q2]; exact h
    | false => rw [q] at e; exact k e
  refine f e ?_ fun e => f e ?_ fun e => f e ?_ fun e => f e ?_ fun e => f e ?_ nofun
  · show (4294967296 : Int) - d 3 + 0 = 0 + 4294967296 - (d 3 + 0); omega
  · show (4294967295 : Int) - d 3 - d 4 + 0 = 4294967296 - d 3 + -1 - (d 4 + 0); omega
  · show (9223372036854775807 : Int) - d 5 + 0 = 0 + 9223372036854775807 - (d 5 + 0); omega
  · show (9223372036854775807 : Int) - d 5 - d 6 + 0 = 9223372036854775807 - d 5 + 0 - (d 6 + 0); omega
  · show (9223372036854775807 : Int) - d 5 - d 8 + 0 = 9223372036854775807 - d 5 + 0 - (d 8 + 0); omega
end
end
end Mine
namespace Mine
open PySem PyProof.Rows PySem.W
noncomputable section
section
variable {s : Sh} {d : Nat → Nat} {jar : Nat → Nat → MO} {l : List V} {i : Int} {v : V}
theorem int_to {p : Mp} {a b : Int} (e : p.f a = p.f b) : ∀ h ι x, VR p h ι (.int a) x → VR p h ι (.int b) x := fun h ι x r => by obtain ⟨t, r⟩ := (show ∃ t, x = Value.int (p.f a) t from r); exact ⟨t, e ▸ r⟩
abbrev Pick (s : Sh) (d : Nat → Nat) (jar : Nat → Nat → MO) (l : List V) (i : Int) (v : V) : Prop := ∃ n u, (pS s d jar).f i = Int.ofNat n ∧ n < 1000000 ∧ nth l n = some u ∧ ∀ h ι x, VR (pS s d jar) h ι u x → VR (pS s d jar) h ι v x
theorem pick1 (D : Dr s d) : Pick s d jar [.int 0, .int 5, .int (aTOP - 3)] aFLIX (.int aFLOOR) := by
  have b7 : d 7 < 3 := D.b _ _ (by decide)
  refine ⟨d 7, ?_⟩
  suffices h : ∃ a, nth [V.int 0, V.int 5, V.int (aTOP - 3)] (d 7) = some (.int a) ∧ (pS s d jar).f a = floorN d from
    ob_EA (h) fun a e q => ⟨_, Int.add_zero _, Nat.lt_trans b7 (by decide), e, int_to (q.trans (Int.add_zero _).symm)⟩
  obtain q | q | q : d 7 = 0 ∨ d 7 = 1 ∨ d 7 = 2 := by omega
  · exact ⟨0, by rw [q]; rfl, by unfold floorN; rw [q]; rfl⟩
  · exact ⟨5, by rw [q]; rfl, by unfold floorN; rw [q]; rfl⟩
  · exact ⟨aTOP - 3, by rw [q]; rfl, by unfold floorN; rw [q]; show (9223372036854775807 : Int) - d 5 + -3 = 9223372036854775804 - d 5; omega⟩
theorem first_at (D : Dr s d) : (pS s d jar).f s.first = ((d 0 + 2 : Nat) : Int) := by
  have : s.first = ((d 0 + 2 : Nat) : Int) := by rw [D.t]; rfl
  have b0 : d 0 < 3 := D.b _ _ (by decide)
  rw [this]
  show atmS s d ((d 0 + 2 + 633825300114114700748351602688) / 1267650600228229401496703205376) + ((d 0 + 2 : Nat) - ((_ / 1267650600228229401496703205376 * 1267650600228229401496703205376 : Nat) : Int)) = _
  rw [show (d 0 + 2 + 633825300114114700748351602688) / 1267650600228229401496703205376 = 0 by omega]
  exact (Int.zero_add _).trans (Int.sub_zero _)
theorem pick2 (D : Dr s d) : Pick s d jar [.int s.first, .int (uMax - 1), .int uMax] aFOIX (.int s.fol) := by
  have b2 : d 2 < 3 := D.b _ _ (by decide)
  refine ⟨d 2, ?_⟩
  suffices h : ∃ a, nth [V.int s.first, V.int (uMax - 1), V.int uMax] (d 2) = some (.int a) ∧ (pS s d jar).f a = (pS s d jar).f s.fol from
    ob_EA (h) fun a e q => ⟨_, Int.add_zero _, Nat.lt_trans b2 (by decide), e, int_to q⟩
  unfold Sh.fol eq0
  cases q0 : Nat.beq s.fo 0 with
  | true => exact ⟨s.first, by rw [D.fo0 (Nat.eq_of_beq_eq_true q0)]; rfl, rfl⟩
  | false =>
    have e14 : (pS s d jar).f aFOL = folN d := Int.add_zero _
    show ∃ a, nth [V.int s.first, V.int (uMax - 1), V.int uMax] (d 2) = some (.int a) ∧ (pS s d jar).f a = (pS s d jar).f aFOL
    rw [e14]
    obtain q | q | q : d 2 = 0 ∨ d 2 = 1 ∨ d 2 = 2 := by omega
    · exact ⟨s.first, by rw [q]; rfl, by rw [first_at D]; unfold folN; rw [q]; exact (Int.ofNat_eq_natCast _).symm⟩
    · exact ⟨uMax - 1, by rw [q]; rfl, by unfold folN; rw [q]; rfl⟩
    · exact ⟨uMax, by rw [q]; rfl, by unfold folN; rw [q]; rfl⟩
theorem pick_s (D : Dr s d) (e : pickS s l i = some v) : Pick s d jar l i v := by
  unfold pickS at e
  cases q : iEq i aFLIX with
  | true =>
    rw [q] at e
    refine ob_EEEAA (l3_some e) fun a b c z1 h z2 => ?_; subst z1; subst z2
    refine ob_A (btt h) fun h1 h => ?_
    refine ob_A (btt h) fun h2 h3 => ?_
    rw [iEq_of q, iEq_of h1, iEq_of h2, iEq_of h3]
    exact pick1 D
  | false =>
    rw [q] at e
    refine ob_A (bt_some (show bt (iEq i aFOIX) _ none = _ from e)) fun q e => ?_
    refine ob_EEEAA (l3_some e) fun a b c z1 h z2 => ?_; subst z1; subst z2
    refine ob_A (btt h) fun h1 h => ?_
    refine ob_A (btt h) fun h2 h3 => ?_
    rw [iEq_of q, iEq_of h1, iEq_of h2, iEq_of h3]
    exact pick2 D
theorem ok_i (A : okAll = true) {i : Nat} (h : Nat.ble i 7 = true) : okC i = true ∧ okP i = true ∧ okL i = true :=
  let ⟨a, b⟩ := btt (allF_all (btt A).1 i ((List.mem_range (n := 8)).mpr (Nat.lt_succ_of_le (Nat.ble_eq.mp h))))
  ⟨a, btt b⟩
theorem mem_nth {α : Type} {l : List α} {j : Nat} {a : α} (h : nth l j = some a) : a ∈ l := List.mem_of_getElem? ((nth_eq l j).symm.trans h)
theorem rw_i (A : okAll = true) (hs : okS s = true) {r : Rw} (m : r ∈ s.rws) : okC r.i = true ∧ okP r.i = true ∧ okL r.i = true := ok_i A (btt (allF_all (btt hs).1 r m)).1
theorem tok_row {j : Nat} {r : Rw} (h : nth s.rws j = some r) : tokS s d (300 + j) = frB r.i fun k => fv d (r.f k) := by
  unfold tokS
  rw [lt_no (show 255 < 300 + j by omega), lt_no (show 299 < 300 + j by omega), Nat.add_sub_cancel_left, h]; rfl
theorem tok_len (A : okAll = true) (hs : okS s = true) (c : Nat) : (tokS s d c).length ≤ 5000 := by
  unfold tokS
  cases Nat.ble c 255 with
  | true => show 1 ≤ 5000; decide
  | false => cases Nat.ble c 299 with
    | true => show 1 ≤ 5000; decide
    | false =>
      show (oo [] (fun r => frB r.i fun k => fv d (r.f k)) (nth s.rws (c - 300))).length ≤ 5000
      cases q : nth s.rws (c - 300) with
      | none => exact Nat.zero_le _
      | some r =>
        refine ob_AA (rw_i A hs (mem_nth q)) fun _u b c => ?_
        exact Nat.le_trans (fr_len b c).2 (Nat.le_trans (wK_le _) (by decide))
theorem eq0_or {a b : Nat} {x y : Bool} (h : eq0 a b x y = true) : (a = b ∧ x = true) ∨ y = true := by
  unfold eq0 at h
  cases q : Nat.beq a b with
  | true => rw [q] at h; exact .inl ⟨Nat.eq_of_beq_eq_true q, h⟩
  | false => rw [q] at h; exact .inr h
theorem pres_s (hs : okS s = true) {k : Nat} {x : List Nat} (m : (k, x) ∈ presS (lenF s.rws)) : atmS s d k = .ofNat (x.flatMap (tokS s d)).length := by
  rcases eq0_or (allF_all (btt (btt (btt hs).2).2).1 (k, x) m) with ⟨q, e⟩ | e
  · cases q; rw [show x = [] from eqL_of _ e]; rfl
  · refine ob_A (btt e) fun q e => ?_
    refine ob_EA (oo_true e) fun pr q3 e => ?_
    unfold atmS
    rw [lt_no (show 20 < k from Nat.ble_eq.mp q), q3, show pr = x from eqL_of _ e]; rfl
theorem fitSh (A : okAll = true) (hs : okS s = true) (D : Dr s d) : Fit (TS s) (atmS s d) (tokS s d) jar where
  at0 := rfl
  lo := lo_s D
  pick := pick_s D
  add := nofun
  sub := sub_s D
  pres := fun q m => pres_s hs m
  low := fun c h => by unfold tokS; rw [Nat.ble_eq.mpr (Nat.le_of_lt_succ h)]; rfl
  one := fun {c} h => by
    unfold tokS
    rw [show Nat.ble c 299 = true from h]
    cases Nat.ble c 255 <;> rfl
  tokl := tok_len A hs
theorem atL_le (D : Dr s d) (k : Nat) : (atmB d k).natAbs ≤ two63 := by
  refine ob_AAAA D.lt fun z1 z2 b6 b7 b8 => ?_; obtain ⟨b0, b1, b2⟩ := z1; obtain ⟨b3, b4, b5⟩ := z2
  unfold atmB
  cases q : nth (atL d) k with
  | none => exact Nat.zero_le _
  | some c =>
    have f1 := floor_at (d := d) b5
    have f2 := fol_at (d := d) b0
    have f3 := (sp_at b1).2
    refine (List.forall_mem_cons.mpr ⟨?_, List.forall_mem_cons.mpr ⟨?_, List.forall_mem_cons.mpr ⟨?_, List.forall_mem_cons.mpr ⟨?_, List.forall_mem_cons.mpr ⟨?_, List.forall_mem_cons.mpr ⟨?_, List.forall_mem_cons.mpr ⟨?_, List.forall_mem_cons.mpr ⟨?_, List.forall_mem_cons.mpr ⟨?_, List.forall_mem_cons.mpr ⟨?_, List.forall_mem_cons.mpr ⟨?_, List.forall_mem_cons.mpr ⟨?_, List.forall_mem_cons.mpr ⟨?_, List.forall_mem_cons.mpr ⟨?_, List.forall_mem_cons.mpr ⟨?_, List.forall_mem_cons.mpr ⟨?_, nofun⟩⟩⟩⟩⟩⟩⟩⟩⟩⟩⟩⟩⟩⟩⟩⟩ : ∀ c ∈ atL d, c.natAbs ≤ 9223372036854775808) c (mem_nth q)
    all_goals first | omega | (rw [Int.ofNat_eq_natCast]; omega)
theorem leaf (hs : okS s = true) (D : Dr s d) {r : Rw} (m : r ∈ s.rws) (k : Nat) : (pS s d jar).f (r.f k) = fv d (r.f k) ∧ (fv d (r.f k)).natAbs ≤ 18446744073709551616 := by
  have h : Nat.ble (ck (r.f k)) 20 = true ∧ (co (r.f k)).natAbs ≤ two63 := by
    unfold Rw.f
    cases q : nth r.l k with
    | none => exact ⟨rfl, Nat.zero_le _⟩
    | some c => exact (btt (allF_all (btt (allF_all (btt hs).1 r m)).2 c (mem_nth q))).imp id Nat.ble_eq.mp
  refine ⟨?_, Nat.le_trans (Int.natAbs_add_le ..) (Nat.add_le_add (atL_le D _) h.2)⟩
  show atmS s d (ck (r.f k)) + _ = _
  unfold atmS
  rw [h.1]; rfl
end
end
end Mine
namespace Mine
open PySem PyProof.Rows PySem.W
noncomputable section
theorem orc_some {a b : Nat} {x y : Orc} {g : List V → Option V} (e : (eq0 a b x y).f = some g) : (a = b ∧ x.f = some g) ∨ y.f = some g := by
  unfold eq0 at e
  cases q : Nat.beq a b with
  | true => rw [q] at e; exact .inl ⟨Nat.eq_of_beq_eq_true q, e⟩
  | false => rw [q] at e; exact .inr e
theorem rowIx_some {v : V} {l : List V} : ∀ {k m : Nat}, rowIx v l k = some m → ∃ j, m = k + j ∧ nth l j = some v := by
  induction l with
  | nil => exact fun e => nomatch e
  | cons r l ih =>
    intro k m e
    change bt (same v r) (some k) (rowIx v l (Nat.succ k)) = some m at e
    cases q : same v r with
    | true => rw [q] at e; injection e with z1; subst z1; exact ⟨0, rfl, congrArg some (same_of v q).symm⟩
    | false => rw [q] at e; refine ob_EA (ih e) fun j z1 h => ?_; subst z1; exact ⟨j + 1, by omega, h⟩
theorem log_le {tok : Nat → List Nat} (rs : List Rw) : ∀ b, (∀ i r, nth rs i = some r → (tok (b + i)).length ≤ wK r.i) → ((toks (lenF rs) b).flatMap tok).length ≤ sumW rs := by
  induction rs with
  | nil => exact fun _ _ => Nat.le_refl 0
  | cons r rs ih =>
    intro b h
    show ((b :: toks (lenF rs) (Nat.succ b)).flatMap tok).length ≤ _
    rw [List.flatMap_cons, List.length_append]
    exact Nat.add_le_add (h 0 r rfl) (ih (Nat.succ b) fun i r e => Nat.succ_add_eq_add_succ b i ▸ h (i + 1) r e)
theorem btI {x y : Bool} (a : x = true) (b : y = true) : bt x y false = true := by rw [a]; exact b
theorem any_ex {α : Type} {f : α → Bool} {l : List α} (h : anyF f l = true) : ∃ w, w ∈ l ∧ f w = true := by
  induction l with
  | nil => injection h
  | cons a l ih =>
    change bt (f a) true (anyF f l) = true at h
    cases q : f a with
    | true => exact ⟨a, .head _, q⟩
    | false => rw [q] at h; refine ob_EA (ih h) fun w m q => ?_; exact ⟨w, .tail _ m, q⟩
theorem idO_some {l : List V} {g : List V → Option V} {vs : List V} {u : V} (e : (idO l).f = some g) (h : g vs = some u) : vs = [u] ∧ u ∈ l := by
  injection e with z1; subst z1
  refine ob_EA (a1_some h) fun v z1 e => ?_; subst z1
  refine ob_A (bt_some e) fun q e => ?_
  cases e
  refine ob_EA (any_ex q) fun w m q => ?_
  exact ⟨rfl, (same_of u q).symm ▸ m⟩
section
variable {S : Type} {C : Cst S} {P : Prg} {s : Sh} {d : Nat → Nat} {jar : Nat → Nat → MO} {F : Fr} {f : Addr} {vs : List V} {xs : List Value}
abbrev CJ (C : Cst S) (P : Prg) (s : Sh) (d : Nat → Nat) (jar : Nat → Nat → MO) : Cst FS := C.sw (DS s) (pS s d jar) P
theorem row_nth {j : Nat} {v : V} (e : nth s.rows j = some v) : ∃ r, nth s.rws j = some r ∧ r.row = v := by
  rw [nth_eq, show s.rows = mapF Rw.row s.rws from rfl, mapF_eq, List.getElem?_map] at e
  cases q : s.rws[j]? with
  | none => rw [q] at e; injection e
  | some r => rw [q] at e; exact ⟨r, (nth_eq ..).trans q, Option.some.inj e⟩
variable {W : Wd FS} (A : okAll = true) (hs : okS s = true) (D : Dr s d) (G : Grd C)
include A hs D G
theorem row_run {j : Nat} {r : Rw} (hj : nth s.rws j = some r) {g : Nat → Int} (eg : g = fun k => fv d (r.f k)) {pre post : List Nat} (h1 : pre.length ≤ 5000) (h2 : post.length ≤ 5000) {u v : V} {vs' : List V} (a : AOk F 150) (q : isV u (clC r.i f vs') = true) (rv : VVL (CJ C P s d jar) W vs xs) (gv : vGL vs = true) (gv' : vGL vs' = true)
    (e : mVL (pS s d jar) vs = mVL (pC r.i g pre post) vs') (hu : vG u = true) (hv : vG v = true) (hr : mV (pC r.i g pre post) u = mV (pS s d jar) v) : Run (CJ C P s d jar) F W (call (.ref f) xs) (.ok v W.σ) (VV (CJ C P s d jar)) := by
  subst eg
  exact via_c (C := CJ C P s d jar) G (rw_i A hs (mem_nth hj)).2.1 (fun k => (leaf (jar := jar) hs D (mem_nth hj) k).2) h1 h2 a q rv gv gv' e hu hv hr
omit G in
theorem row_m {j : Nat} {r : Rw} (hj : nth s.rws j = some r) {pre post : List Nat} : mV (pS s d jar) r.row = mV (pC r.i (fun k => fv d (r.f k)) pre post) (rowK xA r.i) :=
  row_c (fitSh (jar := jar) A hs D).low fun k _ _ => (leaf hs D (mem_nth hj) k).1
theorem frame_ok {v u : V} (a : AOk F 150) (rv : VVL (CJ C P s d jar) W [v] xs) (e : on (fun j => V.byt [Nat.add 300 j]) (rowIx v s.rows 0) = some u) : Run (CJ C P s d jar) F W (call (.ref 365) xs) (.ok u W.σ) (VV (CJ C P s d jar)) := by
  refine ob_EA (on_some e) fun m e' z1 => ?_; subst z1
  refine ob_EA (rowIx_some e') fun j z1 e2 => ?_; subst z1
  refine ob_EA (row_nth e2) fun r hj z1 => ?_; subst z1
  refine ob_AA (rw_i A hs (mem_nth hj)) fun o1 o2 o3 => ?_
  refine row_run (pre := []) (post := []) A hs D G hj rfl (Nat.zero_le _) (Nat.zero_le _) a (btt o1).1 rv (btI (vG_row ..) rfl) (btI (vG_row ..) rfl) (congrArg (fun v => [v]) (row_m A hs D hj)) rfl rfl (congrArg V.byt ?_)
  show (frameT r.i).flatMap (tkC r.i _ [] []) = [300 + (0 + j)].flatMap (tokS s d)
  rw [fr_c o2, List.flatMap_singleton, Nat.zero_add]
  exact (tok_row hj).symm
theorem check_ok {v u : V} (a : AOk F 150) (rv : VVL (CJ C P s d jar) W [v] xs) (e : on (fun _ => V.none) (rowIx v s.rows 0) = some u) : Run (CJ C P s d jar) F W (call (.ref 497) xs) (.ok u W.σ) (VV (CJ C P s d jar)) := by
  refine ob_EA (on_some e) fun m e' z1 => ?_; subst z1
  refine ob_EA (rowIx_some e') fun j z1 e2 => ?_; subst z1
  refine ob_EA (row_nth e2) fun r hj z1 => ?_; subst z1
  exact row_run (pre := []) (post := []) A hs D G hj rfl (Nat.zero_le _) (Nat.zero_le _) a (btt (btt (rw_i A hs (mem_nth hj)).1).2).2 rv (btI (vG_row ..) rfl) (btI (vG_row ..) rfl) (congrArg (fun v => [v]) (row_m A hs D hj)) rfl rfl rfl
omit G in
theorem take_le (l : List Nat) (q : l = s.log.take l.length) (j : Nat) : ((l.take j).flatMap (tokS s d)).length ≤ 5000 ∧ ((l.drop j).flatMap (tokS s d)).length ≤ 5000 := by
  have h1 := log_le (tok := tokS s d) s.rws 300 fun i r e => by
    refine ob_AA (rw_i A hs (mem_nth e)) fun _u b c => ?_
    rw [tok_row e]; exact (fr_len b c).2
  have h2 := Nat.ble_eq.mp (btt (btt (btt hs).2).1).1
  have h3 : ((l ++ s.log.drop l.length).flatMap (tokS s d)).length = (s.log.flatMap (tokS s d)).length := by conv => rhs; rw [← List.take_append_drop l.length s.log, ← q]
  have h4 : ((l.take j ++ l.drop j).flatMap (tokS s d)).length = (l.flatMap (tokS s d)).length := by rw [List.take_append_drop]
  rw [List.flatMap_append, List.length_append] at h3 h4
  change (s.log.flatMap (tokS s d)).length ≤ _ at h1
  omega
theorem end_ok {l : List Nat} {i : Int} (a : AOk F 150) (rv : VVL (CJ C P s d jar) W [.byt l, .int i] xs) (q : l = s.log.take l.length) (hi : (pS s d jar).f i = .ofNat (l.flatMap (tokS s d)).length) : Run (CJ C P s d jar) F W (call (.ref 372) xs) (.ok .none W.σ) (VV (CJ C P s d jar)) := by
  have h := (take_le A hs D l q l.length).1
  rw [List.take_length] at h
  have ok := (ok_i A (i := 0) rfl).2.1
  refine via_c (C := CJ C P s d jar) (i := 0) (g := fun _ => 0) (pre := l.flatMap (tokS s d)) (post := []) (u := .none) G ok (fun _ => Nat.zero_le _) h (Nat.zero_le _) a (btt (btt A).2).1 rv rfl rfl ?_ rfl rfl rfl
  have e : (pC 0 (fun _ => 0) (l.flatMap (tokS s d)) []).f (atC 0 [350]) = .ofNat ([350].flatMap (tkC 0 (fun _ => 0) (l.flatMap (tokS s d)) [])).length := lens ok h (Nat.zero_le _) [350] (.tail _ (.tail _ (.tail _ (.head _))))
  rw [List.flatMap_singleton] at e
  show [V.byt (l.flatMap (tokS s d)), V.int ((pS s d jar).f i)] = [V.byt ([350].flatMap _), V.int ((pC 0 (fun _ => 0) (l.flatMap (tokS s d)) []).f (atC 0 [350]))]
  rw [hi, e, List.flatMap_singleton]; rfl
theorem at_ok {l : List Nat} {i : Int} {j : Nat} {r : Rw} (a : AOk F 150) (rv : VVL (CJ C P s d jar) W [.byt l, .int i] xs) (q : l = s.log.take l.length) (hi : (pS s d jar).f i = .ofNat ((l.take j).flatMap (tokS s d)).length) (hj : nth s.rws j = some r) (lj : j < l.length) :
    Run (CJ C P s d jar) F W (call (.ref 372) xs) (.ok (.tup [r.row, .int (posC (Nat.succ j))]) W.σ) (VV (CJ C P s d jar)) := by
  have h1 := (take_le A hs D l q j).1
  have h2 := (take_le A hs D l q (j + 1)).2
  refine ob_AA (rw_i A hs (mem_nth hj)) fun o1 ok o3 => ?_
  have jl : j < lenF s.rws := by rw [lenF_eq]; exact (List.getElem?_eq_some_iff.mp ((nth_eq ..).symm.trans hj)).1
  have j5 : j < 5 := Nat.lt_of_lt_of_le jl (Nat.ble_eq.mp (btt (btt (btt hs).2).1).2)
  have k := allF_all (btt (btt (btt hs).2).2).2 j ((List.mem_range (n := 5)).mpr j5)
  rw [lt_no jl] at k
  refine ob_A (btt (show bt _ _ false = true from k)) fun k1 k2 => ?_
  refine ob_EA (oo_true k1) fun pr k1 k3 => ?_
  refine ob_EA (oo_true k2) fun t k2 k4 => ?_
  have k3 := eqL_of _ k3
  have k4 := Nat.eq_of_beq_eq_true k4
  rw [takeF_eq] at k3
  subst k3 k4
  have lt : (s.log.take l.length)[j]? = some (300 + j) := (List.getElem?_take_of_lt lj).trans ((nth_eq ..).symm.trans k2)
  rw [← q] at lt
  have tk : s.log.take (j + 1) = l.take (j + 1) := by conv => rhs; rw [q, List.take_take, Nat.min_eq_left lj]
  have el : ∀ t : Nat → List Nat, l.flatMap t = (l.take j).flatMap t ++ (t (300 + j) ++ (l.drop (j + 1)).flatMap t) := fun t => by
    refine ob_E (List.getElem?_eq_some_iff.mp lt) fun l1 e2 => ?_
    conv => lhs; rw [← List.take_append_drop j l, List.drop_eq_getElem_cons l1, e2]
    rw [List.flatMap_append, List.flatMap_cons]
  generalize hg : (fun k => fv d (r.f k)) = g at *
  generalize hp : (l.take j).flatMap (tokS s d) = pre at *
  generalize hq : (l.drop (j + 1)).flatMap (tokS s d) = post at *
  have rm : mV (pS s d jar) r.row = mV (pC r.i g pre post) (rowK xA r.i) := hg ▸ row_m A hs D hj
  have f1 : ((350 :: frameT r.i).flatMap (tkC r.i g pre post)) = pre ++ frB r.i g := by rw [List.flatMap_cons, fr_c ok]; rfl
  have tr : tokS s d (300 + j) = frB r.i g := hg ▸ tok_row hj
  refine row_run (u := .tup [rowK xA r.i, .int (atC r.i (350 :: frameT r.i))]) A hs D G hj hg.symm h1 h2 a (btt (btt o1).2).1 rv rfl rfl ?_ (btI (vG_row ..) rfl) (btI (vG_row ..) rfl) ?_
  · show [V.byt (l.flatMap (tokS s d)), V.int ((pS s d jar).f i)] = [V.byt ((datT r.i).flatMap (tkC r.i g pre post)), V.int ((pC r.i g pre post).f (atC r.i [350]))]
    rw [lens ok h1 h2 [350] (.tail _ (.tail _ (.tail _ (.head _)))), hi, el, hp, hq, show datT r.i = (350 :: frameT r.i) ++ [352] from congrArg (List.cons 350) (app_eq ..), List.flatMap_append, f1, tr, List.append_assoc, List.flatMap_singleton, List.flatMap_singleton]; rfl
  · show V.tup [mV (pC r.i g pre post) (rowK xA r.i), .int ((pC r.i g pre post).f _)] = V.tup [mV (pS s d jar) r.row, .int ((pS s d jar).f (posC (j + 1)))]
    rw [lens ok h1 h2 (350 :: frameT r.i) (.tail _ (.head _)), rm, f1]
    have e : (pS s d jar).f (posC (j + 1)) = atmS s d (21 + j) + 0 := by
      show (mkP _ _ jar).f (cod (20 + (j + 1)) 0) = _
      rw [f_cod (jar := jar) (fitSh A hs D) (by decide), show 20 + (j + 1) = 21 + j by omega]; rfl
    rw [e, show atmS s d (21 + j) = _ from pres_s hs (luk_mem _ k1), show List.take j.succ s.log = _ from tk, List.take_add_one, lt, List.flatMap_append, hp]
    show _ = V.tup [_, .int (.ofNat (pre ++ [300 + j].flatMap (tokS s d)).length + 0)]
    rw [List.flatMap_singleton, tr, Int.add_zero]
omit A hs D in
theorem id_ok {u : V} (a : AOk F 150) (q : isV u ((SX (PP noL) 130).cl f [u] []) = true) (g : vG u = true) (e : mV (pS s d jar) u = mV idp u) (rv : VVL (CJ C P s d jar) W [u] xs) : Run (CJ C P s d jar) F W (call (.ref f) xs) (.ok u W.σ) (VV (CJ C P s d jar)) := by
  refine ob_E (isV_of q) fun x q => ?_
  exact via_x (C := CJ C P s d jar) (P := PP noL) (G DX idp exact_ok fun _ _ => rfl) (a.less (by decide)) q rv (btI g rfl) (btI g rfl) (congrArg (fun v => [v]) e) ⟨u, rfl, g, g, e.symm⟩
theorem orM_ok {g : List V → Option V} {u : V} (a : AOk F 150) (rv : VVL (CJ C P s d jar) W vs xs) (e : (orM s f).f = some g) (e2 : g vs = some u) : Run (CJ C P s d jar) F W (call (.ref f) xs) (.ok u W.σ) (VV (CJ C P s d jar)) := by
  obtain ⟨rfl, e⟩ | e := orc_some e
  · injection e with z1; subst z1
    refine ob_EA (a1_some e2) fun v z1 e => ?_; subst z1
    exact frame_ok A hs D G a rv e
  obtain ⟨rfl, e⟩ | e := orc_some e
  · injection e with z1; subst z1
    refine ob_EEA (a2_some e2) fun v w z1 e => ?_; subst z1
    refine ob_EA (vY_some e) fun l z1 e => ?_; subst z1
    refine ob_EA (vI_some e) fun i z1 e => ?_; subst z1
    refine ob_EA (oo_some e) fun j q1 e => ?_
    refine ob_A (bt_some e) fun q2 e => ?_
    refine ob_A (ix_at (jar := jar) (fitSh A hs D) q1) fun p1 p2 => ?_
    have q2 := eqL_of _ q2
    rw [takeF_eq, lenF_eq] at q2
    unfold eq0 at e
    cases q3 : Nat.beq j (lenF l) with
    | true =>
      rw [q3] at e
      injection e with z1; subst z1
      rw [Nat.eq_of_beq_eq_true q3, lenF_eq, List.take_length] at p1
      exact end_ok A hs D G a rv q2 p1
    | false =>
      rw [q3] at e
      refine ob_EA (on_some (show on (fun r => V.tup [r, .int (posC (Nat.succ j))]) (nth s.rows j) = some u from e)) fun v e3 z1 => ?_; subst z1
      refine ob_EA (row_nth e3) fun r hj z1 => ?_; subst z1
      refine at_ok A hs D G a rv q2 p1 hj (Nat.lt_of_le_of_ne p2 fun h => ?_)
      rw [h, lenF_eq, Nat.beq_refl] at q3; injection q3
  obtain ⟨rfl, e⟩ | e := orc_some e
  · injection e with z1; subst z1
    refine ob_EA (a1_some e2) fun v z1 e => ?_; subst z1
    exact check_ok A hs D G a rv e
  refine ob_A (btt (btt (btt A).2).2) fun w1 w2 => ?_
  have W1 : (idO words).f = some g → f = 504 ∨ f = 398 → Run (CJ C P s d jar) F W (call (.ref f) xs) (.ok u W.σ) (VV (CJ C P s d jar)) := fun e h => by
    refine ob_A (idO_some e e2) fun z1 m => ?_; subst z1
    have k := btt (allF_all w1 u m)
    have := (List.forall_mem_cons.mpr ⟨⟨rfl, rfl⟩, List.forall_mem_cons.mpr ⟨⟨rfl, rfl⟩, List.forall_mem_cons.mpr ⟨⟨rfl, rfl⟩, List.forall_mem_cons.mpr ⟨⟨rfl, rfl⟩, nofun⟩⟩⟩⟩ : ∀ u ∈ words, vG u = true ∧ mV (pS s d jar) u = mV idp u) u m
    exact id_ok G a (h.elim (fun h => h ▸ k.1) fun h => h ▸ k.2) this.1 this.2 rv
  obtain ⟨q, e⟩ | e := orc_some e
  · exact W1 e (.inl q)
  obtain ⟨q, e⟩ | e := orc_some e
  · exact W1 e (.inr q)
  obtain ⟨rfl, e⟩ | e := orc_some e
  · refine ob_A (idO_some e e2) fun z1 m => ?_; subst z1
    have k := allF_all w2 u m
    have := (List.forall_mem_cons.mpr ⟨⟨rfl, rfl⟩, List.forall_mem_cons.mpr ⟨⟨rfl, rfl⟩, List.forall_mem_cons.mpr ⟨⟨rfl, rfl⟩, nofun⟩⟩⟩ : ∀ u ∈ flagsOk, vG u = true ∧ mV (pS s d jar) u = mV idp u) u m
    exact id_ok G a k this.1 this.2 rv
  · injection e
end
end
end Mine
namespace Mine
open PySem PyProof.Rows
noncomputable section
def ae (b : List Stmt) (i : Nat) : Expr × Expr × Expr := oo (e00, e00, e00) (fun s => match s with | .Assign [.Subscript o ix _] e _ => (e, o, ix) | .Assign [_] e _ => (e, e00, e00) | .Return (some e) _ => (e, e00, e00) | _ => (e00, e00, e00)) (nth b i)
def sb (e : Expr) (i : Nat) : Expr := match e with | .BoolOp _ es _ => oo e00 (fun e => e) (nth es i) | .List es _ => oo e00 (fun e => e) (nth es i) | _ => e00
section
variable {S : Type} {D : Dm S} {ih : SemF S} {P : Prg} {z : ES S} {s : S} {b : List Stmt} {i : Nat} {v : V} {env : MEnv}
def AsgAt (D : Dm S) (P : Prg) (b : List Stmt) (i : Nat) (x : Str) : Prop := ∀ ih z, (cB D P (dropF i b)).run ih z = rs (re z.e (ih.ev z.e z.s (ae b i).1) fun v s => bindF (cT (.Name x ⟨0, 0, 0, 0⟩)) v ⟨z.e, s⟩) fun z => (cB D P (dropF (Nat.succ i) b)).run ih z
theorem asg_at {x : Str} (h : AsgAt D P b i x) (t : ih.ev z.e z.s (ae b i).1 = .ok v s) (e : bindF (cT (.Name x ⟨0, 0, 0, 0⟩)) v ⟨z.e, s⟩ = .ok .next ⟨env, s⟩) : (cB D P (dropF i b)).run ih z = (cB D P (dropF (Nat.succ i) b)).run ih ⟨env, s⟩ := by
  rw [h ih z, t]
  show rs (bindF _ v ⟨z.e, s⟩) _ = _
  rw [e]; rfl
end
section
variable {ih : SemF (List MO)} {P : Prg} {z : ES (List MO)} {s s1 s2 s3 : List MO} {b : List Stmt} {i : Nat} {v u w : V} {env : MEnv}
def SetAt (P : Prg) (b : List Stmt) (i : Nat) : Prop := ∀ ih z, (cB DX P (dropF i b)).run ih z = rs (re z.e (ih.ev z.e z.s (ae b i).1) fun v s => re z.e (ih.ev z.e s (ae b i).2.1) fun ov s => re z.e (ih.ev z.e s (ae b i).2.2) fun iv s => re z.e (setI DX ov iv v s) fun _ s => .ok .next ⟨z.e, s⟩) fun z => (cB DX P (dropF (Nat.succ i) b)).run ih z
def RetAt (P : Prg) (b : List Stmt) (i : Nat) : Prop := ∀ ih z, (cB DX P (dropF i b)).run ih z = rs (re z.e (ih.ev z.e z.s (ae b i).1) fun v s => .ok (.ret v) ⟨z.e, s⟩) fun z => (cB DX P (dropF (Nat.succ i) b)).run ih z
theorem seti_at (h : SetAt P b i) (t : ih.ev z.e z.s (ae b i).1 = .ok v s) (t1 : ih.ev z.e s (ae b i).2.1 = .ok u s1) (t2 : ih.ev z.e s1 (ae b i).2.2 = .ok w s2) (e : setI DX u w v s2 = .ok .none s3) : (cB DX P (dropF i b)).run ih z = (cB DX P (dropF (Nat.succ i) b)).run ih ⟨z.e, s3⟩ := by
  rw [h ih z, t]
  show rs (re z.e (ih.ev z.e s (ae b i).2.1) _) _ = _
  rw [t1]
  show rs (re z.e (ih.ev z.e s1 (ae b i).2.2) _) _ = _
  rw [t2]
  show rs (re z.e (setI DX u w v s2) _) _ = _
  rw [e]; rfl
theorem ret_at (h : RetAt P b i) (t : ih.ev z.e z.s (ae b i).1 = .ok v s) : (cB DX P (dropF i b)).run ih z = .ok (.ret v) ⟨z.e, s⟩ := by
  rw [h ih z, t]; rfl
end
section
variable (ls : Addr → Option (List V)) (n : Nat)
def pO : FI := fiOf (top 106) [] false
def pb : List Stmt := (lp pO.body 2).2
def pE (m k : Nat) (o o2 : Option Nat) : MEnv := ⟨pO.sc, (kc "jar", .obj 1) :: (kc "many", .int (.ofNat (Nat.succ m))) :: (kc "turn", .int (.ofNat k)) :: oo [] (fun q => (kc "spot", .int (.ofNat q)) :: oo [] (fun a => [(kc "found", .int (.ofNat a))]) o2) o⟩
def jS (cs : List V) (k s : Nat) : List MO := [.list cs, .list [.obj 0, .int (.ofNat k), .int (.ofNat s)]]
def jN (cs : List V) (k s : Nat) : List MO := [.list cs, .list [.obj 0, .int (.ofNat k), .int (.ofNat s)], .list []]
variable (cs : List V) (m k s q a : Nat) (k' : Nat)
theorem pl_0 : (X ls (n + 16)).cl 701 [.obj 1, .int (.ofNat (Nat.succ m))] (jS cs k s) = outF ((cB DX (PP ls) (dropF 2 pO.body)).run (X ls (n + 14)) ⟨pE m k none none, jS cs (k + 1) s⟩) := by kernel_rfl
theorem pl_if : IfAt (PP ls) pO.body 2 := fun ih z => by kernel_rfl
theorem pl_t0 : (X ls (n + 14)).ev (pE m k none none) (jS [] k' s) (lp pO.body 2).1 = .ok (.bool false) (jN [] k' s) := by kernel_rfl
theorem pl_t1 (c : V) (r : List V) : (X ls (n + 14)).ev (pE m k none none) (jS (c :: r) k' s) (lp pO.body 2).1 = rb (rb (rb (numF (jN (c :: r) k' s) (lenF (c :: r))) fun y s => ob s (on .bool (ltF DX (.int (.ofNat k)) y))) fun v s => vB .bad (fun b => bt b (.ok (.bool true) s) (bopF .Or [sb (sb (lp pO.body 2).1 1) 1] (X ls (n + 12)) (pE m k none none) s)) v) fun v s => vB .bad (fun b => .ok (.bool b) s) v := by kernel_rfl
theorem pl_t2 : (X ls (n + 12)).ev (pE m k none none) (jN cs k' s) (sb (sb (lp pO.body 2).1 1) 1) = rb (rb (rb (numF (jN cs k' s) (lenF cs)) fun y s => binF DX .Mod (.int (.ofNat k)) y s) fun i s => ixF DX (.obj 0) i s) fun x s => ob s (on .bool ((cO DX .Gt).f x (.int (.ofNat 0)) s)) := by kernel_rfl
theorem pl_b0 : AsgAt DX (PP ls) pb 0 "spot" := fun ih z => by kernel_rfl
theorem pl_e0 : (X ls (n + 13)).ev (pE m k none none) (jN cs k' s) (ae pb 0).1 = rb (numF (jN cs k' s) (lenF cs)) fun y s => binF DX .Mod (.int (.ofNat k)) y s := by kernel_rfl
theorem pl_b1 : AsgAt DX (PP ls) pb 1 "found" := fun ih z => by kernel_rfl
theorem pl_e1 : (X ls (n + 13)).ev (pE m k (some q) none) (jN cs k' s) (ae pb 1).1 = rb (ixF DX (.obj 0) (.int (.ofNat q)) (jN cs k' s)) fun x s => binF DX .Mod x (.int (.ofNat (Nat.succ m))) s := by kernel_rfl
theorem pl_b2 : SetAt (PP ls) pb 2 := fun ih z => by kernel_rfl
theorem pl_e2 : (X ls (n + 13)).ev (pE m k (some q) (some a)) (jN cs k' s) (ae pb 2).1 = rb (ixF DX (.obj 0) (.int (.ofNat q)) (jN cs k' s)) fun x s => binF DX .FloorDiv x (.int (.ofNat (Nat.succ m))) s := by kernel_rfl
theorem pl_b3 : RetAt (PP ls) pb 3 := fun ih z => by kernel_rfl
theorem pl_b4 : SetAt (PP ls) pO.body 3 := fun ih z => by kernel_rfl
theorem pl_e4 : (X ls (n + 14)).ev (pE m k none none) (jN cs k' s) (ae pO.body 3).1 = rb (rb (rb (ob (jN cs k' s) (on .int (mulI (.ofNat s) (.ofNat 48271)))) fun x s => rb (ob s (on .int (mulI (.ofNat 7) (.ofNat k)))) fun y s => binF DX .Add x y s) fun x s => binF DX .Add x (.int (.ofNat 1)) s) fun x s => binF DX .Mod x (.int (.ofNat 2147483647)) s := by kernel_rfl
theorem pl_b5 : RetAt (PP ls) pO.body 4 := fun ih z => by kernel_rfl
theorem pl_e5 : (X ls (n + 14)).ev (pE m k none none) (jN cs k' s) (ae pO.body 4).1 = .ok (.int (.ofNat (s / 17 % Nat.succ m))) (jN cs k' s) := by kernel_rfl
def gtC (a : Nat) : Bool := not (iLe (.ofNat a) (.ofNat 0))
def iv (L : List Nat) : List V := mapF (fun a => .int (.ofNat a)) L
structure Jar where
  L : List Nat
  k : Nat
  s : Nat
def Jar.at (j : Jar) : Nat := oo 0 (fun a => a) (nth j.L (j.k % lenF j.L))
def Jar.own (j : Jar) : Bool := bt (Nat.beq (lenF j.L) 0) false (bt (iLt (.ofNat j.k) (.ofNat (lenF j.L))) true (iLt (.ofNat 0) (.ofNat j.at)))
def Jar.nx (j : Jar) : Nat := (j.s * 48271 + 7 * j.k + 1) % 2147483647
def Jar.val (j : Jar) (m : Nat) : Nat := bt j.own (j.at % Nat.succ m) (j.nx / 17 % Nat.succ m)
def Jar.next (j : Jar) (m : Nat) : Jar := bt j.own ⟨setN j.L (j.at / Nat.succ m) (j.k % lenF j.L), j.k + 1, j.s⟩ ⟨j.L, j.k + 1, j.nx⟩
structure Jar.Ok (j : Jar) : Prop where
  l : lenF j.L ≤ 20
  k : j.k ≤ 999
  s : j.s ≤ big
theorem iv_nth (L : List Nat) (i : Nat) : nth (iv L) i = on (fun a => V.int (.ofNat a)) (nth L i) := by
  rw [nth_eq, nth_eq, iv, mapF_eq, List.getElem?_map]; cases L[i]? <;> rfl
theorem iv_len (L : List Nat) : lenF (iv L) = lenF L := by rw [lenF_eq, lenF_eq, iv, mapF_eq, List.length_map]
variable (L : List Nat)
theorem ix_iv {L : List Nat} {q : Nat} (h : lenF L ≤ 20) (h2 : q < lenF L) : ixF DX (.obj 0) (.int (.ofNat q)) (jN (iv L) k' s) = .ok (.int (.ofNat (oo 0 (fun a => a) (nth L q)))) (jN (iv L) k' s) := by
  have e : ixF DX (.obj 0) (.int (.ofNat q)) (jN (iv L) k' s) = oo .bad (fun n => ob (jN (iv L) k' s) (nth (iv L) n)) (bt (Nat.ble q 999999) (some q) none) := rfl
  rw [e, Nat.ble_eq.mpr (show q ≤ 999999 by omega)]
  show ob _ (nth (iv L) q) = _
  rw [iv_nth, nth_eq, List.getElem?_eq_getElem (lenF_eq L ▸ h2)]; rfl
theorem numF_ok {σ : List MO} {l : Nat} (h : l ≤ 20) : numF σ l = .ok (.int (.ofNat l)) σ := by
  unfold numF; rw [Nat.ble_eq.mpr (Nat.le_trans h (by decide : 20 ≤ 999999))]; rfl
theorem pl_T {L : List Nat} (hl : lenF L ≤ 20) (h0 : Nat.beq (lenF L) 0 = false) : (X ls (n + 14)).ev (pE m k none none) (jS (iv L) (k + 1) s) (lp pO.body 2).1 = .ok (.bool (Jar.mk L k s).own) (jN (iv L) (k + 1) s) := by
  have hq : k % lenF L < lenF L := Nat.mod_lt _ (Nat.pos_of_ne_zero fun h => by rw [h] at h0; injection h0)
  have e2 := pl_t2 ls n (iv L) m k s (k + 1)
  rw [iv_len, numF_ok hl] at e2
  have e2 := e2.trans (show _ = rb (ixF DX (.obj 0) (.int (.ofNat (k % lenF L))) (jN (iv L) (k + 1) s)) fun x s => ob s (on .bool ((cO DX .Gt).f x (.int (.ofNat 0)) s)) from by
    show rb (rb (ob _ (on V.int (bt (Nat.ble 1 (lenF L)) (some (Int.ofNat (k % lenF L))) none))) _) _ = _
    rw [Nat.ble_eq.mpr (Nat.pos_of_ne_zero fun h => by rw [h] at h0; injection h0)]; rfl)
  rw [ix_iv (s := s) (k' := k + 1) hl hq] at e2
  cases L with
  | nil => injection h0
  | cons c r =>
    have e1 := pl_t1 ls n m k s (k + 1) (.int (.ofNat c)) (iv r)
    rw [show V.int (.ofNat c) :: iv r = iv (c :: r) from rfl, iv_len, numF_ok hl] at e1
    refine e1.trans ?_
    unfold Jar.own
    rw [h0]
    show rb (rb (RF.ok (V.bool (iLt (.ofNat k) (.ofNat (lenF (c :: r))))) (jN (iv (c :: r)) (k + 1) s)) _) _ = RF.ok (V.bool (bt (iLt (.ofNat k) (.ofNat (lenF (c :: r)))) true _)) _
    cases iLt (.ofNat k) (.ofNat (lenF (c :: r))) with
    | true => rfl
    | false =>
      show rb (rb ((X ls (n + 12)).ev (pE m k none none) (jN (iv (c :: r)) (k + 1) s) (sb (sb (lp pO.body 2).1 1) 1)) _) _ = _
      rw [e2]; rfl
theorem iv_set (L : List Nat) (a : Nat) : ∀ i, setN (iv L) (.int (.ofNat a)) i = iv (setN L a i) := by
  induction L with
  | nil => exact fun i => rfl
  | cons x L ih =>
    intro i
    cases i with
    | zero => rfl
    | succ i => exact congrArg (V.int (.ofNat x) :: ·) (ih i)
theorem pull_at (j : Jar) (J : j.Ok) (hm : m ≤ 999) : (X ls (n + 16)).cl 701 [.obj 1, .int (.ofNat (Nat.succ m))] (jS (iv j.L) j.k j.s) = .ok (.int (.ofNat (j.val m))) (jN (iv (j.next m).L) (j.next m).k (j.next m).s) := by
  obtain ⟨L, k, s⟩ := j
  obtain ⟨hl, hk, hs⟩ := J
  dsimp only at hl hk hs ⊢
  rw [pl_0]
  have seed : outF ((cB DX (PP ls) (dropF 3 pO.body)).run (X ls (n + 14)) ⟨pE m k none none, jN (iv L) (k + 1) s⟩) = .ok (.int (.ofNat ((s * 48271 + 7 * k + 1) % 2147483647 / 17 % Nat.succ m))) (jN (iv L) (k + 1) ((s * 48271 + 7 * k + 1) % 2147483647)) := by
    have e4 := pl_e4 ls n (iv L) m k s (k + 1)
    rw [mul_ok hs (le_big (by decide)), mul_ok (le_big (by decide)) (le_big (Nat.le_trans hk (by decide)))] at e4
    refine (congrArg outF ((seti_at (pl_b4 ls) (v := .int (.ofNat ((s * 48271 + 7 * k + 1) % 2147483647))) (u := .obj 1) (w := .int (.ofNat 2)) (s := jN (iv L) (k + 1) s) (s1 := jN (iv L) (k + 1) s) (s2 := jN (iv L) (k + 1) s) (s3 := jN (iv L) (k + 1) ((s * 48271 + 7 * k + 1) % 2147483647)) (e4.trans (by kernel_rfl)) (by kernel_rfl) (by kernel_rfl) (by kernel_rfl)).trans (ret_at (pl_b5 ls) (pl_e5 ls n (iv L) m k _ (k + 1))))).trans (by kernel_rfl)
  cases h0 : Nat.beq (lenF L) 0 with
  | true =>
    have : L = [] := by cases L with | nil => rfl | cons _ _ => injection h0
    subst this
    rw [if_no (pl_if ls) (pl_t0 ls n m k s (k + 1)) (by kernel_rfl)]
    exact seed
  | false =>
    have hp : 0 < lenF L := Nat.pos_of_ne_zero fun h => by rw [h] at h0; injection h0
    have hq : k % lenF L < lenF L := Nat.mod_lt _ hp
    have T := pl_T ls n m k s hl h0
    unfold Jar.val Jar.next
    cases ho : (Jar.mk L k s).own with
    | false =>
      rw [ho] at T
      rw [if_no (pl_if ls) T (by kernel_rfl)]
      exact seed
    | true =>
      rw [ho] at T
      rw [if_yes (pl_if ls) T]
      have e0 := pl_e0 ls n (iv L) m k s (k + 1)
      rw [iv_len, numF_ok hl] at e0
      have e0 := e0.trans (show _ = RF.ok (V.int (.ofNat (k % lenF L))) (jN (iv L) (k + 1) s) from by
        show ob _ (on V.int (bt (Nat.ble 1 (lenF L)) (some (Int.ofNat (k % lenF L))) none)) = _
        rw [Nat.ble_eq.mpr hp]; rfl)
      have e1 := pl_e1 ls n (iv L) m k s (k % lenF L) (k + 1)
      rw [ix_iv (s := s) (k' := k + 1) hl hq] at e1
      have e2 := pl_e2 ls n (iv L) m k s (k % lenF L) ((Jar.mk L k s).at % Nat.succ m) (k + 1)
      rw [ix_iv (s := s) (k' := k + 1) hl hq] at e2
      have e2 := e2.trans (show _ = RF.ok (V.int (.ofNat ((Jar.mk L k s).at / Nat.succ m))) (jN (iv L) (k + 1) s) from by
        show ob _ (on V.int (bt (Nat.ble (Nat.succ m) 1000000000) (some (Int.ofNat ((Jar.mk L k s).at / Nat.succ m))) none)) = _
        rw [Nat.ble_eq.mpr (show Nat.succ m ≤ 1000000000 by omega)]; rfl)
      have es : setI DX (.obj 0) (.int (.ofNat (k % lenF L))) (.int (.ofNat ((Jar.mk L k s).at / Nat.succ m))) (jN (iv L) (k + 1) s) = .ok .none (jN (iv (setN L ((Jar.mk L k s).at / Nat.succ m) (k % lenF L))) (k + 1) s) := by
        show oo .bad (fun n => gd (Nat.ble (Nat.succ n) (lenF (iv L))) (RF.ok V.none (jN (setN (iv L) (.int (.ofNat ((Jar.mk L k s).at / Nat.succ m))) n) (k + 1) s))) (bt (Nat.ble (k % lenF L) 999999) (some (k % lenF L)) none) = _
        rw [Nat.ble_eq.mpr (show k % lenF L ≤ 999999 by omega)]
        show gd (Nat.ble (Nat.succ (k % lenF L)) (lenF (iv L))) _ = _
        rw [iv_len, Nat.ble_eq.mpr hq, iv_set]; rfl
      have run : (X ls (n + 14)).ex ⟨pE m k none none, jN (iv L) (k + 1) s⟩ pb = (cB DX (PP ls) (dropF 0 pb)).run (X ls (n + 13)) ⟨pE m k none none, jN (iv L) (k + 1) s⟩ := by kernel_rfl
      have run := run.trans ((asg_at (pl_b0 ls) e0 (env := pE m k (some (k % lenF L)) none) (by kernel_rfl)).trans ((asg_at (pl_b1 ls) e1 (env := pE m k (some (k % lenF L)) (some ((Jar.mk L k s).at % Nat.succ m))) (by kernel_rfl)).trans
        ((seti_at (pl_b2 ls) (s := jN (iv L) (k + 1) s) (s1 := jN (iv L) (k + 1) s) (s2 := jN (iv L) (k + 1) s) e2 (by kernel_rfl) (by kernel_rfl) es).trans (ret_at (pl_b3 ls) (v := .int (.ofNat ((Jar.mk L k s).at % Nat.succ m))) (s := jN (iv (setN L ((Jar.mk L k s).at / Nat.succ m) (k % lenF L))) (k + 1) s) (by kernel_rfl)))))
      show outF (rs ((X ls (n + 14)).ex ⟨pE m k none none, jN (iv L) (k + 1) s⟩ pb) _) = _
      rw [run]; rfl
end
end
end Mine
namespace Mine
open PySem PyProof.Rows
noncomputable section
def lcP (e : Expr) : Expr × Expr × List (Str × NameKind) := match e with | .ListComp elt gens sc _ => oo (e00, e00, []) (fun g => (elt, g.2.1, sc.names)) (oneGen gens) | _ => (e00, e00, [])
section
variable {S : Type} {D : Dm S} {ih : SemF S} {sc : List (Str × NameKind)} {t : TT} {add : MEnv → S → RF S V} {src v u : V} {k i : Nat} {vars vars' : List (Nat × V)} {s s' : S}
theorem comp_go (h : itF D (.v src) s i = some (some v)) (h1 : t.f v vars = some vars') (h2 : add ⟨sc, vars'⟩ s = .ok u s') : compF D ih sc t [] add src (k + 1) i vars s = compF D ih sc t [] add src k (i + 1) vars' s' := by
  show oo RF.bad _ (itF D (.v src) s i) = _
  rw [h]
  show oo RF.bad _ (t.f v vars) = _
  rw [h1]
  show rn (add ⟨sc, vars'⟩ s) _ = _
  rw [h2]; rfl
theorem comp_end (h : itF D (.v src) s i = some none) : compF D ih sc t [] add src (k + 1) i vars s = .ok .none s := by
  show oo RF.bad _ (itF D (.v src) s i) = _
  rw [h]; rfl
end
theorem rb_ok {S α β : Type} {r : RF S α} {f : α → S → RF S β} {a : α} {s : S} (h : r = .ok a s) : rb r f = f a s := by rw [h]; rfl
section
variable (ls : Addr → Option (List V)) (n : Nat) (l : Addr)
def jO : FI := fiOf (top 105) [] false
def jE (l : Addr) : MEnv := ⟨jO.sc, [(kc "script", .ref l)]⟩
def jL : Expr := (ae jO.body 0).1
def jC : Expr × Expr × List (Str × NameKind) := lcP (sb jL 0)
theorem jr_0 : (X ls (n + 14)).cl 694 [.ref l] [] = outF ((cB DX (PP ls) (dropF 0 jO.body)).run (X ls (n + 12)) ⟨jE l, []⟩) := by kernel_rfl
theorem jr_1 : RetAt (PP ls) jO.body 0 := fun ih z => by kernel_rfl
theorem jr_2 : (X ls (n + 12)).ev (jE l) [] jL = rb ((X ls (n + 11)).ev (jE l) [] (sb jL 0)) fun a s => rb ((X ls (n + 11)).ev (jE l) s (sb jL 1)) fun b s => rb ((X ls (n + 11)).ev (jE l) s (sb jL 2)) fun c s => newLF DX s [a, b, c] := by kernel_rfl
theorem jr_3 : (X ls (n + 11)).ev (jE l) [] (sb jL 0) = rb ((X ls (n + 10)).ev (jE l) [] jC.2.1) fun src s => oo .bad (fun _ => pushF DX s (.list []) fun i s => rb (compF DX (X ls (n + 10)) jC.2.2 (cT (.Name "cell" ⟨0, 0, 0, 0⟩)) [] (addL DX jC.1 i (X ls (n + 10))) src turns 0 [] s) fun _ s => .ok (.obj i) s) (itF DX (.v src) s 0) := by kernel_rfl
theorem jr_4 : (X ls (n + 10)).ev (jE l) [] jC.2.1 = oo .bad (fun js => gd (smallF js) (newLF DX [] (takeF js 20))) (ls l) := by kernel_rfl
theorem jr_5 (c : Int) (σ : List MO) : (X ls (n + 10)).ev ⟨jC.2.2, [(kc "cell", .int c)]⟩ σ jC.1 = .ok (.int (.ofNat (c.natAbs % 100000000000000000000000000000000000000000000000000))) σ := by kernel_rfl
theorem jr_6 (σ : List MO) : (X ls (n + 11)).ev (jE l) σ (sb jL 1) = .ok (.int (.ofNat 0)) σ := by kernel_rfl
theorem jr_7 (σ : List MO) : (X ls (n + 11)).ev (jE l) σ (sb jL 2) = rb (rb (oo .bad (fun js => numF σ (lenF js)) (ls l)) fun y σ => binF DX .Mult (.int (.ofNat 2)) y σ) fun y σ => binF DX .Add (.int (.ofNat 3)) y σ := by kernel_rfl
def cellN (c : Int) : Nat := c.natAbs % 100000000000000000000000000000000000000000000000000
def jar0 (is : List Int) : Jar := ⟨(is.take 20).map cellN, 0, 3 + 2 * is.length⟩
def ivs (L : List Int) : List V := mapF V.int L
theorem jr_loop (L : List Int) (hL : L.length ≤ 20) (r : List Int) : ∀ (p : List Int) (j : Nat) (vars : List (Nat × V)), L = p ++ r → (∀ v, (cT (.Name "cell" ⟨0, 0, 0, 0⟩)).f v vars = some [(kc "cell", v)]) →
    compF DX (X ls (n + 10)) jC.2.2 (cT (.Name "cell" ⟨0, 0, 0, 0⟩)) [] (addL DX jC.1 1 (X ls (n + 10))) (.obj 0) (r.length + 1 + j) p.length vars [.list (ivs L), .list (iv (p.map cellN))] = .ok .none [.list (ivs L), .list (iv (L.map cellN))] := by
  have it : ∀ i s, itF DX (.v (.obj 0)) [.list (ivs L), s] i = some (on V.int L[i]?) := fun i s => by
    show some (nth (ivs L) i) = _
    rw [nth_eq, ivs, mapF_eq, List.getElem?_map]; cases L[i]? <;> rfl
  induction r with
  | nil =>
    intro p j vars e _
    subst e
    rw [List.append_nil] at it ⊢
    rw [show ([] : List Int).length + 1 + j = j + 1 from Nat.zero_add 1 ▸ Nat.add_comm 1 j]
    exact comp_end ((it _ _).trans (by rw [List.getElem?_eq_none (Nat.le_refl _)]; rfl))
  | cons c r ih =>
    intro p j vars e hv
    have e2 : L = (p ++ [c]) ++ r := by rw [e, List.append_assoc]; rfl
    have lp : p.length ≤ 20 := by rw [e, List.length_append] at hL; omega
    rw [show (c :: r).length + 1 + j = (r.length + 1 + j) + 1 from by rw [List.length_cons]; omega]
    have ad : addL DX jC.1 1 (X ls (n + 10)) ⟨jC.2.2, [(kc "cell", .int c)]⟩ [.list (ivs L), .list (iv (p.map cellN))] = .ok .none [.list (ivs L), .list (iv ((p ++ [c]).map cellN))] := by
      have sm : smallF (iv (p.map cellN)) = true := by unfold smallF; rw [iv_len, lenF_eq, List.length_map]; exact Nat.ble_eq.mpr (Nat.le_trans lp (by decide))
      show rb ((X ls (n + 10)).ev ⟨jC.2.2, [(kc "cell", .int c)]⟩ _ jC.1) _ = _
      rw [jr_5]
      show gd (smallF (iv (p.map cellN))) (RF.ok V.none [MO.list (ivs L), MO.list (app (iv (p.map cellN)) [.int (.ofNat (cellN c))])]) = _
      rw [sm, app_eq, iv, iv, mapF_eq, mapF_eq, List.map_append, List.map_append]; rfl
    rw [comp_go (v := .int c) ((it _ _).trans (by rw [e, List.getElem?_append_right (Nat.le_refl _), Nat.sub_self]; rfl)) (hv _) ad]
    have := ih (p ++ [c]) j [(kc "cell", .int c)] e2 fun v => by kernel_rfl
    rw [List.length_append] at this
    exact this
theorem jar_at (is : List Int) (h : ls l = some (ivs is)) (hl : is.length ≤ 63) : (X ls (n + 14)).cl 694 [.ref l] [] = .ok (.obj 2) [.list (ivs (is.take 20)), .list (iv (jar0 is).L), .list [.obj 1, .int (.ofNat (jar0 is).k), .int (.ofNat (jar0 is).s)]] := by
  have le : lenF (ivs is) = is.length := by rw [lenF_eq, ivs, mapF_eq, List.length_map]
  have e4 := jr_4 ls n l
  rw [h] at e4
  have e4 := e4.trans (show _ = RF.ok (V.obj 0) [.list (ivs (is.take 20))] from by
    show gd (smallF (ivs is)) _ = _
    rw [smallF, le, Nat.ble_eq.mpr (Nat.le_trans hl (by decide)), ivs, ivs, mapF_eq, mapF_eq, takeF_eq, List.map_take]; rfl)
  have e3 := jr_3 ls n l
  rw [e4] at e3
  have e7 := jr_7 ls n l [.list (ivs (is.take 20)), .list (iv (jar0 is).L)]
  rw [h] at e7
  have e7 := e7.trans (show _ = RF.ok (V.int (.ofNat (3 + 2 * is.length))) [.list (ivs (is.take 20)), .list (iv (jar0 is).L)] from by
    show rb (rb (numF _ (lenF (ivs is))) _) _ = _
    rw [numF, le, Nat.ble_eq.mpr (Nat.le_trans hl (by decide))]
    show rb (ob _ (on V.int (mulI (.ofNat 2) (.ofNat is.length)))) _ = _
    rw [mul_ok (le_big (show 2 ≤ 1000000 by decide)) (le_big (Nat.le_trans hl (show 63 ≤ 1000000 by decide)))]; rfl)
  have lt : (is.take 20).length ≤ 20 := by rw [List.length_take]; omega
  have lo := jr_loop ls n (is.take 20) lt (is.take 20) [] (1999 - (is.take 20).length) [] rfl fun v => by kernel_rfl
  rw [show (is.take 20).length + 1 + (1999 - (is.take 20).length) = 2000 by omega] at lo
  have e3 := e3.trans (show _ = RF.ok (V.obj 1) [.list (ivs (is.take 20)), .list (iv (jar0 is).L)] from by
    show rb (compF DX (X ls (n + 10)) jC.2.2 (cT (.Name "cell" ⟨0, 0, 0, 0⟩)) [] (addL DX jC.1 1 (X ls (n + 10))) (.obj 0) 2000 0 [] [.list (ivs (is.take 20)), .list []]) _ = _
    rw [show compF DX (X ls (n + 10)) jC.2.2 (cT (.Name "cell" ⟨0, 0, 0, 0⟩)) [] (addL DX jC.1 1 (X ls (n + 10))) (.obj 0) 2000 0 [] [.list (ivs (is.take 20)), .list []] = _ from lo]; rfl)
  have e2 : (X ls (n + 12)).ev (jE l) [] (ae jO.body 0).1 = RF.ok (V.obj 2) [.list (ivs (is.take 20)), .list (iv (jar0 is).L), .list [.obj 1, .int (.ofNat 0), .int (.ofNat (3 + 2 * is.length))]] := (jr_2 ls n l).trans ((rb_ok e3).trans ((rb_ok (jr_6 ls n l _)).trans ((rb_ok e7).trans rfl)))
  rw [jr_0]
  exact (congrArg outF (ret_at (jr_1 ls) e2)).trans rfl
end
end
end Mine
namespace Mine
open PySem PyProof.Rows PySem.W
open PySem.Builtin
noncomputable section
def mN (k : Nat) : Nat := oo 0 (fun a => a) (nth manyN k)
def jarK (is : List Int) (k : Nat) : Jar := Nat.rec (motive := fun _ => Jar) (jar0 is) (fun k j => j.next (mN k)) k
def dr (is : List Int) (k : Nat) : Nat := (jarK is k).val (mN k)
def jarO (is : List Int) (c k : Nat) : MO := eq0 c 0 (.list (iv (jarK is k).L)) (.list [.obj 0, .int (.ofNat (jarK is k).k), .int (.ofNat (jarK is k).s)])
theorem setN_len {α : Type} (l : List α) (a : α) : ∀ i, lenF (setN l a i) = lenF l := by
  induction l with
  | nil => exact fun _ => rfl
  | cons x l ih => exact fun i => by cases i with | zero => rfl | succ i => exact congrArg Nat.succ (ih i)
theorem jarK_ok {is : List Int} (h : is.length ≤ 63) (k : Nat) : lenF (jarK is k).L ≤ 20 ∧ (jarK is k).k = k ∧ (jarK is k).s ≤ big := by
  induction k with
  | zero => exact ⟨by rw [lenF_eq]; show ((is.take 20).map cellN).length ≤ 20; rw [List.length_map, List.length_take]; omega, rfl, le_big (show 3 + 2 * is.length ≤ 1000000 by omega)⟩
  | succ k ih =>
    refine ob_AA ih fun a b c => ?_
    show lenF ((jarK is k).next (mN k)).L ≤ 20 ∧ ((jarK is k).next (mN k)).k = k + 1 ∧ ((jarK is k).next (mN k)).s ≤ big
    unfold Jar.next
    cases (jarK is k).own with
    | true => exact ⟨Nat.le_trans (Nat.le_of_eq (setN_len _ _ _)) a, congrArg Nat.succ b, c⟩
    | false => exact ⟨a, congrArg Nat.succ b, Nat.le_trans (Nat.le_of_lt (Nat.mod_lt _ (by decide))) (Nat.le_of_ble_eq_true (by kernel_rfl))⟩
theorem dr_lt (is : List Int) (k : Nat) : dr is k ≤ mN k := by
  unfold dr Jar.val
  cases (jarK is k).own with
  | true => exact Nat.le_of_lt_succ (Nat.mod_lt _ (Nat.succ_pos _))
  | false => exact Nat.le_of_lt_succ (Nat.mod_lt _ (Nat.succ_pos _))
section
variable {S S' : Type} {C : Cst S} {F : Fr} {W : Wd S} {W2 : Wd S'} {D : Dm S'} {p : Mp} {P : Prg}
theorem Fut.make {W' : Wd S'} {ι' : Io} (T : Sat C F W) (e0 : W.ι = []) (e1 : W'.ι = []) (eh : W'.h = W.h) (z : Fut (C.sw D p P) F [] W' W2) (sub : ∀ i a d, Pl ι' i a d → ∃ j, Pl W2.ι j a d) (σ1 : S) (l : ι'.length = C.D.len σ1)
    (hσ : ∀ i mo, C.D.look σ1 i = some mo → ∃ a d, Pl ι' i a d ∧ OR C.prog C.w C.p W2.h ι' a d mo) (ha : ∀ i a d, Pl ι' i a d → ∃ mo, OR C.prog C.w C.p W2.h ι' a d mo)
    (ap : ∀ i j a d b c x, Pl ι' i a d → Pl ι' j b c → (x = a ∨ d = some x) → (x = b ∨ c = some x) → i = j) : Fut C F [] W ⟨ι', σ1, W2.h, W2.tk⟩ := by
  have so : ∀ b, Own ι' b → Own W2.ι b := fun b q1 => ob_EEEA q1 fun i a d e q => ob_E (sub i a d e) fun j e => ⟨j, a, d, e, q⟩
  have n0 : ∀ b, ¬ Own W'.ι b := fun b q1 => ob_EEEA q1 fun i a d e q => by rw [e1] at e; cases e
  obtain ⟨S0, S1, L⟩ := z
  refine ⟨T, ⟨S1.stays, fun v m => ?_, l, hσ, ha, ap, fun a q => S1.fresh a (so a q), S1.sysm⟩, ?_⟩
  · refine ob_AEEEEAAAA (S1.frs v m) fun k A o es ep b c d e f => ?_
    exact ⟨k, A, o, es, ep, b, c, d, e, fun q => f (so A q)⟩
  · rw [eh] at L
    exact ⟨(fun i a d e => (by rw [e0] at e; cases e)), fun a m _ => L.new a (so a m) (n0 a), fun b o e _ m f => L.keep b o e (n0 b) m f, fun b o e f _ m => L.frk b o e f (n0 b) m, L.dom, fun _ m => nomatch m⟩
theorem iv_rel {h : Heap} {ι ι' : Io} (L : List Nat) : ∀ {ws : List Value}, VRL idp h ι (iv L) ws → VRL idp h ι' (iv L) ws := by
  induction L with
  | nil => exact id
  | cons a L ih =>
    intro ws r
    cases ws with
    | nil => exact r
    | cons w ws => exact ⟨r.1, ih r.2⟩
theorem jl_rel {h : Heap} {ι ι' : Io} {i j k s : Nat} {ws : List Value} (e : ∀ a d, Pl ι i a d → ∃ d, Pl ι' j a d) (r : VRL idp h ι [.obj i, .int (.ofNat k), .int (.ofNat s)] ws) : VRL idp h ι' [.obj j, .int (.ofNat k), .int (.ofNat s)] ws := by
  cases ws with
  | nil => exact r
  | cons w ws =>
    obtain ⟨⟨a, d, q, z⟩, r⟩ := r
    obtain ⟨d', q⟩ := e a d q
    refine ⟨⟨a, d', q, z⟩, ?_⟩
    cases ws with
    | nil => exact r
    | cons w ws => exact ⟨r.1, by cases ws with | nil => exact r.2 | cons w ws => exact r.2⟩
end
section
variable {S : Type} {C : Cst S} {F : Fr} {P : Prg} {s : Sh} {is : List Int} {d : Nat → Nat} {W : Wd FS} {vs : List V} {xs : List Value} {l : Addr} {ls : Addr → Option (List V)}
abbrev CK (C : Cst S) (P : Prg) (s : Sh) (is : List Int) : Cst FS := CJ C P s (dr is) (jarO is)
theorem two_pl {a b : Addr} {i : Nat} {x : Addr} {d : Option Addr} (e : Pl [(a, none), (b, none)] i x d) : d = none ∧ ((i = 0 ∧ x = a) ∨ (i = 1 ∧ x = b)) := by
  rcases i with _ | _ | i
  · have z0 := (show some (a, none) = some (x, d) from e); injection z0 with z1; injection z1 with z2 z3; subst z2; subst z3; exact ⟨rfl, .inl ⟨rfl, rfl⟩⟩
  · have z0 := (show some (b, none) = some (x, d) from e); injection z0 with z1; injection z1 with z2 z3; subst z2; subst z3; exact ⟨rfl, .inr ⟨rfl, rfl⟩⟩
  · have z0 := (show none = some (x, d) from e); injection z0
theorem two_ap {a b : Addr} (ne : a ≠ b) : ∀ i j x d y c z, Pl [(a, none), (b, none)] i x d → Pl [(a, none), (b, none)] j y c → (z = x ∨ d = some z) → (z = y ∨ c = some z) → i = j := fun i j x d y c z e f q r => by
  refine ob_A (two_pl e) fun z1 e2 => ?_; subst z1
  refine ob_A (two_pl f) fun z1 f2 => ?_; subst z1
  have q : z = x := q.elim id fun h => nomatch h
  have r : z = y := r.elim id fun h => nomatch h
  rcases e2 with ⟨rfl, rfl⟩ | ⟨rfl, rfl⟩ <;> rcases f2 with ⟨rfl, rfl⟩ | ⟨rfl, rfl⟩
  · rfl
  · exact absurd (q.symm.trans r) ne
  · exact absurd (r.symm.trans q) ne
  · rfl
theorem jar_ok (GL : Ground (C.sw DX idp (PP ls))) (hls : ls l = some (ivs is)) (h63 : is.length ≤ 63) (a : AOk F 150) (rv : VVL (CK C P s is) W vs xs) : Run (CK C P s is) F W (call (.ref 694) xs) (jarR s l vs W.σ) (VV (CK C P s is)) := by
  rcases vs with _ | ⟨v, _ | _⟩
  · exact .bad
  · cases v <;> first | exact .bad | skip
    rename_i r
    show Run _ _ _ _ (gd (Nat.beq r l) _) _
    cases q : Nat.beq r l with
    | false => exact .bad
    | true =>
      have q := Nat.eq_of_beq_eq_true q
      subst q
      cases q : Nat.beq W.σ.n 0 with
      | false => exact .bad
      | true =>
        refine ⟨fun T Q E pp => ?_⟩
        have e0 : W.ι = [] := List.length_eq_zero_iff.mp (T.len.trans (Nat.eq_of_beq_eq_true q))
        have no : ∀ i a d, ¬ Pl W.ι i a d := fun i a d e => by rw [e0] at e; cases e
        have T' : Sat (C.sw DX idp (PP ls)) F ⟨[], [], W.h, W.tk⟩ := ⟨T.stays, fun v q => ob_AEEEEAAAA (T.frs v q) fun k L o es ep b c d e _u => ⟨k, L, o, es, ep, b, c, d, e, no_own⟩, rfl, fun i mo e => (nomatch (exact_ok.nil.1 i).symm.trans e), fun _ _ _ e => (nomatch e), fun _ _ _ _ _ _ _ e => (nomatch e), fun _ q => absurd q no_own, T.sysm⟩
        have R := (sem_sound GL (noOrc_ok _ 0) 14).2.2.1 F ⟨[], [], W.h, W.tk⟩ 694 [.ref r] xs (a.less (by decide)) rv
        rw [show (sem (C.sw DX idp (PP ls)).D (C.sw DX idp (PP ls)).P (noOrc _) 14).cl 694 [.ref r] [] = _ from jar_at ls 0 r is hls h63] at R
        refine R.go T' Q E fun W2 x e2 z rx => ?_
        obtain ⟨a1, d1, p1, rfl, n1, w1, g1, r1⟩ := z.S1.objs 1 (.list (iv (jar0 is).L)) (by rw [e2]; rfl)
        obtain ⟨a2, d2, p2, rfl, n2, w2, g2, r2⟩ := z.S1.objs 2 (.list [.obj 1, .int (.ofNat (jar0 is).k), .int (.ofNat (jar0 is).s)]) (by rw [e2]; rfl)
        refine ob_EEA rx fun a3 d3 p3 z1 => ?_; subst z1
        refine ob_A (p3.fn p2) fun z1 _u => ?_; subst z1
        have ne : a1 ≠ a3 := fun q => absurd (z.S1.apart 1 2 a1 none a3 none a1 p1 p2 (.inl rfl) (.inl q)) (by decide)
        have O1 : OR C.prog C.w (pS s (dr is) (jarO is)) W2.h [(a1, none), (a3, none)] a1 none (.ps 0 0) := ⟨rfl, n1, w1, g1, iv_rel _ r1⟩
        have O2 : OR C.prog C.w (pS s (dr is) (jarO is)) W2.h [(a1, none), (a3, none)] a3 none (.ps 1 0) := ⟨rfl, n2, w2, g2, jl_rel (fun a d q => ob_A (q.fn p1) fun q _u => ⟨none, q ▸ rfl⟩) r2⟩
        refine pp ⟨[(a1, none), (a3, none)], _, W2.h, W2.tk⟩ _ rfl (Fut.make (W' := ⟨[], [], W.h, W.tk⟩) (D := DX) (p := idp) (P := PP ls) T e0 rfl rfl z (fun i a d e => ?_) _ rfl (fun i mo e => ?_) (fun i a d e => ?_) (two_ap ne)) ⟨a3, none, rfl, rfl⟩
        · obtain ⟨rfl, ⟨_, rfl⟩ | ⟨_, rfl⟩⟩ := two_pl e
          · exact ⟨1, p1⟩
          · exact ⟨2, p2⟩
        · rcases Tri.look_set _ e with ⟨rfl, rfl⟩ | ⟨_, e⟩
          · exact ⟨a3, none, rfl, O2⟩
          · rcases Tri.look_set _ e with ⟨rfl, rfl⟩ | ⟨_, e⟩
            · exact ⟨a1, none, rfl, O1⟩
            · refine ob_EEA (T.objs i mo e) fun b c q _u => ?_; exact (no i b c q).elim
        · obtain ⟨rfl, ⟨_, rfl⟩ | ⟨_, rfl⟩⟩ := two_pl e
          · exact ⟨_, O1⟩
          · exact ⟨_, O2⟩
  · exact .bad
end
end
end Mine
namespace Mine
open PySem PyProof.Rows PySem.W
open PySem.Builtin
noncomputable section
theorem psK_some {c : Nat} {o : Option MO} {k : Nat} (e : psK c o = some k) : o = some (.ps c k) := by
  refine ob_EA (oo_some e) fun mo z1 e => ?_; subst z1
  cases mo <;> first | injection e | skip
  rcases eq0_some e with ⟨rfl, e2⟩ | e2
  · injection e2 with z1; subst z1; rfl
  · injection e2
theorem nth_lt {α : Type} {l : List α} {k : Nat} {a : α} (e : nth l k = some a) : k < lenF l := by
  rw [nth_eq] at e; rw [lenF_eq]; exact (List.getElem?_eq_some_iff.mp e).1
section
variable {S : Type} {C : Cst S} {F : Fr} {P : Prg} {s : Sh} {is : List Int} {W : Wd FS} {vs : List V} {xs : List Value} {c : Int} {k : Nat} {d : Nat → Nat}
theorem lit_at {jar : Nat → Nat → MO} {i : Nat} (h : i < 100) : (pS s d jar).f (.ofNat i) = .ofNat i := by
  show atmS s d ((i + 633825300114114700748351602688) / 1267650600228229401496703205376) + ((i : Int) - (((i + 633825300114114700748351602688) / 1267650600228229401496703205376 * 1267650600228229401496703205376 : Nat) : Int)) = _
  rw [show (i + 633825300114114700748351602688) / 1267650600228229401496703205376 = 0 by omega]
  exact (Int.zero_add _).trans (Int.sub_zero _)
theorem drawn_at {jar : Nat → Nat → MO} (D : Dr s d) (e : nth s.drawn k = some c) : (pS s d jar).f c = .ofNat (d k) := by
  rcases k with _ | _ | _ | _ | _ | _ | _ | _ | _ | _ | _ | k
  · injection e with z1; subst z1; rw [← D.t]; exact lit_at (Nat.lt_trans (D.b 0 3 (by decide)) (by decide))
  · injection e with z1; subst z1
    unfold eq0
    cases q : Nat.beq s.sp 10 with
    | true =>
      have := sp10 D (Nat.eq_of_beq_eq_true q)
      have e : (pS s d jar).f aSP = Int.ofNat (bt (Nat.ble 10 (d 1)) (d 1) 10) := Int.add_zero _
      rw [Nat.ble_eq.mpr this] at e; exact e
    | false =>
      obtain ⟨q1, h⟩ | q2 := D.sp
      · rw [q1]; exact lit_at (Nat.lt_trans h (by decide))
      · rw [q2.1] at q; injection q
  · injection e with z1; subst z1; exact Int.add_zero _
  · injection e with z1; subst z1; exact Int.add_zero _
  · injection e with z1; subst z1; exact Int.add_zero _
  · injection e with z1; subst z1; exact Int.add_zero _
  · injection e with z1; subst z1; exact Int.add_zero _
  · injection e with z1; subst z1; exact Int.add_zero _
  · injection e with z1; subst z1; exact Int.add_zero _
  · injection e with z1; subst z1; rw [← D.hg]; exact lit_at (Nat.lt_trans (D.b 9 2 (by decide)) (by decide))
  · injection e with z1; subst z1; rw [← D.sb]; exact lit_at (Nat.lt_trans (D.b 10 2 (by decide)) (by decide))
  · injection e
theorem pullO_some {x : FS} {q : Int × Nat} (e : pullO s vs x = some q) : ∃ m, vs = [.obj 1, .int (.ofNat (Nat.succ m))] ∧ x.t.look 0 = some (.ps 0 q.2) ∧ x.t.look 1 = some (.ps 1 q.2) ∧ nth manyN q.2 = some m ∧ nth s.drawn q.2 = some q.1 := by
  refine ob_EEA (a2_some e) fun v w z1 e => ?_; subst z1
  refine ob_EA (vO_some e) fun i z1 e => ?_; subst z1
  refine ob_EA (vI_some e) fun m z1 e => ?_; subst z1
  refine ob_A (bt_some e) fun q1 e => ?_
  refine ob_EA (oo_some e) fun k q2 e => ?_
  refine ob_EA (oo_some e) fun k' q3 e => ?_
  refine ob_A (bt_some e) fun q4 e => ?_
  refine ob_EA (oo_some e) fun m' q5 e => ?_
  refine ob_A (bt_some e) fun q6 e => ?_
  refine ob_EA (on_some e) fun c q7 z1 => ?_; subst z1
  exact ⟨m', by rw [Nat.eq_of_beq_eq_true q1, iEq_of q6], psK_some q2, Nat.eq_of_beq_eq_true q4 ▸ psK_some q3, q5, q7⟩
theorem pull_ok (G : Grd C) (D : Dr s (dr is)) (h63 : is.length ≤ 63) (a : AOk F 150) (rv : VVL (CK C P s is) W vs xs) : Run (CK C P s is) F W (call (.ref 701) xs) (pullR s vs W.σ) (VV (CK C P s is)) := by
  unfold pullR
  cases hr : pullO s vs W.σ with
  | none => exact .bad
  | some q =>
    obtain ⟨c, k⟩ := q
    refine ob_EAAAA (pullO_some hr) fun m z1 k0 k1 hm hc => ?_; subst z1
    have k11 : k < 11 := nth_lt hm
    refine ob_AA (jarK_ok h63 k) fun j1 j2 j3 => ?_
    refine ⟨fun T Q E pp => ?_⟩
    refine ob_EEAAEEA (T.objs 0 _ k0) fun a0 d0 p0 z1 n0 w0 g0 r0 => ?_; subst z1
    obtain ⟨a1, d1, p1, rfl, n1, w1, g1, r1⟩ := T.objs 1 _ k1
    have ne : a0 ≠ a1 := fun q => absurd (T.apart 0 1 a0 none a1 none a0 p0 p1 (.inl rfl) (.inl q)) (by decide)
    have sub : ∀ i a d, Pl [(a0, none), (a1, none)] i a d → Pl W.ι i a d := fun i a d e => by
      obtain ⟨rfl, ⟨rfl, rfl⟩ | ⟨rfl, rfl⟩⟩ := two_pl e <;> assumption
    have so : ∀ b, Own [(a0, none), (a1, none)] b → Own W.ι b := fun b q1 => ob_EEEA q1 fun i a d e q => ⟨i, a, d, sub i a d e, q⟩
    have O0 : OR C.prog C.w idp W.h [(a0, none), (a1, none)] a0 none (.list (iv (jarK is k).L)) := ⟨rfl, n0, w0, g0, iv_rel _ r0⟩
    have O1 : OR C.prog C.w idp W.h [(a0, none), (a1, none)] a1 none (.list [.obj 0, .int (.ofNat (jarK is k).k), .int (.ofNat (jarK is k).s)]) := ⟨rfl, n1, w1, g1, jl_rel (fun a d q => ob_A (q.fn p0) fun q _u => ⟨none, q ▸ rfl⟩) r1⟩
    have T' : Sat (C.sw DX idp (PP noL)) F ⟨[(a0, none), (a1, none)], jS (iv (jarK is k).L) (jarK is k).k (jarK is k).s, W.h, W.tk⟩ := by
      refine ⟨T.stays, fun v q => ob_AEEEEAAAA (T.frs v q) fun k L o es ep b c d e f => ⟨k, L, o, es, ep, b, c, d, e, fun q => f (so L q)⟩, rfl, fun i mo e => ?_, fun i a d e => ?_, two_ap ne, fun a q => T.fresh a (so a q), T.sysm⟩
      · rcases i with _ | _ | i
        · cases (show some (MO.list (iv (jarK is k).L)) = some mo from e); exact ⟨a0, none, rfl, O0⟩
        · cases (show some (MO.list [.obj 0, .int (.ofNat (jarK is k).k), .int (.ofNat (jarK is k).s)]) = some mo from e); exact ⟨a1, none, rfl, O1⟩
        · have z0 := (show none = some mo from e); injection z0
      · obtain ⟨rfl, ⟨_, rfl⟩ | ⟨_, rfl⟩⟩ := two_pl e
        · exact ⟨_, O0⟩
        · exact ⟨_, O1⟩
    have hk : mN k = m := by unfold mN; rw [hm]; rfl
    have m99 : m < 99 := (show ∀ m ∈ manyN, m < 99 by decide) m (mem_nth hm)
    subst hk
    have rv' : VRL idp W.h [(a0, none), (a1, none)] [.obj 1, .int (.ofNat (Nat.succ (mN k)))] xs := by
      cases xs with
      | nil => exact rv
      | cons x xs =>
        obtain ⟨⟨b, c, q, rfl⟩, rv⟩ := rv
        obtain ⟨rfl, _⟩ := q.fn p1
        refine ⟨⟨b, none, rfl, rfl⟩, ?_⟩
        cases xs with
        | nil => exact rv
        | cons x xs =>
          obtain ⟨⟨t, rfl⟩, rv⟩ := rv
          exact ⟨⟨t, congrArg (fun i => Value.int i t) (lit_at (Nat.succ_lt_succ m99))⟩, by cases xs with | nil => exact rv | cons _ _ => exact rv⟩
    have R := (sem_sound (G DX idp exact_ok fun _ _ => rfl) (noOrc_ok _ 0) 16).2.2.1 F ⟨[(a0, none), (a1, none)], jS (iv (jarK is k).L) (jarK is k).k (jarK is k).s, W.h, W.tk⟩ 701 _ xs (a.less (by decide)) rv'
    rw [show (sem (C.sw DX idp (PP noL)).D (C.sw DX idp (PP noL)).P (noOrc _) 16).cl 701 _ _ = _ from pull_at noL 0 (mN k) (jarK is k) ⟨j1, Nat.le_trans (Nat.le_of_eq j2) (Nat.le_trans (Nat.le_of_lt k11) (by decide)), j3⟩ (Nat.le_trans (Nat.le_of_lt m99) (by decide))] at R
    refine R.go T' Q E fun W2 x e2 z rx => ?_
    obtain ⟨b0, d0, q0, rfl, n2, w2, g2, r2⟩ := z.S1.objs 0 (.list (iv (jarK is (k + 1)).L)) (by rw [e2]; rfl)
    obtain ⟨b1, d1, q1, rfl, n3, w3, g3, r3⟩ := z.S1.objs 1 (.list [.obj 0, .int (.ofNat (jarK is (k + 1)).k), .int (.ofNat (jarK is (k + 1)).s)]) (by rw [e2]; rfl)
    refine ob_EA (z.L.ext 0 a0 none rfl) fun _u h0 _u => ?_
    refine ob_EA (z.L.ext 1 a1 none rfl) fun _u h1 _u => ?_
    refine ob_A (q0.fn h0) fun z1 _u => ?_; subst z1
    refine ob_A (q1.fn h1) fun z1 _u => ?_; subst z1
    have N0 : OR C.prog C.w (pS s (dr is) (jarO is)) W2.h W.ι b0 none (.ps 0 (k + 1)) := ⟨rfl, n2, w2, g2, iv_rel _ r2⟩
    have N1 : OR C.prog C.w (pS s (dr is) (jarO is)) W2.h W.ι b1 none (.ps 1 (k + 1)) := ⟨rfl, n3, w3, g3, jl_rel (fun a d q => ob_A (q.fn q0) fun q _u => ⟨none, q ▸ p0⟩) r3⟩
    refine pp ⟨W.ι, _, W2.h, W2.tk⟩ _ rfl (Fut.sub (C := CK C P s is) (D := DX) (p := idp) (P := PP noL) T rfl sub z _ rfl (fun i mo e => ?_) fun i a d e => ?_) ?_
    · rcases Tri.look_set _ e with ⟨rfl, rfl⟩ | ⟨ne1, e⟩
      · exact .inr ⟨b1, none, rfl, N1⟩
      · rcases Tri.look_set _ e with ⟨rfl, rfl⟩ | ⟨ne0, e⟩
        · exact .inr ⟨b0, none, rfl, N0⟩
        · exact .inl ⟨e, fun a d q => (two_pl q).2.elim (fun q => ne0 q.1) fun q => ne1 q.1⟩
    · obtain ⟨rfl, ⟨_, rfl⟩ | ⟨_, rfl⟩⟩ := two_pl e
      · exact ⟨_, N0⟩
      · exact ⟨_, N1⟩
    · refine ob_E rx fun t z1 => ?_; subst z1
      exact ⟨t, congrArg (fun i => Value.int i t) (drawn_at D hc).symm⟩
theorem orcS_ok {l : Addr} {ls : Addr → Option (List V)} (A : okAll = true) (hs : okS s = true) (G : Grd C) (GL : Ground (C.sw DX idp (PP ls))) (hls : ls l = some (ivs is)) (D : Dr s (dr is)) (h63 : is.length ≤ 63) : OrcOk (CK C P s is) 150 (orcS s l) := fun F W f vs xs r a rv e => by
  obtain ⟨rfl, e⟩ | e := eq0_some e
  · injection e with z1; subst z1; exact jar_ok GL hls h63 a rv
  obtain ⟨rfl, e⟩ | e := eq0_some e
  · injection e with z1; subst z1; exact pull_ok G D h63 a rv
  refine ob_EA (oo_some e) fun g e1 e => ?_
  injection e with z1; subst z1
  cases q : g vs with
  | none => exact .bad
  | some u => exact orM_ok A hs D G a rv e1 q
end
end
end Mine
namespace Mine
open PySem PyProof.Rows PySem.W
open PySem.Builtin
noncomputable section
def fdD (d : Data) : Option FuncData := match d with | .func fd => some fd | _ => none
def vsD (d : Data) : Option (Array Value) := match d with | .fields vs => some vs | _ => none
def strV (v : Value) : Option Str := match v with | .str s _ => some s | _ => none
def refV (v : Value) : Option Addr := match v with | .ref a => some a | _ => none
def fdK (K : Frag) (a : Addr) : Option FuncData := oo none (fun o => fdD o.data) (K.lookup a)
def codeB (K : Frag) (fd : FuncData) : Bool := oo false (fun c => oo false (fun o => oo false (fun vs => oo false (fun v => oo false (fun s => decide (s = fd.qualname)) (strV v)) vs[1]?) (vsD o.data)) (K.lookup c)) (refV fd.code)
abbrev FV : Type := ScopeKind × Bool × Bool × FuncBody × List (Str × Addr) × Addr × Addr × List (Str × NameKind) × Bool
def fnV (K : Frag) (fd : FuncData) : FV := (fd.scope.kind, fd.scope.isCoroutine, fd.scope.isGenerator, fd.body, fd.closure, fd.globals, fd.builtins, fd.scope.names, codeB K fd)
def nilL (l : List α) : Bool := List.rec (motive := fun _ => Bool) true (fun _ _ _ => false) l
def fnE (fi : FI) : FV := (.function, false, false, .stmts fi.body, [], mainGlobals, builtinsNs, fi.sc, true)
def lcK (o : Option NameKind) : Bool := oo false (fun k => NameKind.rec (motive := fun _ => Bool) true true false false false k) o
def kindsB (fi : FI) : Bool := bt (allF (fun x => lcK (fi.sc.lookup x)) fi.ps) (bt (decide fi.ps.Nodup) (vGL fi.dflt) false) false
theorem map_at {α β : Type} {f g : α → β} {l : List α} (h : mapF f l = mapF g l) : ∀ x ∈ l, f x = g x := by
  induction l with
  | nil => exact fun _ m => nomatch m
  | cons a l ih =>
    refine ob_A (List.cons.inj (show f a :: mapF f l = g a :: mapF g l from h)) fun h1 h2 => ?_
    exact List.forall_mem_cons.mpr ⟨h1, ih h2⟩
theorem fdK_some {K : Frag} {a : Addr} {fd : FuncData} (e : fdK K a = some fd) : ∃ o, K.lookup a = some o ∧ o.data = .func fd := by
  refine ob_EA (oo_some e) fun o e1 e => ?_
  refine ⟨o, e1, ?_⟩
  unfold fdD at e
  split at e
  · rename_i q; injection e with z1; subst z1; exact q
  · injection e
theorem refV_ok {v : Value} {a : Addr} (h : refV v = some a) : v = .ref a := by
  unfold refV at h; split at h
  · injection h with z1; subst z1; rfl
  · injection h
theorem vsD_ok {v : Data} {a : Array Value} (h : vsD v = some a) : v = .fields a := by
  unfold vsD at h; split at h
  · injection h with z1; subst z1; rfl
  · injection h
theorem strV_ok {v : Value} {a : Str} (h : strV v = some a) : ∃ t, v = .str a t := by
  unfold strV at h; split at h
  · injection h with z1; subst z1; exact ⟨_, rfl⟩
  · injection h
theorem codeB_ok {K : Frag} {base : Heap} {fd : FuncData} (X : K.In base) (h : codeB K fd = true) : base.CodeRec fd.code fd.qualname := by
  refine ob_EA (oo_true h) fun c e1 h1 => ?_
  refine ob_EA (oo_true h1) fun o e2 h2 => ?_
  refine ob_EA (oo_true h2) fun vs e3 h3 => ?_
  refine ob_EA (oo_true h3) fun v e4 h4 => ?_
  refine ob_EA (oo_true h4) fun s e5 h5 => ?_
  refine ob_E (strV_ok e5) fun t e5 => ?_
  exact ⟨c, o, vs, t, refV_ok e1, X _ _ e2, vsD_ok e3, of_decide_eq_true h5 ▸ e5 ▸ e4⟩
theorem lcK_ok {o : Option NameKind} (h : lcK o = true) : o = some .local ∨ o = some .cell := by
  refine ob_EA (oo_true h) fun k z1 h => ?_; subst z1
  cases k <;> first | exact .inl rfl | exact .inr rfl | injection h
section
variable {p : Mp} {h : Heap} {ι : Io} {K : Frag} {base : Heap} {a : Addr} {fi : FI}
theorem bp_zip (ps : List Str) : ∀ {vs : List V} {vars : List (Nat × V)} {xs : List Value}, bpF ps [] vs = some vars → VRL p h ι vs xs → xs.length = ps.length ∧ BR p h ι vars (ps.zip xs) := by
  induction ps with
  | nil =>
    intro vs vars xs e r
    cases vs with
    | nil => (injection e with z1; subst z1); rw [show xs = [] from r]; exact ⟨rfl, rfl⟩
    | cons _ _ => injection e
  | cons x ps ih =>
    intro vs vars xs e r
    cases vs with
    | nil => cases ps <;> injection e
    | cons v vs =>
      refine ob_EA (oo_some (show oo none (fun r => some ((kc x, v) :: r)) (bpF ps [] vs) = some vars from e)) fun w e1 e => ?_
      injection e with z1; subst z1
      cases xs with
      | nil => exact r.elim
      | cons y ys =>
        refine ob_A (ih e1 r.2) fun q1 q2 => ?_
        exact ⟨congrArg Nat.succ q1, rfl, r.1, q2⟩
def Bnd (p : Mp) (K : Frag) (fi : FI) (fd : FuncData) : Prop := ∀ s ι args xs vars, K.In s.heap → VRL p s.heap ι args xs → bpF fi.ps fi.dflt args = some vars → ∃ binds, BindsTo s fd ⟨xs, []⟩ binds ∧ BR p s.heap ι vars binds
theorem six {α : Type} (z : α) (xs : List α) (h : xs.length ≤ 6) : ∃ a b c d e f, takeF [a, b, c, d, e, f] xs.length = xs := by
  rcases xs with _ | ⟨a, _ | ⟨b, _ | ⟨c, _ | ⟨d, _ | ⟨e, _ | ⟨f, _ | ⟨g, xs⟩⟩⟩⟩⟩⟩⟩
  · exact ⟨z, z, z, z, z, z, rfl⟩
  · exact ⟨a, z, z, z, z, z, rfl⟩
  · exact ⟨a, b, z, z, z, z, rfl⟩
  · exact ⟨a, b, c, z, z, z, rfl⟩
  · exact ⟨a, b, c, d, z, z, rfl⟩
  · exact ⟨a, b, c, d, e, z, rfl⟩
  · exact ⟨a, b, c, d, e, f, rfl⟩
  · exact absurd h (Nat.not_le.mpr (Nat.le_add_left ..))
theorem plain_bnd (hd : fi.dflt = []) {fd : FuncData} (h6 : fi.ps.length ≤ 6) (h : ∀ a b c d e f S, peek K S (bindArgs fd ⟨takeF [a, b, c, d, e, f] (lenF fi.ps), []⟩) = some (fi.ps.zip (takeF [a, b, c, d, e, f] (lenF fi.ps)))) : Bnd p K fi fd := fun s ι args xs vars Xs r e2 => by
  rw [hd] at e2
  refine ob_A (bp_zip fi.ps e2 r) fun q1 q2 => ?_
  refine ob_EEEEEE (six .none xs (q1 ▸ h6)) fun a b c d e f q => ?_
  rw [q1, ← lenF_eq] at q
  have h := h a b c d e f
  rw [q] at h
  exact ⟨_, kp_binds Xs h, q2⟩
theorem fn_ok (X : K.In base) (hk : kindsB fi = true) (hb : ∀ fd, fdK K a = some fd → Bnd p K fi fd) (e : on (fnV K) (fdK K a) = some (fnE fi)) : FnOk p base K a fi := by
  refine ob_EA (on_some e) fun fd e1 e => ?_
  have hb := hb fd e1
  refine ob_EA (fdK_some e1) fun o l e1 => ?_
  refine ob_A (Prod.mk.inj e) fun h1 e => ?_
  refine ob_A (Prod.mk.inj e) fun h2 e => ?_
  refine ob_A (Prod.mk.inj e) fun h3 e => ?_
  refine ob_A (Prod.mk.inj e) fun h4 e => ?_
  refine ob_A (Prod.mk.inj e) fun h5 e => ?_
  refine ob_A (Prod.mk.inj e) fun h6 e => ?_
  refine ob_A (Prod.mk.inj e) fun h7 e => ?_
  refine ob_A (Prod.mk.inj e) fun h8 e => ?_
  refine ob_A (btt hk) fun k1 k2 => ?_
  refine ob_A (btt k2) fun k2 k3 => ?_
  exact ⟨⟨o, fd, X _ _ l, e1, h1, h2, h3, h4, codeB_ok X e, h5, h6, h7, h8, hb⟩, fun x m => lcK_ok (allF_all k1 x m), of_decide_eq_true k2, k3⟩
theorem fn_keep (h : (fdK K a).isSome = true) : keepIn K (.ref a) = true := by
  refine ob_E (Option.isSome_iff_exists.mp h) fun fd e => ?_
  refine ob_EA (fdK_some e) fun z1 l q => ?_; obtain ⟨cl, di, da, sl⟩ := z1
  cases q
  unfold keepIn
  dsimp only
  rw [l]
end
end
end Mine
namespace Mine
open PySem PyProof.Rows PySem.W
open PySem.Builtin
noncomputable section
structure CN where
  C : Addr
  init : Addr
  meths : List (Str × Addr)
  attrs : List Str
def clsN : List CN := [⟨137, 120, [("has", 127), ("told", 134)], ["uid", "octets", "flags", "instant", "modseq"]⟩, ⟨175, 155, [("letter", 162), ("uids", 167), ("told", 172)], ["name", "validity", "next_uid", "top", "floor", "letters", "gone"]⟩, ⟨462, 433, [("has", 440), ("box", 447), ("names", 454), ("told", 459)], ["boxes", "subscribed", "next_validity"]⟩, ⟨685, 661, [("replay", 668), ("do", 675), ("told", 682)], ["store", "data"]⟩]
def clsC (q : CN) : CI := ⟨q.init, mapF (fun m => (kc m.1, m.2)) q.meths, mapF kc q.attrs, false⟩
def exC : CI := ⟨29, [], [], true⟩
theorem cls_eq : cls = (52, exC) :: (64, exC) :: (76, exC) :: mapF (fun q => (q.C, clsC q)) clsN := by kernel_rfl
abbrev CV : Type := Bool × Bool × Option (Option Value) × Bool × List (Option (Option Value)) × List (Option (Option Value) × Option Value × Bool) × Bool × Option (Option Value) × Option Value × Bool
def clsV (K : Frag) (q : CN) : CV := (plainGet K q.C "", hasDictIn K q.C, findIn K (.ref q.C) "__setattr__", plainOver K q.C, mapF (fun s => findIn K (.ref q.C) s) q.attrs, mapF (fun m => (findIn K (.ref q.C) m.1, typeIn K (.ref m.2), keepIn K (.ref m.2))) q.meths, makesIn K q.C, findIn K (.ref q.C) "__init__", typeIn K (.ref q.init), keepIn K (.ref q.C))
def clsE (q : CN) : CV := (true, true, some (some (.builtin "object.__setattr__")), true, mapF (fun _ => some none) q.attrs, mapF (fun m => (some (some (.ref m.2)), some (.type "function"), true)) q.meths, true, some (some (.ref q.init)), some (.type "function"), true)
theorem mem_mapF {α β : Type} {f : α → β} {l : List α} {b : β} (m : b ∈ mapF f l) : ∃ a, a ∈ l ∧ f a = b := by rw [mapF_eq] at m; exact List.mem_map.mp m
section
variable {K : Frag} {base : Heap} {q : CN}
theorem cls_ok (e : clsV K q = clsE q) : ClsOk K q.C (clsC q) := by
  refine ob_A (Prod.mk.inj e) fun h1 e => ?_
  refine ob_A (Prod.mk.inj e) fun h2 e => ?_
  refine ob_A (Prod.mk.inj e) fun h3 e => ?_
  refine ob_A (Prod.mk.inj e) fun h4 e => ?_
  refine ob_A (Prod.mk.inj e) fun h5 e => ?_
  refine ob_A (Prod.mk.inj e) fun h6 e => ?_
  refine ob_A (Prod.mk.inj e) fun h7 e => ?_
  refine ob_A (Prod.mk.inj e) fun h8 e => ?_
  refine ob_A (Prod.mk.inj e) fun h9 g => ?_
  refine ⟨fun x h => ?_, fun x f h => ?_, fun _ => ⟨h7, h8, h9, g⟩⟩
  · refine ob_EA (any_ex h) fun y m h => ?_
    refine ob_EA (mem_mapF m) fun s m2 z1 => ?_; subst z1
    cases kc_inj (Nat.eq_of_beq_eq_true h)
    exact ⟨h1, h2, h3, h4, map_at h5 x m2⟩
  · refine ob_EA (mem_mapF (luk_mem _ h)) fun z1 m h2 => ?_; obtain ⟨s, a⟩ := z1
    refine ob_A (Prod.mk.inj h2) fun h3 h4 => ?_
    have h3 : s = x := kc_inj h3
    have h4 : a = f := h4
    subst h3 h4
    refine ob_A (Prod.mk.inj (map_at h6 _ m)) fun k1 k => ?_
    refine ob_A (Prod.mk.inj k) fun k2 k3 => ?_
    exact ⟨h1, k1, k2, k3⟩
theorem clsX_ok {C : Addr} : ClsOk K C exC := ⟨(fun _ h => nomatch h), (fun _ _ h => nomatch h), fun h => nomatch h⟩
theorem cls_at {a : Addr} {ci : CI} (h : luk cls a = some ci) : ((a = 52 ∨ a = 64 ∨ a = 76) ∧ ci = exC) ∨ ∃ q ∈ clsN, q.C = a ∧ clsC q = ci := by
  have m := luk_mem _ h
  rw [cls_eq] at m
  rcases List.mem_cons.mp m with e | m
  · injection e with z1 z2; subst z1; subst z2; exact .inl ⟨.inl rfl, rfl⟩
  · rcases List.mem_cons.mp m with e | m
    · injection e with z1 z2; subst z1; subst z2; exact .inl ⟨.inr (.inl rfl), rfl⟩
    · rcases List.mem_cons.mp m with e | m
      · injection e with z1 z2; subst z1; subst z2; exact .inl ⟨.inr (.inr rfl), rfl⟩
      · refine ob_EA (mem_mapF m) fun q m2 e => ?_
        injection e with z1 z2; subst z1; subst z2
        exact .inr ⟨q, m2, rfl, rfl⟩
theorem allcls_ok (e : mapF (clsV K) clsN = mapF clsE clsN) {a : Addr} {ci : CI} (h : luk cls a = some ci) : ClsOk K a ci := by
  rcases cls_at h with ⟨_, rfl⟩ | ⟨q, m, rfl, rfl⟩
  · exact clsX_ok
  · exact cls_ok (map_at e q m)
def intV (v : Value) : Option Int := match v with | .int i _ => some i | _ => none
theorem intV_ok {v : Value} {a : Int} (h : intV v = some a) : ∃ t, v = .int a t := by
  unfold intV at h; split at h
  · injection h with z1; subst z1; exact ⟨_, rfl⟩
  · injection h
def vrB (v : V) (y : Value) : Bool := vE false (fun _ => false) (fun i => oo false (fun j => iEq i j) (intV y)) (fun s => oo false (fun t => decide (t = ⟨s.toArray⟩)) (strV y)) (fun _ => false) (fun _ => false) (fun _ => false) (fun a => oo false (fun b => Nat.beq a b) (refV y)) (fun _ => false) v
def biB (x : Str) (v : V) : Bool := vR false (fun _ => false) (fun b => bt (bootBuiltins x == some b.val) (not (x == ("__name__" : Str))) false) v
def dictD (d : Data) : Option (Array DictEntry) := match d with | .dict es _ => some es | _ => none
def glB (K : Frag) : Bool := oo false (fun o => oo false (fun es => allF (fun q => oo (biB q.1 q.2) (fun y => vrB q.2 y) (nsFind es q.1)) gls) (dictD o.data)) (K.lookup mainGlobals)
theorem vrB_ok {p : Mp} (hp : ∀ i, isC i = true → p.f i = i) {v : V} {y : Value} (h : vrB v y = true) (hc : vI true isC v = true) (h' : Heap) (ι : Io) : VR p h' ι v y := by
  cases v with
  | int i =>
    refine ob_EA (oo_true h) fun j e h => ?_
    refine ob_E (intV_ok e) fun t z1 => ?_; subst z1
    exact ⟨t, by rw [hp i hc, iEq_of h]⟩
  | str s =>
    refine ob_EA (oo_true h) fun t e h => ?_
    refine ob_E (strV_ok e) fun k z1 => ?_; subst z1
    exact ⟨k, by rw [of_decide_eq_true h]⟩
  | ref a =>
    refine ob_EA (oo_true h) fun b e h => ?_
    rw [refV_ok e, Nat.eq_of_beq_eq_true h]; rfl
  | _ => injection h
def litG : Bool := allF (fun q => vI true isC q.2) gls
theorem lukS_mem {α : Type} {x : Nat} {v : α} (m : List (Str × α)) (e : lukS m x = some v) : ∃ s, (s, v) ∈ m ∧ kc s = x := by
  induction m with
  | nil => injection e
  | cons a m ih =>
    change bt (Nat.beq (kc a.1) x) (some a.2) (lukS m x) = some v at e
    cases h : Nat.beq (kc a.1) x with
    | true => rw [h] at e; injection e with z1; subst z1; exact ⟨a.1, .head _, Nat.eq_of_beq_eq_true h⟩
    | false => rw [h] at e; refine ob_EA (ih e) fun s m2 e => ?_; exact ⟨s, .tail _ m2, e⟩
theorem glob_ok {p : Mp} (hp : ∀ i, isC i = true → p.f i = i) (X : K.In base) (h : glB K = true) (hl : litG = true) {mg mb : Str → Option Value} (hg : base.Ns mainGlobals mg) (hb : base.Ns builtinsNs mb) (hbb : ∀ x : Str, x ≠ "__name__" → mb x = bootBuiltins x) :
    ∃ mg mb, base.Ns mainGlobals mg ∧ base.Ns builtinsNs mb ∧ ∀ x v, lukS gls (kc x) = some v → (∃ y, mg x = some y ∧ ∀ h ι, VR p h ι v y) ∨ (mg x = none ∧ ∃ y, mb x = some y ∧ ∀ h ι, VR p h ι v y) := by
  refine ⟨mg, mb, hg, hb, fun x v e => ?_⟩
  refine ob_EA (oo_true h) fun o e1 h => ?_
  refine ob_EA (oo_true h) fun es e2 h => ?_
  refine ob_EEEAAA hg fun o' es' ep' g1 g2 g3 g4 => ?_
  have z0 := g1.symm.trans (X _ _ e1); injection z0 with z1; subst z1
  have e2 : es' = es := by rw [g2] at e2; exact Option.some.inj e2
  subst e2
  refine ob_EA (lukS_mem _ e) fun s m e => ?_
  cases kc_inj e
  have h := allF_all h _ m
  have hl := allF_all hl _ m
  dsimp only at h hl
  rw [g4] at h
  cases q : mg x with
  | some y => rw [q] at h; exact .inl ⟨y, rfl, vrB_ok hp h hl⟩
  | none =>
    rw [q] at h
    refine .inr ⟨rfl, ?_⟩
    cases v <;> first | injection h | skip
    rename_i b
    refine ob_A (btt h) fun h1 h2 => ?_
    have ne : x ≠ "__name__" := fun q => by subst q; injection h2
    exact ⟨b.val, (hbb x ne).trans (eq_of_beq h1), fun _ _ => rfl⟩
end
end
end Mine
namespace Mine
open PySem PyProof.Rows PySem.W
open PySem.Builtin
noncomputable section
structure ExF (K : Frag) (C : Addr) : Prop where
  obj : ∃ nm q N bs bm sn sub ab col dd k0 k1 k2 k3 k5, K.lookup C = some (excClassObj nm q C N bs bm true sn sub ab col dd k0 k1 k2 k3 k5 "Exception.__new__") ∧ (∀ X b, excTail.contains (.type X) = b → bm.contains (.type X) = b) ∧ ∀ self, refuseLoop self "__setattr__" (.ref C :: bm) = pure ()
  init : findIn K (.ref C) "__init__" = some (some (.ref 29))
  keepf : keepIn K (.ref C) = true
  seta : findIn K (.ref C) "__setattr__" = some (some (.builtin "object.__setattr__"))
  whatN : findIn K (.ref C) "what" = some none
  atN : findIn K (.ref C) "at" = some none
def iFD (K : Frag) : FuncData := oo default (fun fd => fd) (fdK K 29)
structure HeadF (K : Frag) : Prop where
  cls : mapF (clsV K) clsN = mapF clsE clsN
  e1 : ExF K 52
  e2 : ExF K 64
  e3 : ExF K 76
  glob : glB K = true
  fns : mapF (fun q => on (fnV K) (fdK K q.1)) fns = mapF (fun q => some (fnE q.2)) fns
  pk : ∀ a b c d e f S, mapF (fun q : Addr × FI => bt (nilL q.2.dflt) (peek K S (bindArgs (oo default (fun fd => fd) (fdK K q.1)) ⟨takeF [a, b, c, d, e, f] (lenF q.2.ps), []⟩)) none) Mine.fns = mapF (fun q : Addr × FI => bt (nilL q.2.dflt) (some (q.2.ps.zip (takeF [a, b, c, d, e, f] (lenF q.2.ps)))) none) Mine.fns
  dfl : ∃ t, ∀ x y S, peek K S (bindArgs (oo default (fun fd => fd) (fdK K 661)) ⟨[x, y], []⟩) = some [(("self" : Str), x), (("data" : Str), y)] ∧ peek K S (bindArgs (oo default (fun fd => fd) (fdK K 661)) ⟨[x], []⟩) = some [(("self" : Str), x), (("data" : Str), .bytes #[] t)]
theorem kinds_ok : allF (fun q : Addr × FI => kindsB q.2) fns = true := by kernel_rfl
theorem lit_ok : litG = true := by kernel_rfl
theorem six_ok : allF (fun q : Addr × FI => Nat.ble (lenF q.2.ps) 6) fns = true := by kernel_rfl
theorem one_dfl : allF (fun q : Addr × FI => bt (nilL q.2.dflt) true (Nat.beq q.1 661)) fns = true := by kernel_rfl
theorem dfl_at : on (fun fi => (fi.ps, fi.dflt)) (luk fns 661) = some ([("self" : Str), ("data" : Str)], [V.byt []]) := by kernel_rfl
section
variable {K : Frag} {base : Heap} {p : Mp}
theorem dfl_bnd {fi : FI} {fd : FuncData} {t : Tok} (hp : fi.ps = [("self" : Str), ("data" : Str)]) (hd : fi.dflt = [.byt []]) (h : ∀ x y S, peek K S (bindArgs fd ⟨[x, y], []⟩) = some [(("self" : Str), x), (("data" : Str), y)] ∧ peek K S (bindArgs fd ⟨[x], []⟩) = some [(("self" : Str), x), (("data" : Str), .bytes #[] t)]) : Bnd p K fi fd := fun s ι args xs vars Xs r e => by
  rw [hp, hd] at e
  rcases args with _ | ⟨u, _ | ⟨v, _ | _⟩⟩
  · injection e
  · injection e with z1; subst z1
    rcases xs with _ | ⟨x, _ | _⟩
    · exact r.elim
    · exact ⟨_, kp_binds Xs fun S => (h x x S).2, rfl, r.1, rfl, ⟨⟨t, rfl⟩, fun _ m => nomatch m⟩, rfl⟩
    · have z0 := (show _ :: _ = [] from r.2); injection z0
  · injection e with z1; subst z1
    rcases xs with _ | ⟨x, _ | ⟨y, _ | _⟩⟩
    · exact r.elim
    · exact r.2.elim
    · exact ⟨_, kp_binds Xs fun S => (h x y S).1, rfl, r.1, rfl, r.2.1, rfl⟩
    · have z0 := (show _ :: _ = [] from r.2.2); injection z0
  · injection e
theorem fns_ok (H : HeadF K) (X : K.In base) {a : Addr} {fi : FI} (e : luk fns a = some fi) : FnOk p base K a fi := by
  have m := luk_mem _ e
  have hk := allF_all kinds_ok _ m
  have hd := allF_all one_dfl _ m
  refine fn_ok X hk (fun fd e1 => ?_) (map_at H.fns _ m)
  cases q : nilL fi.dflt with
  | true =>
    refine plain_bnd (by cases h : fi.dflt with | nil => rfl | cons _ _ => rw [h] at q; injection q) (lenF_eq fi.ps ▸ Nat.ble_eq.mp (allF_all six_ok _ m)) fun a' b c d e f S => ?_
    have h := map_at (H.pk a' b c d e f S) _ m
    rw [show nilL (a, fi).2.dflt = true from q, e1] at h
    exact h
  | false =>
    rw [show nilL (a, fi).2.dflt = false from q] at hd
    have ea : a = 661 := Nat.eq_of_beq_eq_true hd
    subst ea
    have h := dfl_at
    rw [e] at h
    refine ob_A (Prod.mk.inj (Option.some.inj h)) fun h1 h2 => ?_
    refine ob_E H.dfl fun t h => ?_
    rw [e1] at h
    exact dfl_bnd h1 h2 h
end
end
end Mine
namespace Mine
open PySem PyProof.Rows PySem.W
open PySem.Builtin
noncomputable section
def iF : FI := fiOf (inn 1 0) [] false
abbrev IV : Type := ScopeKind × Bool × Bool × FuncBody × Addr × Addr × List (Str × NameKind) × Bool
def iniV (K : Frag) (fd : FuncData) : IV := (fd.scope.kind, fd.scope.isCoroutine, fd.scope.isGenerator, fd.body, fd.globals, fd.builtins, fd.scope.names, codeB K fd)
def iniE : IV := (.function, false, false, .stmts iF.body, mainGlobals, builtinsNs, iF.sc, true)
def exN (K : Frag) : Bool := oo false (fun o => oo false (fun es => oo true (fun _ => false) (nsFind es sExc)) (dictD o.data)) (K.lookup mainGlobals)
structure InF (K : Frag) : Prop where
  i : on (iniV K) (fdK K 29) = some iniE
  b : ∃ t, ∀ a b c S, peek K S (bindArgs (iFD K) ⟨[a, b], []⟩) = some [(sSelf, a), (sWhat, b), (sAt, .int (-1) t)] ∧ peek K S (bindArgs (iFD K) ⟨[a, b, c], []⟩) = some [(sSelf, a), (sWhat, b), (sAt, c)]
  n : exN K = true
  it : typeIn K (.ref 29) = some (.type "function")
theorem ini_body : ∃ p0 p1 p2 p3 p4 p5 p6 p7 p8 p9 q0 q1 q2 q3, p1.endLine = p4.line ∧ iF.body = [.Expr (.Call (.Attribute (.Name sExc p0) "__init__" p1) [.Name sSelf p2, .Name sWhat p3] [] p4) p5, .Assign [.Attribute (.Name sSelf p6) sWhat p7] (.Name sWhat p8) p9, .Assign [.Attribute (.Name sSelf q0) sAt q1] (.Name sAt q2) q3] :=
  ⟨_, _, _, _, _, _, _, _, _, _, _, _, _, _, by rotate_left; rfl, rfl⟩
theorem ini_cell : allF (fun x : Str × NameKind => NameKind.rec (motive := fun _ => Bool) true false true true true x.2) iF.sc = true := by kernel_rfl
theorem ini_look : (iF.sc.lookup sSelf, iF.sc.lookup sWhat, iF.sc.lookup sAt, iF.sc.lookup sExc) = (some .local, some .local, some .local, some .globalImplicit) := by kernel_rfl
section
variable {K : Frag} {base : Heap} {S : Type} {C : Cst S}
theorem init_ok (X : K.In base) (I : InF K) {mg mb : Str → Option Value} (hg : base.Ns mainGlobals mg) (hb : base.Ns builtinsNs mb) (hbb : ∀ x : Str, x ≠ "__name__" → mb x = bootBuiltins x) : InitOk base K 29 := by
  refine ob_EA (on_some I.i) fun fd e1 e => ?_
  refine ob_E I.b fun t b => ?_
  have ef : iFD K = fd := by unfold iFD; rw [e1]; rfl
  rw [ef] at b
  refine ob_EA (fdK_some e1) fun o l e1 => ?_
  refine ob_A (Prod.mk.inj e) fun h1 e => ?_
  refine ob_A (Prod.mk.inj e) fun h2 e => ?_
  refine ob_A (Prod.mk.inj e) fun h3 e => ?_
  refine ob_A (Prod.mk.inj e) fun h4 e => ?_
  refine ob_A (Prod.mk.inj e) fun h5 e => ?_
  refine ob_A (Prod.mk.inj e) fun h6 e => ?_
  refine ob_A (Prod.mk.inj e) fun h7 h8 => ?_
  refine ob_A (Prod.mk.inj ini_look) fun l1 e => ?_
  refine ob_A (Prod.mk.inj e) fun l2 e => ?_
  refine ob_A (Prod.mk.inj e) fun l3 l4 => ?_
  refine ⟨⟨o, fd, iF.body, X _ _ l, e1, h1, h2, h3, h4, codeB_ok X h8, h5, h6, fun x m q => ?_, by rw [h7]; exact l1, by rw [h7]; exact l2, by rw [h7]; exact l3, by rw [h7]; exact l4, ini_body, fun s a b' Xs => ⟨t, kp_binds Xs fun S => (b a b' a S).1⟩, fun s a b' c Xs => kp_binds Xs fun S => (b a b' c S).2⟩, mg, mb, hg, hb, ?_, ?_⟩
  · rw [h7] at m
    have := allF_all ini_cell x m
    rw [q] at this; injection this
  · refine ob_EA (oo_true I.n) fun o e1 h => ?_
    refine ob_EA (oo_true h) fun es e2 h => ?_
    refine ob_EEEAAA hg fun o' es' ep' g1 g2 g3 g4 => ?_
    have z0 := g1.symm.trans (X _ _ e1); injection z0 with z1; subst z1
    rw [g2] at e2
    injection e2 with z1; subst z1
    rw [g4] at h
    cases q : mg sExc with
    | none => rfl
    | some y => rw [q] at h; injection h
  · rw [hbb _ (by decide +kernel)]; kernel_rfl
end
end
end Mine
namespace Mine
open _root_.PySem _root_.PySem.W PyProof.Rows
open _root_.PySem.Builtin
noncomputable section
def kBs : List Addr := [mainGlobals + 1, 23, 29, 30, 39, 40, 52, 53, 64, 65, 76, 77, 137, 138, 175, 176, 462, 463, 685, 686, 655, 128, 163, 441]
def kAs : List Addr := List.rec (motive := fun _ => List Addr) (mapF (fun a => a - 1) kBs) (fun q _ ih => q.1 :: (q.1 - 1) :: ih) fns
def kOf (h : Heap) : Frag := List.rec (motive := fun _ => Frag) [] (fun a _ ih => oo ih (fun o => (a, o) :: ih) (h.get? a)) kAs
theorem kOf_in (h : Heap) : (kOf h).In h := by
  unfold kOf
  induction kAs with
  | nil => intro a o e; injection e
  | cons b l ih =>
    intro a o e
    dsimp only at e
    cases g : h.get? b with
    | none => rw [g] at e; exact ih _ _ e
    | some x =>
      rw [g] at e
      change List.lookup a ((b, x) :: _) = _ at e
      rw [List.lookup_cons] at e
      split at e
      · rename_i q; injection e with z1; subst z1; rw [eq_of_beq q]; exact g
      · exact ih _ _ e
def kG (s : SharedT) (a : Addr) : Option Obj := bt (Nat.blt a s.n) (alive (oo default (fun o => o) (s.tree.get a))) none
def kT (s : SharedT) : Frag := List.rec (motive := fun _ => Frag) [] (fun a _ ih => oo ih (fun o => (a, o) :: ih) (kG s a)) kAs
theorem alive_eq (o : Option Obj) : (match o with | some ⟨_, _, .freed, _⟩ => none | o => o) = oo none alive o := by
  cases o with
  | none => rfl
  | some o => obtain ⟨c, d, dt, sl⟩ := o; cases dt <;> rfl
theorem kG_eq (s : SharedT) (a : Addr) : s.abs.heap.get? a = kG s a := by
  unfold Heap.get? kG
  rw [show s.abs.heap.objs[a]? = _ from absHeap_at s.tree s.n s.life a]
  refine (alive_eq _).trans ?_
  cases q : Nat.blt a s.n with
  | true =>
    rw [if_pos (show a < s.n from Nat.le_of_ble_eq_true q)]
    cases s.tree.get a <;> rfl
  | false => rw [if_neg fun h => by rw [show Nat.blt a s.n = true from Nat.ble_eq_true_of_le h] at q; cases q]; rfl
theorem kT_eq (s : SharedT) : kOf s.abs.heap = kT s := by
  unfold kOf kT
  induction kAs with
  | nil => rfl
  | cons a l ih =>
    dsimp only
    rw [ih, kG_eq]
def cdD (d : Data) : Option ClassData := match d with | .cls cd => some cd | _ => none
theorem cdD_ok {d : Data} {cd : ClassData} (h : cdD d = some cd) : d = .cls cd := by
  unfold cdD at h; split at h
  · injection h with z1; subst z1; rfl
  · injection h
abbrev XV : Type := Option (Value × Nat × Option (Option Value) × Option (Option Value × Bool × Bool)) × (String → Bool) × (Value → Sem Unit) × Option (Option Value) × Bool × Option (Option Value) × Option (Option Value) × Option (Option Value)
def exM (K : Frag) (C : Addr) : List Value := oo [] (fun o => oo [] (fun cd => cd.mro.tail) (cdD o.data)) (K.lookup C)
def exV (K : Frag) (C : Addr) : XV := (on (fun o => (o.cls, o.slots.toList.length, o.slots.toList[4]?, on (fun cd => (cd.mro.head?, cd.hasDict, cd.hasDel)) (cdD o.data))) (K.lookup C), (fun X => (exM K C).contains (.type X)), (fun self => refuseLoop self "__setattr__" (.ref C :: exM K C)),
  findIn K (.ref C) "__init__", keepIn K (.ref C), findIn K (.ref C) "__setattr__", findIn K (.ref C) "what", findIn K (.ref C) "at")
def exE (C : Addr) : XV := (some (.type "type", 6, some (some (.builtin "Exception.__new__")), some (some (.ref C), true, false)), (fun X => excTail.contains (.type X)), (fun _ => pure ()), some (some (.ref 29)), true, some (some (.builtin "object.__setattr__")), some none, some none)
theorem len_succ {α : Type} {l : List α} {n : Nat} (h : l.length = n + 1) : ∃ a m, l = a :: m ∧ m.length = n := by
  cases l with
  | nil => cases h
  | cons a m => exact ⟨a, m, rfl, Nat.succ.inj h⟩
theorem six_len {α : Type} {l : List α} {v : α} (h : l.length = 6) (e : l[4]? = some v) : ∃ a b c d f, l = [a, b, c, d, v, f] := by
  refine ob_EEA (len_succ h) fun a l z1 h0 => ?_; subst z1
  refine ob_EEA (len_succ h0) fun b l z1 h1 => ?_; subst z1
  refine ob_EEA (len_succ h1) fun c l z1 h2 => ?_; subst z1
  refine ob_EEA (len_succ h2) fun d l z1 h3 => ?_; subst z1
  refine ob_EEA (len_succ h3) fun x l z1 h4 => ?_; subst z1
  refine ob_EEA (len_succ h4) fun f l z1 h5 => ?_; subst z1
  cases l with
  | nil => (injection e with z1; subst z1); exact ⟨a, b, c, d, f, rfl⟩
  | cons _ _ => cases h5
theorem cls_form (cd : ClassData) {v : Value} (h : (cd.mro.head?, cd.hasDict, cd.hasDel) = (some v, true, false)) : cd = ⟨cd.name, cd.bases, v :: cd.mro.tail, cd.ns, cd.qualname, true, cd.slotNames, cd.subclasses, cd.abstract, cd.collection, false⟩ := by
  obtain ⟨nm, bs, mro, N, q, hd, sn, sub, ab, col, hdel⟩ := cd
  cases mro <;> cases h
  rfl
theorem obj_form (o : Obj) {C : Addr} {v : Value} (h : (o.cls, o.slots.toList.length, o.slots.toList[4]?, on (fun cd => (cd.mro.head?, cd.hasDict, cd.hasDel)) (cdD o.data)) = (.type "type", 6, some (some v), some (some (.ref C), true, false))) :
    ∃ cd a b c d f, cdD o.data = some cd ∧ o = ⟨.type "type", o.dict, .cls ⟨cd.name, cd.bases, .ref C :: cd.mro.tail, cd.ns, cd.qualname, true, cd.slotNames, cd.subclasses, cd.abstract, cd.collection, false⟩, #[a, b, c, d, some v, f]⟩ := by
  obtain ⟨cl, di, da, ⟨sl⟩⟩ := o
  refine ob_EEEEE (six_len (congrArg (·.2.1) h) (congrArg (·.2.2.1) h)) fun a b c d f z1 => ?_; subst z1
  refine ob_EA (on_some (congrArg (·.2.2.2) h)) fun cd e k => ?_
  cases show cl = _ from congrArg (·.1) h
  cases cdD_ok e
  exact ⟨cd, a, b, c, d, f, e, congrArg (fun z => Obj.mk _ _ (.cls z) _) (cls_form cd k)⟩
theorem ex_of {K : Frag} {C : Addr} (e : exV K C = exE C) : ExF K C := by
  refine ⟨?_, congrArg (·.2.2.2.1) e, congrArg (·.2.2.2.2.1) e, congrArg (·.2.2.2.2.2.1) e, congrArg (·.2.2.2.2.2.2.1) e, congrArg (·.2.2.2.2.2.2.2) e⟩
  refine ob_EA (on_some (congrArg (·.1) e)) fun o l h1 => ?_
  refine ob_EEEEEEA (obj_form o h1) fun cd a0 a1 a2 a3 a5 k h => ?_
  have m : exM K C = cd.mro.tail := by
    unfold exM
    rw [l]
    exact (congrArg (oo [] fun cd => cd.mro.tail) k)
  exact ⟨_, _, _, _, _, _, _, _, _, _, _, _, _, _, _, l.trans (congrArg some h), fun X b q => (congrArg (fun z => z.contains (.type X)) m).symm.trans ((congrFun (congrArg (·.2.1) e) X).trans q), fun self => (congrArg (fun z => refuseLoop self "__setattr__" (.ref C :: z)) m).symm.trans (congrFun (congrArg (·.2.2.1) e) self)⟩
abbrev B2 : Type := Option (List (Str × Value))
abbrev HV : Type := (List CV × XV × XV × XV × Bool × List (Option FV)) × (Value → Value → Value → Value → Value → Value → Setting → List B2) × (Value → Value → Setting → B2 × B2) × (Option IV × (Value → Value → Value → Setting → B2 × B2) × Bool × Option Value) × Option (Option Value)
def pk6 (g : Addr → FI → List Value → B2) (a b c d e f : Value) : List B2 := mapF (fun q : Addr × FI => bt (nilL q.2.dflt) (g q.1 q.2 (takeF [a, b, c, d, e, f] (lenF q.2.ps))) none) fns
def dfd (K : Frag) (a : Addr) : FuncData := oo default (fun fd => fd) (fdK K a)
def glG (nf : Array DictEntry → Str → Option Value) (K : Frag) : Bool := oo false (fun o => oo false (fun es => allF (fun q => oo (biB q.1 q.2) (fun y => vrB q.2 y) (nf es q.1)) gls) (dictD o.data)) (K.lookup mainGlobals)
def hdG (nf : Array DictEntry → Str → Option Value) (ba : FuncData → Args → Sem (List (Str × Value))) (K : Frag) : HV := ((mapF (clsV K) clsN, exV K 52, exV K 64, exV K 76, glG nf K, mapF (fun q => on (fnV K) (fdK K q.1)) fns),
  (fun a b c d e f S => pk6 (fun x fi l => peek K S (ba (dfd K x) ⟨l, []⟩)) a b c d e f),
  (fun x y S => (peek K S (ba (dfd K 661) ⟨[x, y], []⟩), peek K S (ba (dfd K 661) ⟨[x], []⟩))),
  (on (iniV K) (fdK K 29), (fun a b c S => (peek K S (ba (iFD K) ⟨[a, b], []⟩), peek K S (ba (iFD K) ⟨[a, b, c], []⟩))), exN K, typeIn K (.ref 29)),
  on (fun es => nf es (Str.ofString "law")) (oo none (fun o => dictD o.data) (K.lookup mainGlobals)))
abbrev hdV : Frag → HV := hdG nsFind bindArgs
def hdE : HV := ((mapF clsE clsN, exE 52, exE 64, exE 76, true, mapF (fun q => some (fnE q.2)) fns),
  (fun a b c d e f S => pk6 (fun _ fi l => some (fi.ps.zip l)) a b c d e f),
  (fun x y S => (some [(("self" : Str), x), (("data" : Str), y)], some [(("self" : Str), x), (("data" : Str), .bytes #[] 1087)])),
  (some iniE, (fun a b c S => (some [(sSelf, a), (sWhat, b), (sAt, .int (-1) 202)], some [(sSelf, a), (sWhat, b), (sAt, c)])), true, some (.type "function")),
  some (some (.ref 722)))
structure HdOk (K : Frag) : Prop where
  h : HeadF K
  i : InF K
  l : ∀ es, (oo none (fun o => dictD o.data) (K.lookup mainGlobals)) = some es → nsFind es (Str.ofString "law") = some (.ref 722)
  s : (oo none (fun o => dictD o.data) (K.lookup mainGlobals)).isSome = true
theorem hd_of {K : Frag} (e : hdV K = hdE) : HdOk K := by
  refine ob_A (Prod.mk.inj e) fun h1 e => ?_
  refine ob_A (Prod.mk.inj e) fun h2 e => ?_
  refine ob_A (Prod.mk.inj e) fun h3 e => ?_
  refine ob_A (Prod.mk.inj e) fun h4 h5 => ?_
  refine ob_A (Prod.mk.inj h1) fun k1 h1 => ?_
  refine ob_A (Prod.mk.inj h1) fun k2 h1 => ?_
  refine ob_A (Prod.mk.inj h1) fun k3 h1 => ?_
  refine ob_A (Prod.mk.inj h1) fun k4 h1 => ?_
  refine ob_A (Prod.mk.inj h1) fun k5 k6 => ?_
  refine ob_A (Prod.mk.inj h4) fun j1 h4 => ?_
  refine ob_A (Prod.mk.inj h4) fun j2 h4 => ?_
  refine ob_A (Prod.mk.inj h4) fun j3 j4 => ?_
  refine ob_EA (on_some h5) fun es e1 e2 => ?_
  exact ⟨⟨k1, ex_of k2, ex_of k3, ex_of k4, k5, k6, fun a b c d e f S => congrFun (congrFun (congrFun (congrFun (congrFun (congrFun (congrFun h2 a) b) c) d) e) f) S, ⟨1087, fun x y S => Prod.mk.inj (congrFun (congrFun (congrFun h3 x) y) S)⟩⟩,
    ⟨j1, ⟨202, fun a b c S => Prod.mk.inj (congrFun (congrFun (congrFun (congrFun j2 a) b) c) S)⟩, j3, j4⟩, fun es' q => by rw [e1] at q; injection q with z1; subst z1; exact e2, by rw [e1]; rfl⟩
end
end Mine
namespace Mine
open _root_.PySem _root_.PySem.W PyProof.Rows
noncomputable section
abbrev thP : Program := _root_.PySem.Challenge.rw_pq0953_01.row.prog
def okQ : Thread → Bool := Fast.tw6613529449190102663 11 ann0
def stQ (w : World) : SharedT → Thread → Option (SharedT × Thread) := Fast.tw10156331382660048174 (Fast.tw11892475500146522536 Fast.tw14364793385576792824) thP w
theorem okQ_eq : stepOk 11 ann0 = okQ := congrFun (congrFun Fast.te6613529449190102663 _) _
theorem stQ_eq (w : World) : stepT (denote treeTable) thP w = stQ w := by
  unfold stQ
  rw [← Fast.te10156331382660048174, ← Fast.te11892475500146522536, ← Fast.te14364793385576792824]
def thQ : Program := view thP [109]
def thL : List _root_.PySem.Str := thP.boundNames
def seenQ := Fast.tw4187177175401517315 thQ thL (importedModules thP.main.body) (fun _ => true) true
theorem seenQ_eq : openSeen thQ thL (importedModules thP.main.body) (fun _ => true) true = seenQ := by
  unfold seenQ
  rw [← Fast.te4187177175401517315]
def hdQ : Frag → HV := hdG Fast.tw16335722595253787840 Fast.tw9782568553167038054
theorem hdQ_eq : hdV = hdQ := by
  unfold hdQ
  rw [← Fast.te16335722595253787840, ← Fast.te9782568553167038054]
abbrev endT (w : World) (os : OsState) : Option SharedT := topT okQ (stQ w) 5000 (bootT w.params os) (topStub thP)
theorem run_seen (w : World) (os : OsState) : on (fun s => (preB thP w.params s.abs, seenQ s.abs)) (endT w os) = some (true, openGood thQ thL) := by kernel_rfl
theorem run_hd (w : World) (os : OsState) : on (fun s => hdQ (kT s)) (endT w os) = some hdE := by kernel_rfl
theorem left_th : LeftO thP thQ thL (fun _ => true) (fun s => hdV (kOf s.heap)) (fun _ => hdE) 5000 := left_T (by kernel_rfl) rfl (fun _ => by kernel_rfl) fun w os => by
  rw [okQ_eq, stQ_eq, seenQ_eq, hdQ_eq]
  obtain ⟨s, e, h1⟩ := on_some (run_seen w os)
  obtain ⟨s', e', h2⟩ := on_some (run_hd w os)
  cases e.symm.trans e'
  obtain ⟨h1, h3⟩ := Prod.mk.inj h1
  refine (congrArg (on _) e).trans (congrArg some ?_)
  rw [← kT_eq] at h2
  exact congr (congrArg Prod.mk h1) (congr (congrArg Prod.mk h3) h2)
end
end Mine
namespace Mine
open PySem PyProof.Rows PySem.W
open PySem.Builtin
noncomputable section
section
variable {S : Type} {C : Cst S} (H : HeadF C.K) (I : InF C.K) (X : C.K.In C.base) (lim : C.base.NoLimit) {mg mb : Str → Option Value} (hg : C.base.Ns mainGlobals mg) (hb : C.base.Ns builtinsNs mb) (hbb : ∀ x : Str, x ≠ "__name__" → mb x = bootBuiltins x)
include H I X lim hg hb hbb
theorem ground_of {S' : Type} (D : Dm S') (p : Mp) (ok : DmOk D p) (hp : ∀ i, isC i = true → p.f i = i) (ls : Addr → Option (List V)) (hl : ∀ a l, ls a = some l → ∃ ws : List Value, C.base.IsList a ws.toArray ∧ ∀ h ι, VRL p h ι l ws) : Ground (C.sw D p (PP ls)) := by
  have ex : ∀ {a ci}, luk cls a = some ci → ci.exc = true → ci = exC ∧ ExF C.K a := fun {a ci} e h => by
    rcases cls_at e with ⟨q, rfl⟩ | ⟨q, m, rfl, rfl⟩
    · refine ⟨rfl, ?_⟩
      rcases q with rfl | rfl | rfl
      · exact H.e1
      · exact H.e2
      · exact H.e3
    · injection h
  refine ⟨⟨ok, X, glob_ok hp X H.glob lit_ok hg hb hbb, lim, fun a ci e => allcls_ok H.cls e, fun a fi e => fn_keep ?_, hl⟩, fun a fi e => fns_ok H X e, ⟨fun a ci e h => ?_, fun a ci e h => ?_⟩⟩
  · refine ob_EA (on_some (map_at H.fns _ (luk_mem _ e))) fun fd e1 _u => ?_
    exact Option.isSome_iff_exists.mpr ⟨fd, e1⟩
  · refine ob_A (ex e h) fun z1 E => ?_; subst z1
    refine ob_EEEEEEEEEEEEEEEAA E.obj fun a1 a2 a3 a4 a5 a6 a7 a8 a9 b1 b2 b3 b4 b5 b6 p1 p2 p3 => ?_
    exact ⟨⟨a1, a2, a3, a4, a5, a6, a7, a8, a9, b1, b2, b3, b4, b5, b6, X _ _ p1, p2, p3⟩, E.init, I.it, E.keepf, E.seta, E.whatN, E.atN⟩
  · refine ob_A (ex e h) fun z1 E => ?_; subst z1
    exact init_ok X I hg hb hbb
theorem grd_of : Grd C := fun D p ok hp => ground_of H I X lim hg hb hbb D p ok hp noL fun a l e => nomatch e
end
end
end Mine
namespace Mine
open PySem PyProof.Rows
noncomputable section
def wO : FI := fiOf (top 109) [] false
def x2 (s : Sh) : FS := (DS s).set ((DS s).set ⟨2, (DS s).nil.t⟩ 0 (.ps 0 0)) 1 (.ps 1 0)
def wE0 (l : Addr) : MEnv := ⟨wO.sc, [(kc "script", .ref l)]⟩
def wE (l : Addr) : MEnv := ⟨wO.sc, [(kc "script", .ref l), (kc "jar", .obj 1)]⟩
def restS (s : Sh) (l : Addr) : RF FS V := outF ((cB (DS s) (PP noL) (dropF 1 wO.body)).run (sem (DS s) (PP noL) (orcS s l) 96) ⟨wE l, x2 s⟩)
section
variable {S : Type} (D : Dm S) (P : Prg) (orc : Addr → List V → S → Option (RF S V)) (n : Nat)
theorem cl_succ (a : Addr) (vs : List V) (s : S) (h : orc a vs s = none) : (sem D P orc (n + 1)).cl a vs s = fnF D P (sem D P orc n) a vs s := by
  show oo (fnF D P (sem D P orc n) a vs s) (fun r => r) (orc a vs s) = _
  rw [h]; rfl
theorem ex_succ (z : ES S) (b : List Stmt) : (sem D P orc (n + 1)).ex z b = (cB D P b).run (sem D P orc n) z := rfl
end
theorem w_fn (s : Sh) (ih : SemF FS) (l : Addr) (σ : FS) : fnF (DS s) (PP noL) ih 722 [.ref l] σ = outF (ih.ex ⟨wE0 l, σ⟩ (dropF 0 wO.body)) := by kernel_rfl
theorem w_1 (s : Sh) : AsgAt (DS s) (PP noL) wO.body 0 "jar" := fun ih z => by kernel_rfl
theorem w_e (s : Sh) (l : Addr) : (sem (DS s) (PP noL) (orcS s l) 96).ev (wE0 l) (DS s).nil (ae wO.body 0).1 = gd (Nat.beq l l) (.ok (.obj 1) (x2 s)) := by kernel_rfl
theorem run_rest (s : Sh) (l : Addr) : runS s l = restS s l := by
  have e := w_e s l
  rw [Nat.beq_refl] at e
  refine (cl_succ (DS s) (PP noL) (orcS s l) 97 722 [.ref l] (DS s).nil (by kernel_rfl)).trans ((w_fn s _ l _).trans (congrArg outF ((ex_succ (DS s) (PP noL) (orcS s l) 96 _ _).trans (asg_at (w_1 s) (s := x2 s) (v := .obj 1) e (by kernel_rfl)))))
end
end Mine
namespace Mine
open PySem PyProof.Rows
noncomputable section
def mp2 {α β : Type} (l : List α) (f : α → List β) : List β := List.rec (motive := fun _ => List β) [] (fun a _ ih => app (f a) ih) l
def fos (t sp sb : Nat) : List Nat := eq0 t 0 (eq0 sb 1 (bt (Nat.ble 2 sp) [0, 2] [1]) [1]) [1]
def dds (sp : Nat) : List (Bool × Bool) := eq0 sp 10 [(true, true), (true, false), (false, true), (false, false)] [(false, false)]
def shq (t sp hg sb : Nat) : List Sh := mp2 (fos t sp sb) fun fo => mapF (fun x => ⟨t, sp, hg, sb, fo, x.1, x.2⟩) (dds sp)
def shs (t sp : Nat) : List Sh := mp2 [0, 1] fun hg => mp2 [0, 1] fun sb => shq t sp hg sb
def good (l : Addr) (s : Sh) : Bool := bt (okS s) (isT (restS s l)) false
def AllG (t sp : Nat) : Prop := ∀ l, allF (good l) (shs t sp) = true
def QG (t sp hg sb : Nat) : Prop := ∀ l, allF (good l) (shq t sp hg sb) = true
theorem allF_app {α : Type} {f : α → Bool} {a b : List α} (h : allF f a = true) (k : allF f b = true) : allF f (app a b) = true := by
  rw [allF_eq] at *
  rw [app_eq, List.all_append, h, k]; rfl
theorem all4 {t sp : Nat} (a : QG t sp 0 0) (b : QG t sp 0 1) (c : QG t sp 1 0) (d : QG t sp 1 1) : AllG t sp := fun l => allF_app (allF_app (a l) (allF_app (b l) rfl)) (allF_app (allF_app (c l) (allF_app (d l) rfl)) rfl)
theorem a0_0 : AllG 0 0 := fun l => by kernel_rfl
theorem a0_1 : AllG 0 1 := fun l => by kernel_rfl
theorem a0_2 : AllG 0 2 := fun l => by kernel_rfl
theorem a0_3 : AllG 0 3 := fun l => by kernel_rfl
theorem a0_4 : AllG 0 4 := fun l => by kernel_rfl
theorem a0_5 : AllG 0 5 := fun l => by kernel_rfl
theorem a0_6 : AllG 0 6 := fun l => by kernel_rfl
theorem a0_7 : AllG 0 7 := fun l => by kernel_rfl
theorem a0_8 : AllG 0 8 := fun l => by kernel_rfl
theorem a0_9 : AllG 0 9 := fun l => by kernel_rfl
theorem q0_a : QG 0 10 0 0 := fun l => by kernel_rfl
theorem q0_b : QG 0 10 0 1 := fun l => by kernel_rfl
theorem q0_c : QG 0 10 1 0 := fun l => by kernel_rfl
theorem q0_d : QG 0 10 1 1 := fun l => by kernel_rfl
theorem a0_10 : AllG 0 10 := all4 q0_a q0_b q0_c q0_d
theorem a1_0 : AllG 1 0 := fun l => by kernel_rfl
theorem a1_1 : AllG 1 1 := fun l => by kernel_rfl
theorem a1_2 : AllG 1 2 := fun l => by kernel_rfl
theorem a1_3 : AllG 1 3 := fun l => by kernel_rfl
theorem a1_4 : AllG 1 4 := fun l => by kernel_rfl
theorem a1_5 : AllG 1 5 := fun l => by kernel_rfl
theorem a1_6 : AllG 1 6 := fun l => by kernel_rfl
theorem a1_7 : AllG 1 7 := fun l => by kernel_rfl
theorem a1_8 : AllG 1 8 := fun l => by kernel_rfl
theorem a1_9 : AllG 1 9 := fun l => by kernel_rfl
theorem q1_a : QG 1 10 0 0 := fun l => by kernel_rfl
theorem q1_b : QG 1 10 0 1 := fun l => by kernel_rfl
theorem q1_c : QG 1 10 1 0 := fun l => by kernel_rfl
theorem q1_d : QG 1 10 1 1 := fun l => by kernel_rfl
theorem a1_10 : AllG 1 10 := all4 q1_a q1_b q1_c q1_d
theorem a2_0 : AllG 2 0 := fun l => by kernel_rfl
theorem a2_1 : AllG 2 1 := fun l => by kernel_rfl
theorem a2_2 : AllG 2 2 := fun l => by kernel_rfl
theorem a2_3 : AllG 2 3 := fun l => by kernel_rfl
theorem a2_4 : AllG 2 4 := fun l => by kernel_rfl
theorem a2_5 : AllG 2 5 := fun l => by kernel_rfl
theorem a2_6 : AllG 2 6 := fun l => by kernel_rfl
theorem a2_7 : AllG 2 7 := fun l => by kernel_rfl
theorem a2_8 : AllG 2 8 := fun l => by kernel_rfl
theorem a2_9 : AllG 2 9 := fun l => by kernel_rfl
theorem q2_a : QG 2 10 0 0 := fun l => by kernel_rfl
theorem q2_b : QG 2 10 0 1 := fun l => by kernel_rfl
theorem q2_c : QG 2 10 1 0 := fun l => by kernel_rfl
theorem q2_d : QG 2 10 1 1 := fun l => by kernel_rfl
theorem a2_10 : AllG 2 10 := all4 q2_a q2_b q2_c q2_d
theorem allG (t sp : Nat) (h : t < 3) (h2 : sp < 11) : AllG t sp := by
  have k : ∀ {P : Nat → Prop}, P 0 → P 1 → P 2 → P 3 → P 4 → P 5 → P 6 → P 7 → P 8 → P 9 → P 10 → P sp := fun a b c d e f g i j k m => by
    rcases sp with _ | _ | _ | _ | _ | _ | _ | _ | _ | _ | _ | sp
    iterate 11 assumption
    omega
  rcases t with _ | _ | _ | t
  · exact k (P := AllG 0) a0_0 a0_1 a0_2 a0_3 a0_4 a0_5 a0_6 a0_7 a0_8 a0_9 a0_10
  · exact k (P := AllG 1) a1_0 a1_1 a1_2 a1_3 a1_4 a1_5 a1_6 a1_7 a1_8 a1_9 a1_10
  · exact k (P := AllG 2) a2_0 a2_1 a2_2 a2_3 a2_4 a2_5 a2_6 a2_7 a2_8 a2_9 a2_10
  · omega
theorem okAll_ok : okAll = true := by kernel_rfl
end
end Mine
namespace Mine
open PySem PyProof.Rows PySem.W
noncomputable section
def spOf (d : Nat → Nat) : Nat := bt (Nat.ble (d 1) 9) (d 1) 10
def foOf (d : Nat → Nat) : Nat := eq0 (d 0) 0 (eq0 (d 10) 1 (bt (Nat.ble 2 (spOf d)) (eq0 (d 2) 0 0 2) 1) 1) 1
def ddOf (d : Nat → Nat) : Bool × Bool := eq0 (spOf d) 10 (Nat.beq (d 3) 0, Nat.ble (d 5) 1) (false, false)
def shOf (d : Nat → Nat) : Sh := ⟨d 0, spOf d, d 9, d 10, foOf d, (ddOf d).1, (ddOf d).2⟩
variable {d : Nat → Nat}
theorem sp_le (d : Nat → Nat) : (spOf d = d 1 ∧ d 1 < 10) ∨ (spOf d = 10 ∧ 10 ≤ d 1) := by
  unfold spOf
  cases q : Nat.ble (d 1) 9 with
  | true => exact .inl ⟨rfl, Nat.lt_succ_of_le (Nat.ble_eq.mp q)⟩
  | false => exact .inr ⟨rfl, Nat.lt_of_not_le fun h => by rw [Nat.ble_eq.mpr h] at q; injection q⟩
theorem fo_of (d : Nat → Nat) : foOf d = 1 ∨ (foOf d = 0 ∧ d 2 = 0) ∨ (foOf d = 2 ∧ d 2 ≠ 0) := by
  unfold foOf eq0
  cases Nat.beq (d 0) 0 with
  | false => exact .inl rfl
  | true => cases Nat.beq (d 10) 1 with
    | false => exact .inl rfl
    | true => cases Nat.ble 2 (spOf d) with
      | false => exact .inl rfl
      | true => cases q : Nat.beq (d 2) 0 with
        | true => exact .inr (.inl ⟨rfl, Nat.eq_of_beq_eq_true q⟩)
        | false => exact .inr (.inr ⟨rfl, fun h => by rw [h] at q; injection q⟩)
theorem shOf_dr (b : ∀ k m, (k, m) ∈ [(0, 3), (1, 14), (2, 3), (3, 4), (4, 3), (5, 5), (6, 3), (7, 3), (8, 3), (9, 2), (10, 2)] → d k < m) : Dr (shOf d) d := by
  have dd : (spOf d = 10 ∧ ddOf d = (Nat.beq (d 3) 0, Nat.ble (d 5) 1)) ∨ (spOf d ≠ 10 ∧ ddOf d = (false, false)) := by
    unfold ddOf eq0
    cases q : Nat.beq (spOf d) 10 with
    | true => exact .inl ⟨Nat.eq_of_beq_eq_true q, rfl⟩
    | false => exact .inr ⟨(fun h => by rw [h] at q; injection q), rfl⟩
  have fo := fo_of d
  refine ⟨rfl, ?_, rfl, rfl, fun h => ?_, fun h => ?_, fun h => ?_, fun h g => ?_, fun h => ?_, fun h g => ?_, b⟩
  · rcases sp_le d with ⟨h1, h2⟩ | h
    · exact .inl ⟨h1.symm, Nat.lt_of_le_of_lt (Nat.le_of_eq h1) h2⟩
    · exact .inr h
  · have h : foOf d = 0 := h
    omega
  · have h : foOf d = 2 := h
    omega
  · rcases dd with ⟨_, e⟩ | ⟨_, e⟩ <;> have h : (ddOf d).1 = true := h <;> rw [e] at h
    · exact Nat.eq_of_beq_eq_true h
    · injection h
  · rcases dd with ⟨_, e⟩ | ⟨q, _⟩
    · have h : (ddOf d).1 = false := h
      rw [e] at h
      exact Nat.pos_of_ne_zero fun z => by rw [z] at h; injection h
    · exact absurd g q
  · rcases dd with ⟨_, e⟩ | ⟨_, e⟩ <;> have h : (ddOf d).2 = true := h <;> rw [e] at h
    · exact Nat.ble_eq.mp h
    · injection h
  · rcases dd with ⟨_, e⟩ | ⟨q, _⟩
    · have h : (ddOf d).2 = false := h
      rw [e] at h
      exact Nat.lt_of_not_le fun z => by rw [Nat.ble_eq.mpr z] at h; injection h
    · exact absurd g q
theorem mem_app {α : Type} {a : α} {l m : List α} : a ∈ app l m ↔ a ∈ l ∨ a ∈ m := by rw [app_eq]; exact List.mem_append
theorem mp2_mem {α β : Type} {f : α → List β} {a : α} {b : β} (l : List α) (m : a ∈ l) (h : b ∈ f a) : b ∈ mp2 l f := by
  induction l with
  | nil => cases m
  | cons x l ih =>
    refine mem_app.mpr ?_
    rcases List.mem_cons.mp m with rfl | m
    · exact .inl h
    · exact .inr (ih m)
theorem shOf_mem (b9 : d 9 < 2) (b10 : d 10 < 2) : shOf d ∈ shs (d 0) (spOf d) := by
  have two : ∀ x : Nat, x < 2 → x ∈ [0, 1] := fun x h => by
    rcases (show x = 0 ∨ x = 1 by omega) with h | h <;> rw [h] <;> decide
  refine mp2_mem _ (two _ b9) (mp2_mem _ (two _ b10) (mp2_mem (a := foOf d) _ ?_ ?_))
  · unfold fos foOf eq0
    cases Nat.beq (d 0) 0 with
    | false => exact .head _
    | true => cases Nat.beq (d 10) 1 with
      | false => exact .head _
      | true => cases Nat.ble 2 (spOf d) with
        | false => exact .head _
        | true => cases Nat.beq (d 2) 0 with
          | true => exact .head _
          | false => exact .tail _ (.head _)
  · rw [mapF_eq]
    refine List.mem_map.mpr ⟨ddOf d, ?_, rfl⟩
    unfold dds ddOf eq0
    cases Nat.beq (spOf d) 10 with
    | false => exact .head _
    | true =>
      show (Nat.beq (d 3) 0, Nat.ble (d 5) 1) ∈ [(true, true), (true, false), (false, true), (false, false)]
      cases Nat.beq (d 3) 0 <;> cases Nat.ble (d 5) 1 <;> decide
theorem isT_of {S : Type} {r : RF FS V} (h : isT r = true) : ∃ σ, r = .ok (.bool true) σ := by
  cases r with
  | ok v σ =>
    cases v <;> cases h
    exact ⟨σ, rfl⟩
  | _ => injection h
theorem dr_b (is : List Int) : ∀ k m, (k, m) ∈ [(0, 3), (1, 14), (2, 3), (3, 4), (4, 3), (5, 5), (6, 3), (7, 3), (8, 3), (9, 2), (10, 2)] → dr is k < m := fun k m h => by
  refine Nat.lt_of_le_of_lt (dr_lt is k) ?_
  exact (show ∀ q ∈ [(0, 3), (1, 14), (2, 3), (3, 4), (4, 3), (5, 5), (6, 3), (7, 3), (8, 3), (9, 2), (10, 2)], mN q.1 < q.2 by decide) (k, m) h
theorem good_of (is : List Int) (l : Addr) : okS (shOf (dr is)) = true ∧ ∃ σ, runS (shOf (dr is)) l = .ok (.bool true) σ := by
  have b := dr_b is
  have m := shOf_mem (b 9 2 (by decide)) (b 10 2 (by decide))
  have h := allF_all (allG (dr is 0) (spOf (dr is)) (b 0 3 (by decide)) (by rcases sp_le (dr is) with ⟨h1, h2⟩ | ⟨h1, _⟩ <;> omega) l) _ m
  refine ob_A (btt h) fun h1 h2 => ?_
  exact ⟨h1, by rw [run_rest]; exact isT_of (S := FS) h2⟩
section
variable {S : Type} {C : Cst S} {F : Fr} {W : Wd FS} {is : List Int} {l : Addr} {ls : Addr → Option (List V)} {xs : List Value}
theorem law_ok (G : Grd C) (GL : Ground (C.sw DX idp (PP ls))) (hls : ls l = some (ivs is)) (h63 : is.length ≤ 63) (a : AOk F 248) (e0 : W.σ = (DS (shOf (dr is))).nil) (rv : VVL (CK C (PP noL) (shOf (dr is)) is) W [.ref l] xs) :
    ∃ σ, Run (CK C (PP noL) (shOf (dr is)) is) F W (call (.ref 722) xs) (.ok (.bool true) σ) (VV (CK C (PP noL) (shOf (dr is)) is)) := by
  obtain ⟨hs, σ, hr⟩ := good_of is l
  have D := shOf_dr (dr_b is)
  have okD := Fit.ok (fitSh (jar := jarO is) okAll_ok hs D) trivial
  have GS := G (DS (shOf (dr is))) (pS (shOf (dr is)) (dr is) (jarO is)) okD fun _ h => okD.lit h
  have R := (sem_sound (C := CK C (PP noL) (shOf (dr is)) is) GS (orcS_ok okAll_ok hs G GL hls D h63) 98).2.2.1 F W 722 [.ref l] xs a rv
  rw [e0] at R
  exact ⟨σ, hr ▸ R⟩
end
end
end Mine
namespace Mine
open _root_.PySem PyProof.Rows _root_.PySem.W
open _root_.PySem.Builtin
noncomputable section
abbrev theClaim : ClaimW := _root_.PySem.Challenge.rw_pq0953_01.row.toRowW.claim
theorem ints_of {R : WRecords} {cl : _root_.PySem.Str → Option Addr} {h : Heap} (xs : List WData) : ∀ {vs : List Value} {as : List Addr}, WShape.hasItems R xs .int = true → ReadsAllW R cl h vs xs as → ∃ is : List Int, is.length = xs.length ∧ ∀ h ι, VRL idp h ι (ivs is) vs := by
  induction xs with
  | nil => intro vs as _ r; cases r; exact ⟨[], rfl, fun _ _ => rfl⟩
  | cons x xs ih =>
    intro vs as e r
    cases r with
    | cons r1 r2 =>
      refine ob_A (Bool.and_eq_true_iff.mp (show (WShape.has R x .int && WShape.hasItems R xs .int) = true from e)) fun e1 e2 => ?_
      refine ob_EA (ih e2 r2) fun is hl hv => ?_
      cases x <;> first | (cases (show false = true from e1)) | skip
      cases r1 with
      | int i t => rename_i i0; exact ⟨i0 :: is, congrArg Nat.succ hl, fun h ι => ⟨⟨t, rfl⟩, hv h ι⟩⟩
theorem args_of {cl : _root_.PySem.Str → Option Addr} {h : Heap} {args : List WData} {vals : List Value} {as : List Addr} (hpre : theClaim.pre args = true) (r : ReadsAllW [] cl h vals args as) :
    ∃ (is : List Int) (l : Addr), vals = [.ref l] ∧ is.length ≤ 63 ∧ ∃ ws : List Value, h.IsList l ws.toArray ∧ ∀ h ι, VRL idp h ι (ivs is) ws := by
  refine ob_A (pre_splitW hpre) fun h1 h2 => ?_
  refine ob_EEAA (hasAllW_cons h1) fun d q z1 hd hq => ?_; subst z1
  have z0 := hasAllW_nil hq; subst z0
  cases d <;> first | (cases (show false = true from hd)) | skip
  rename_i xs
  have hi : WShape.hasItems [] xs .int = true := (Bool.or_false _).symm.trans (show (WShape.hasItems [] xs .int || false) = true from hd)
  cases r with
  | cons r1 r2 =>
    cases r2
    cases r1 with
    | list e1 e2 e3 e4 =>
      rename_i o vs n as
      refine ob_EA (ints_of _ hi e4) fun is hl hv => ?_
      refine ⟨is, _, rfl, ?_, vs.toList, ⟨_, e1, e2, n, by rw [e3]⟩, hv⟩
      rw [hl]
      simp [OpenLaw.row, OpenLaw.pre, WTm.holds, WTm.value, _root_.PySem.Challenge.rw_pq0953_01] at h2
      rw [show less? (.int 63) (.int (xs.length : Int)) = some (decide ((63 : Int) < xs.length)) from rfl] at h2
      by_cases q : (63 : Int) < xs.length
      · rw [decide_eq_true q] at h2; injection h2
      · omega
abbrev Cw (K : Frag) (w : World) (s1 : Shared) : Cst FS := ⟨DS ⟨0, 0, 0, 0, 0, false, false⟩, idp, PP noL, K, _root_.PySem.Challenge.rw_pq0953_01.row.prog, w, s1.heap, s1⟩
theorem tail_law {K : Frag} (H : HeadF K) (I : InF K) {q : Program} (hq : importsNone q = true) {loose : List _root_.PySem.Str} {XP : (_root_.PySem.Str → Option Value) → Heap → Prop} {w : World} {s₀ s₁ : Shared} {mg mb : _root_.PySem.Str → Option Value} (G : _root_.PySem.W.Ground q loose [] XP w s₀ mg mb s₁.heap) (X : K.In s₀.heap)
    (h7 : ∀ es, (oo none (fun o => dictD o.data) (K.lookup mainGlobals)) = some es → nsFind es (Str.ofString "law") = some (.ref 722)) (hi : (oo none (fun o => dictD o.data) (K.lookup mainGlobals)).isSome = true)
    {a : Addr} (ha : mg (Str.ofString "law") = some (.ref a)) {args : List WData} {vals : List Value} {as : List Addr} (hpre : theClaim.pre args = true) (L : Laid [] w s₀ s₁ args vals as) :
    wpC (model _root_.PySem.Challenge.rw_pq0953_01.row.prog w) callerA (call (.ref a) vals) (fun v s' => GoodWG theClaim (classAt s₀.heap) (ExcName.means s₀.heap) args s₁ (.ok (.ret v)) s')
      (fun e s' => GoodWG theClaim (classAt s₀.heap) (ExcName.means s₀.heap) args s₁ (.error e) s') s₁ := by
  have X1 : K.In s₁.heap := X.keeps L.keeps
  refine ob_EEAAEA (args_of hpre L.reads) fun is l z1 h63 ws hl hv => ?_; subst z1
  have hg : s₁.heap.Ns mainGlobals mg := G.T.g
  have h722 : a = 722 := by
    refine ob_E (Option.isSome_iff_exists.mp hi) fun es e1 => ?_
    have h7 := h7 es e1
    refine ob_EA (oo_some e1) fun o e2 e3 => ?_
    refine ob_EEEAAA hg fun o' es' ep' g1 g2 g3 g4 => ?_
    have z0 := g1.symm.trans (X1 _ _ e2); injection z0 with z1; subst z1
    rw [g2] at e3
    injection e3 with z1; subst z1
    rw [g4, ha] at h7
    exact Value.ref.inj (Option.some.inj h7)
  subst h722
  have GL := ground_of (C := Cw K w s₁) H I X1 G.T.nolimit hg G.T.b G.T.builtins DX idp exact_ok (fun _ _ => rfl) (fun a => bt (Nat.beq a l) (some (ivs is)) none) fun a l' e => by
    refine ob_A (bt_some e) fun q e => ?_
    injection e with z1; subst z1
    rw [Nat.eq_of_beq_eq_true q]
    exact ⟨ws, hl, hv⟩
  obtain ⟨σ, R⟩ := law_ok (C := Cw K w s₁) (F := ⟨callerA, []⟩) (W := ⟨[], (DS (shOf (dr is))).nil, s₁.heap, s₁.toks⟩) (l := l) (xs := [.ref l]) (grd_of (C := Cw K w s₁) H I X1 G.T.nolimit hg G.T.b G.T.builtins) GL (by rw [Nat.beq_refl]; rfl) h63 ⟨rfl, rfl, by decide, by decide⟩ rfl ⟨rfl, rfl⟩
  refine R.go ⟨fun _ _ e => e, (fun _ m => nomatch m), rfl, fun i mo e => (nomatch (Tri.look_mk 8 i).symm.trans e), (fun _ _ _ e => nomatch e), (fun _ _ _ _ _ _ _ e => nomatch e), (fun _ q => absurd q no_own), ?_⟩ _ _ fun W' x _ z r => ?_
  · refine ob_EA ((G.T.seer hq).mods) fun _u z1 _u => ?_; obtain ⟨o, _, _, ho, _⟩ := z1
    show s₁.heap.get? _ ≠ none
    rw [ho]; exact fun q => nomatch q
  · have z0 := (show x = .bool true from r); subst z0
    refine ⟨.inl ⟨.bool true, .bool true, [], rfl, fun _ => rfl, .bool true, ?_, fun _ => ⟨List.nodup_nil, fun _ m => nomatch m⟩⟩, OldK.of_keep z.S1.stays, rfl, AllBare.of_eq L.gens⟩
    simp [theClaim, RowW.claim, OpenLaw.row, WShape.has, WShape.arms, _root_.PySem.Challenge.rw_pq0953_01, WTm.holds, WTm.value]
    kernel_rfl
end
end Mine
namespace Mine
open _root_.PySem _root_.PySem.W PyProof.Rows
noncomputable section
abbrev thR : OpenRow := _root_.PySem.Challenge.rw_pq0953_01.row
def defB (q p : Program) (n : _root_.PySem.Str) := on (fun x : DefRec × List (_root_.PySem.Str × _root_.PySem.Expr) => (p.theDef n, kwWritten? x.1.params.kwonlyargs x.1.params.kw_defaults)) (defOf q n)
def defG (q : Program) (n : _root_.PySem.Str) := on (fun x : DefRec × List (_root_.PySem.Str × _root_.PySem.Expr) => (some (x.1.params, x.1.body, x.1.scope), some x.2)) (defOf q n)
theorem def_th : (defB thQ thP thR.name, (defOf thQ thR.name).isSome) = (defG thQ thR.name, true) := by kernel_rfl
theorem look_th : (chainsOk thQ && opensWell thP && (frees thR.toRowW && thR.within.isEmpty)) = true := by kernel_rfl
theorem wr_th : (!thR.writes || thR.records.isEmpty) = true := by kernel_rfl
theorem imp_th : importsNone thQ = true := by kernel_rfl
theorem bare_th : thP.bare := ⟨rfl, rfl, rfl, rfl, rfl, by decide +kernel⟩
theorem prom_th : thR.toRowW.promised := by w_witness2
theorem head_th (said : thR.wellSaid = true) : thR.Holds := by
  refine ob_A (Prod.mk.inj def_th) fun h1 h2 => ?_
  refine ob_E (Option.isSome_iff_exists.mp h2) fun z1 hd => ?_; obtain ⟨d, kwd⟩ := z1
  unfold defB defG at h1
  rw [hd] at h1
  refine ob_A (Prod.mk.inj (Option.some.inj h1)) fun h1 h3 => ?_
  refine hopen (r := thR) (q := thQ) (loose := thL) (Xt := fun _ => true) (XP := fun _ _ => True) (Yf := fun s => hdV (kOf s.heap)) (Ya := fun _ => hdE) (YP := fun _ h => ∃ K, HdOk K ∧ K.In h) (N := 5000) left_th (fun w s e => ⟨_, hd_of e, kOf_in _⟩) (fun w h h' ⟨K, a, b⟩ k => ⟨K, a, b.keeps k⟩) (fun _ _ => trivial) (fun _ _ _ _ _ => trivial) hd h1 h3 (fun s _ => recFacts_nil rfl) wr_th said look_th bare_th prom_th ?_
  intro w s₀ s₁ mg mb G ⟨K, Y, X⟩ a ha args vals as hpre hlay L
  exact tail_law Y.h Y.i imp_th G X Y.l Y.s (show mg thR.name = some (.ref a) from defOf_name hd ▸ ha) hpre L
end
end Mine
namespace Mine
open _root_.PySem _root_.PySem.W PyProof.Rows
abbrev thK : OpenLaw := _root_.PySem.Challenge.rw_pq0953_01
theorem look_names : namesResolve thP = true := (congrFun Fast.te8377067652309620493 _).trans (by kernel_rfl)
theorem look_bare : (["vars", "dir", "locals"] : List _root_.PySem.Str).filter (readsOut thP thP.main.body) = [] := by
  rw [Fast.te13343964577679436407]; kernel_rfl
theorem look_road : noRoadLSs { strict := !(importedModules thP.main.body).all cThrough.contains, foot := none, bare := [] } thP.main.body = true := (congrFun (congrFun Fast.te8326940854005059898 _) _).trans (by kernel_rfl)
theorem look_attr : (namesMeet thP thP.main.body fun _ n => attrL n) = true := (congr (congrArg (fun f => f thP thP.main.body) Fast.te17119622794617984870) (congrArg (fun (f : _root_.PySem.Str → Bool) (_ : Scope) n => f n) Fast.te17868728402115742887)).trans (by kernel_rfl)
theorem look_open : looksOpen thP = true := by
  unfold looksOpen
  rw [look_bare, look_names, look_road, look_attr, Bool.and_true, Bool.and_true, Bool.and_true]
  kernel_rfl
theorem look_row : thR.wellSaid = true := by
  unfold OpenRow.wellSaid OpenRow.partSaid
  rw [show looksOpen thR.prog = true from look_open, Bool.true_and]
  kernel_rfl
theorem law_said : thK.wellSaid = true := by
  unfold OpenLaw.wellSaid
  rw [show thK.row.wellSaid = true from look_row, Bool.true_and, Fast.te8326940854005059898, Fast.te17119622794617984870]
  kernel_rfl
theorem main_head : _root_.PySem.Challenge.rw_pq0953_01.Holds := holds_law law_said head_th
end Mine
theorem PySem.Challenge.cw_pq0953_01_holds : PySem.Challenge.rw_pq0953_01.Holds := by
  exact Mine.main_head
