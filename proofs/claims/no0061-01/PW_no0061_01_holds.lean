import PyProof.Rows.All
import Wide.All
import OpenK.AllK
import Wide.FinOn
import PySem.Challenge.RW_no0061_01
set_option Elab.async false
set_option bootstrap.genMatcherCode false
set_option genSizeOf false
set_option autoImplicit false
set_option linter.unusedVariables false
set_option linter.unusedSimpArgs false

/-! El -/
namespace Mine
theorem el_A {B1 : Prop} {B2 : Prop} {P : Prop} (h : (B1 ∧ B2)) (k : B1 → B2 → P) : P := by obtain ⟨b1, b2⟩ := h; exact k b1 b2
theorem el_E.{u1} {α1 : Sort u1} {B1 : α1 → Prop} {P : Prop} (h : ∃ x1, B1 x1) (k : ∀ x1, B1 x1 → P) : P := by obtain ⟨x1, b1⟩ := h; exact k x1 b1
theorem el_AA {B1 : Prop} {B2 : Prop} {B3 : Prop} {P : Prop} (h : (B1 ∧ (B2 ∧ B3))) (k : B1 → B2 → B3 → P) : P := by obtain ⟨b1, b2, b3⟩ := h; exact k b1 b2 b3
theorem el_AE.{u1} {α1 : Sort u1} {B1 : Prop} {B2 : α1 → Prop} {P : Prop} (h : (B1 ∧ ∃ x1, B2 x1)) (k : B1 → ∀ x1, B2 x1 → P) : P := by obtain ⟨b1, x1, b2⟩ := h; exact k b1 x1 b2
theorem el_EA.{u1} {α1 : Sort u1} {B1 : α1 → Prop} {B2 : α1 → Prop} {P : Prop} (h : ∃ x1, (B1 x1 ∧ B2 x1)) (k : ∀ x1, B1 x1 → B2 x1 → P) : P := by obtain ⟨x1, b1, b2⟩ := h; exact k x1 b1 b2
theorem el_EE.{u1, u2} {α1 : Sort u1} {α2 : Sort u2} {B1 : α1 → α2 → Prop} {P : Prop} (h : ∃ x1, ∃ x2, B1 x1 x2) (k : ∀ x1, ∀ x2, B1 x1 x2 → P) : P := by obtain ⟨x1, x2, b1⟩ := h; exact k x1 x2 b1
theorem el_AAA {B1 : Prop} {B2 : Prop} {B3 : Prop} {B4 : Prop} {P : Prop} (h : (B1 ∧ (B2 ∧ (B3 ∧ B4)))) (k : B1 → B2 → B3 → B4 → P) : P := by obtain ⟨b1, b2, b3, b4⟩ := h; exact k b1 b2 b3 b4
theorem el_AEA.{u1} {α1 : Sort u1} {B1 : Prop} {B2 : α1 → Prop} {B3 : α1 → Prop} {P : Prop} (h : (B1 ∧ ∃ x1, (B2 x1 ∧ B3 x1))) (k : B1 → ∀ x1, B2 x1 → B3 x1 → P) : P := by obtain ⟨b1, x1, b2, b3⟩ := h; exact k b1 x1 b2 b3
theorem el_AEE.{u1, u2} {α1 : Sort u1} {α2 : Sort u2} {B1 : Prop} {B2 : α1 → α2 → Prop} {P : Prop} (h : (B1 ∧ ∃ x1, ∃ x2, B2 x1 x2)) (k : B1 → ∀ x1, ∀ x2, B2 x1 x2 → P) : P := by obtain ⟨b1, x1, x2, b2⟩ := h; exact k b1 x1 x2 b2
theorem el_EAA.{u1} {α1 : Sort u1} {B1 : α1 → Prop} {B2 : α1 → Prop} {B3 : α1 → Prop} {P : Prop} (h : ∃ x1, (B1 x1 ∧ (B2 x1 ∧ B3 x1))) (k : ∀ x1, B1 x1 → B2 x1 → B3 x1 → P) : P := by obtain ⟨x1, b1, b2, b3⟩ := h; exact k x1 b1 b2 b3
theorem el_EEA.{u1, u2} {α1 : Sort u1} {α2 : Sort u2} {B1 : α1 → α2 → Prop} {B2 : α1 → α2 → Prop} {P : Prop} (h : ∃ x1, ∃ x2, (B1 x1 x2 ∧ B2 x1 x2)) (k : ∀ x1, ∀ x2, B1 x1 x2 → B2 x1 x2 → P) : P := by obtain ⟨x1, x2, b1, b2⟩ := h; exact k x1 x2 b1 b2
theorem el_EEE.{u1, u2, u3} {α1 : Sort u1} {α2 : Sort u2} {α3 : Sort u3} {B1 : α1 → α2 → α3 → Prop} {P : Prop} (h : ∃ x1, ∃ x2, ∃ x3, B1 x1 x2 x3) (k : ∀ x1, ∀ x2, ∀ x3, B1 x1 x2 x3 → P) : P := by obtain ⟨x1, x2, x3, b1⟩ := h; exact k x1 x2 x3 b1
theorem el_AAAA {B1 : Prop} {B2 : Prop} {B3 : Prop} {B4 : Prop} {B5 : Prop} {P : Prop} (h : (B1 ∧ (B2 ∧ (B3 ∧ (B4 ∧ B5))))) (k : B1 → B2 → B3 → B4 → B5 → P) : P := by obtain ⟨b1, b2, b3, b4, b5⟩ := h; exact k b1 b2 b3 b4 b5
theorem el_AAEA.{u1} {α1 : Sort u1} {B1 : Prop} {B2 : Prop} {B3 : α1 → Prop} {B4 : α1 → Prop} {P : Prop} (h : (B1 ∧ (B2 ∧ ∃ x1, (B3 x1 ∧ B4 x1)))) (k : B1 → B2 → ∀ x1, B3 x1 → B4 x1 → P) : P := by obtain ⟨b1, b2, x1, b3, b4⟩ := h; exact k b1 b2 x1 b3 b4
theorem el_AEAA.{u1} {α1 : Sort u1} {B1 : Prop} {B2 : α1 → Prop} {B3 : α1 → Prop} {B4 : α1 → Prop} {P : Prop} (h : (B1 ∧ ∃ x1, (B2 x1 ∧ (B3 x1 ∧ B4 x1)))) (k : B1 → ∀ x1, B2 x1 → B3 x1 → B4 x1 → P) : P := by obtain ⟨b1, x1, b2, b3, b4⟩ := h; exact k b1 x1 b2 b3 b4
theorem el_AEEA.{u1, u2} {α1 : Sort u1} {α2 : Sort u2} {B1 : Prop} {B2 : α1 → α2 → Prop} {B3 : α1 → α2 → Prop} {P : Prop} (h : (B1 ∧ ∃ x1, ∃ x2, (B2 x1 x2 ∧ B3 x1 x2))) (k : B1 → ∀ x1, ∀ x2, B2 x1 x2 → B3 x1 x2 → P) : P := by obtain ⟨b1, x1, x2, b2, b3⟩ := h; exact k b1 x1 x2 b2 b3
theorem el_EAAA.{u1} {α1 : Sort u1} {B1 : α1 → Prop} {B2 : α1 → Prop} {B3 : α1 → Prop} {B4 : α1 → Prop} {P : Prop} (h : ∃ x1, (B1 x1 ∧ (B2 x1 ∧ (B3 x1 ∧ B4 x1)))) (k : ∀ x1, B1 x1 → B2 x1 → B3 x1 → B4 x1 → P) : P := by obtain ⟨x1, b1, b2, b3, b4⟩ := h; exact k x1 b1 b2 b3 b4
theorem el_EAAE.{u1, u2} {α1 : Sort u1} {α2 : Sort u2} {B1 : α1 → Prop} {B2 : α1 → Prop} {B3 : α1 → α2 → Prop} {P : Prop} (h : ∃ x1, (B1 x1 ∧ (B2 x1 ∧ ∃ x2, B3 x1 x2))) (k : ∀ x1, B1 x1 → B2 x1 → ∀ x2, B3 x1 x2 → P) : P := by obtain ⟨x1, b1, b2, x2, b3⟩ := h; exact k x1 b1 b2 x2 b3
theorem el_EAEA.{u1, u2} {α1 : Sort u1} {α2 : Sort u2} {B1 : α1 → Prop} {B2 : α1 → α2 → Prop} {B3 : α1 → α2 → Prop} {P : Prop} (h : ∃ x1, (B1 x1 ∧ ∃ x2, (B2 x1 x2 ∧ B3 x1 x2))) (k : ∀ x1, B1 x1 → ∀ x2, B2 x1 x2 → B3 x1 x2 → P) : P := by obtain ⟨x1, b1, x2, b2, b3⟩ := h; exact k x1 b1 x2 b2 b3
theorem el_EEAA.{u1, u2} {α1 : Sort u1} {α2 : Sort u2} {B1 : α1 → α2 → Prop} {B2 : α1 → α2 → Prop} {B3 : α1 → α2 → Prop} {P : Prop} (h : ∃ x1, ∃ x2, (B1 x1 x2 ∧ (B2 x1 x2 ∧ B3 x1 x2))) (k : ∀ x1, ∀ x2, B1 x1 x2 → B2 x1 x2 → B3 x1 x2 → P) : P := by obtain ⟨x1, x2, b1, b2, b3⟩ := h; exact k x1 x2 b1 b2 b3
theorem el_EEAE.{u1, u2, u3} {α1 : Sort u1} {α2 : Sort u2} {α3 : Sort u3} {B1 : α1 → α2 → Prop} {B2 : α1 → α2 → α3 → Prop} {P : Prop} (h : ∃ x1, ∃ x2, (B1 x1 x2 ∧ ∃ x3, B2 x1 x2 x3)) (k : ∀ x1, ∀ x2, B1 x1 x2 → ∀ x3, B2 x1 x2 x3 → P) : P := by obtain ⟨x1, x2, b1, x3, b2⟩ := h; exact k x1 x2 b1 x3 b2
theorem el_EEEA.{u1, u2, u3} {α1 : Sort u1} {α2 : Sort u2} {α3 : Sort u3} {B1 : α1 → α2 → α3 → Prop} {B2 : α1 → α2 → α3 → Prop} {P : Prop} (h : ∃ x1, ∃ x2, ∃ x3, (B1 x1 x2 x3 ∧ B2 x1 x2 x3)) (k : ∀ x1, ∀ x2, ∀ x3, B1 x1 x2 x3 → B2 x1 x2 x3 → P) : P := by obtain ⟨x1, x2, x3, b1, b2⟩ := h; exact k x1 x2 x3 b1 b2
theorem el_EEEE.{u1, u2, u3, u4} {α1 : Sort u1} {α2 : Sort u2} {α3 : Sort u3} {α4 : Sort u4} {B1 : α1 → α2 → α3 → α4 → Prop} {P : Prop} (h : ∃ x1, ∃ x2, ∃ x3, ∃ x4, B1 x1 x2 x3 x4) (k : ∀ x1, ∀ x2, ∀ x3, ∀ x4, B1 x1 x2 x3 x4 → P) : P := by obtain ⟨x1, x2, x3, x4, b1⟩ := h; exact k x1 x2 x3 x4 b1
theorem el_EAAAA.{u1} {α1 : Sort u1} {B1 : α1 → Prop} {B2 : α1 → Prop} {B3 : α1 → Prop} {B4 : α1 → Prop} {B5 : α1 → Prop} {P : Prop} (h : ∃ x1, (B1 x1 ∧ (B2 x1 ∧ (B3 x1 ∧ (B4 x1 ∧ B5 x1))))) (k : ∀ x1, B1 x1 → B2 x1 → B3 x1 → B4 x1 → B5 x1 → P) : P := by obtain ⟨x1, b1, b2, b3, b4, b5⟩ := h; exact k x1 b1 b2 b3 b4 b5
theorem el_EEAAA.{u1, u2} {α1 : Sort u1} {α2 : Sort u2} {B1 : α1 → α2 → Prop} {B2 : α1 → α2 → Prop} {B3 : α1 → α2 → Prop} {B4 : α1 → α2 → Prop} {P : Prop} (h : ∃ x1, ∃ x2, (B1 x1 x2 ∧ (B2 x1 x2 ∧ (B3 x1 x2 ∧ B4 x1 x2)))) (k : ∀ x1, ∀ x2, B1 x1 x2 → B2 x1 x2 → B3 x1 x2 → B4 x1 x2 → P) : P := by obtain ⟨x1, x2, b1, b2, b3, b4⟩ := h; exact k x1 x2 b1 b2 b3 b4
theorem el_EEEAA.{u1, u2, u3} {α1 : Sort u1} {α2 : Sort u2} {α3 : Sort u3} {B1 : α1 → α2 → α3 → Prop} {B2 : α1 → α2 → α3 → Prop} {B3 : α1 → α2 → α3 → Prop} {P : Prop} (h : ∃ x1, ∃ x2, ∃ x3, (B1 x1 x2 x3 ∧ (B2 x1 x2 x3 ∧ B3 x1 x2 x3))) (k : ∀ x1, ∀ x2, ∀ x3, B1 x1 x2 x3 → B2 x1 x2 x3 → B3 x1 x2 x3 → P) : P := by obtain ⟨x1, x2, x3, b1, b2, b3⟩ := h; exact k x1 x2 x3 b1 b2 b3
theorem el_EEEAE.{u1, u2, u3, u4} {α1 : Sort u1} {α2 : Sort u2} {α3 : Sort u3} {α4 : Sort u4} {B1 : α1 → α2 → α3 → Prop} {B2 : α1 → α2 → α3 → α4 → Prop} {P : Prop} (h : ∃ x1, ∃ x2, ∃ x3, (B1 x1 x2 x3 ∧ ∃ x4, B2 x1 x2 x3 x4)) (k : ∀ x1, ∀ x2, ∀ x3, B1 x1 x2 x3 → ∀ x4, B2 x1 x2 x3 x4 → P) : P := by obtain ⟨x1, x2, x3, b1, x4, b2⟩ := h; exact k x1 x2 x3 b1 x4 b2
theorem el_EEEEA.{u1, u2, u3, u4} {α1 : Sort u1} {α2 : Sort u2} {α3 : Sort u3} {α4 : Sort u4} {B1 : α1 → α2 → α3 → α4 → Prop} {B2 : α1 → α2 → α3 → α4 → Prop} {P : Prop} (h : ∃ x1, ∃ x2, ∃ x3, ∃ x4, (B1 x1 x2 x3 x4 ∧ B2 x1 x2 x3 x4)) (k : ∀ x1, ∀ x2, ∀ x3, ∀ x4, B1 x1 x2 x3 x4 → B2 x1 x2 x3 x4 → P) : P := by obtain ⟨x1, x2, x3, x4, b1, b2⟩ := h; exact k x1 x2 x3 x4 b1 b2
theorem el_EEEEE.{u1, u2, u3, u4, u5} {α1 : Sort u1} {α2 : Sort u2} {α3 : Sort u3} {α4 : Sort u4} {α5 : Sort u5} {B1 : α1 → α2 → α3 → α4 → α5 → Prop} {P : Prop} (h : ∃ x1, ∃ x2, ∃ x3, ∃ x4, ∃ x5, B1 x1 x2 x3 x4 x5) (k : ∀ x1, ∀ x2, ∀ x3, ∀ x4, ∀ x5, B1 x1 x2 x3 x4 x5 → P) : P := by obtain ⟨x1, x2, x3, x4, x5, b1⟩ := h; exact k x1 x2 x3 x4 x5 b1
theorem el_AAAAAA {B1 : Prop} {B2 : Prop} {B3 : Prop} {B4 : Prop} {B5 : Prop} {B6 : Prop} {B7 : Prop} {P : Prop} (h : (B1 ∧ (B2 ∧ (B3 ∧ (B4 ∧ (B5 ∧ (B6 ∧ B7))))))) (k : B1 → B2 → B3 → B4 → B5 → B6 → B7 → P) : P := by obtain ⟨b1, b2, b3, b4, b5, b6, b7⟩ := h; exact k b1 b2 b3 b4 b5 b6 b7
theorem el_AAAEEA.{u1, u2} {α1 : Sort u1} {α2 : Sort u2} {B1 : Prop} {B2 : Prop} {B3 : Prop} {B4 : α1 → α2 → Prop} {B5 : α1 → α2 → Prop} {P : Prop} (h : (B1 ∧ (B2 ∧ (B3 ∧ ∃ x1, ∃ x2, (B4 x1 x2 ∧ B5 x1 x2))))) (k : B1 → B2 → B3 → ∀ x1, ∀ x2, B4 x1 x2 → B5 x1 x2 → P) : P := by obtain ⟨b1, b2, b3, x1, x2, b4, b5⟩ := h; exact k b1 b2 b3 x1 x2 b4 b5
theorem el_EAAAAA.{u1} {α1 : Sort u1} {B1 : α1 → Prop} {B2 : α1 → Prop} {B3 : α1 → Prop} {B4 : α1 → Prop} {B5 : α1 → Prop} {B6 : α1 → Prop} {P : Prop} (h : ∃ x1, (B1 x1 ∧ (B2 x1 ∧ (B3 x1 ∧ (B4 x1 ∧ (B5 x1 ∧ B6 x1)))))) (k : ∀ x1, B1 x1 → B2 x1 → B3 x1 → B4 x1 → B5 x1 → B6 x1 → P) : P := by obtain ⟨x1, b1, b2, b3, b4, b5, b6⟩ := h; exact k x1 b1 b2 b3 b4 b5 b6
theorem el_EAAAEE.{u1, u2, u3} {α1 : Sort u1} {α2 : Sort u2} {α3 : Sort u3} {B1 : α1 → Prop} {B2 : α1 → Prop} {B3 : α1 → Prop} {B4 : α1 → α2 → α3 → Prop} {P : Prop} (h : ∃ x1, (B1 x1 ∧ (B2 x1 ∧ (B3 x1 ∧ ∃ x2, ∃ x3, B4 x1 x2 x3)))) (k : ∀ x1, B1 x1 → B2 x1 → B3 x1 → ∀ x2, ∀ x3, B4 x1 x2 x3 → P) : P := by obtain ⟨x1, b1, b2, b3, x2, x3, b4⟩ := h; exact k x1 b1 b2 b3 x2 x3 b4
theorem el_EAEEAE.{u1, u2, u3, u4} {α1 : Sort u1} {α2 : Sort u2} {α3 : Sort u3} {α4 : Sort u4} {B1 : α1 → Prop} {B2 : α1 → α2 → α3 → Prop} {B3 : α1 → α2 → α3 → α4 → Prop} {P : Prop} (h : ∃ x1, (B1 x1 ∧ ∃ x2, ∃ x3, (B2 x1 x2 x3 ∧ ∃ x4, B3 x1 x2 x3 x4))) (k : ∀ x1, B1 x1 → ∀ x2, ∀ x3, B2 x1 x2 x3 → ∀ x4, B3 x1 x2 x3 x4 → P) : P := by obtain ⟨x1, b1, x2, x3, b2, x4, b3⟩ := h; exact k x1 b1 x2 x3 b2 x4 b3
theorem el_EEAAAA.{u1, u2} {α1 : Sort u1} {α2 : Sort u2} {B1 : α1 → α2 → Prop} {B2 : α1 → α2 → Prop} {B3 : α1 → α2 → Prop} {B4 : α1 → α2 → Prop} {B5 : α1 → α2 → Prop} {P : Prop} (h : ∃ x1, ∃ x2, (B1 x1 x2 ∧ (B2 x1 x2 ∧ (B3 x1 x2 ∧ (B4 x1 x2 ∧ B5 x1 x2))))) (k : ∀ x1, ∀ x2, B1 x1 x2 → B2 x1 x2 → B3 x1 x2 → B4 x1 x2 → B5 x1 x2 → P) : P := by obtain ⟨x1, x2, b1, b2, b3, b4, b5⟩ := h; exact k x1 x2 b1 b2 b3 b4 b5
theorem el_EEAAAE.{u1, u2, u3} {α1 : Sort u1} {α2 : Sort u2} {α3 : Sort u3} {B1 : α1 → α2 → Prop} {B2 : α1 → α2 → Prop} {B3 : α1 → α2 → Prop} {B4 : α1 → α2 → α3 → Prop} {P : Prop} (h : ∃ x1, ∃ x2, (B1 x1 x2 ∧ (B2 x1 x2 ∧ (B3 x1 x2 ∧ ∃ x3, B4 x1 x2 x3)))) (k : ∀ x1, ∀ x2, B1 x1 x2 → B2 x1 x2 → B3 x1 x2 → ∀ x3, B4 x1 x2 x3 → P) : P := by obtain ⟨x1, x2, b1, b2, b3, x3, b4⟩ := h; exact k x1 x2 b1 b2 b3 x3 b4
theorem el_EEEAAA.{u1, u2, u3} {α1 : Sort u1} {α2 : Sort u2} {α3 : Sort u3} {B1 : α1 → α2 → α3 → Prop} {B2 : α1 → α2 → α3 → Prop} {B3 : α1 → α2 → α3 → Prop} {B4 : α1 → α2 → α3 → Prop} {P : Prop} (h : ∃ x1, ∃ x2, ∃ x3, (B1 x1 x2 x3 ∧ (B2 x1 x2 x3 ∧ (B3 x1 x2 x3 ∧ B4 x1 x2 x3)))) (k : ∀ x1, ∀ x2, ∀ x3, B1 x1 x2 x3 → B2 x1 x2 x3 → B3 x1 x2 x3 → B4 x1 x2 x3 → P) : P := by obtain ⟨x1, x2, x3, b1, b2, b3, b4⟩ := h; exact k x1 x2 x3 b1 b2 b3 b4
theorem el_EEEEAA.{u1, u2, u3, u4} {α1 : Sort u1} {α2 : Sort u2} {α3 : Sort u3} {α4 : Sort u4} {B1 : α1 → α2 → α3 → α4 → Prop} {B2 : α1 → α2 → α3 → α4 → Prop} {B3 : α1 → α2 → α3 → α4 → Prop} {P : Prop} (h : ∃ x1, ∃ x2, ∃ x3, ∃ x4, (B1 x1 x2 x3 x4 ∧ (B2 x1 x2 x3 x4 ∧ B3 x1 x2 x3 x4))) (k : ∀ x1, ∀ x2, ∀ x3, ∀ x4, B1 x1 x2 x3 x4 → B2 x1 x2 x3 x4 → B3 x1 x2 x3 x4 → P) : P := by obtain ⟨x1, x2, x3, x4, b1, b2, b3⟩ := h; exact k x1 x2 x3 x4 b1 b2 b3
theorem el_EEEEEA.{u1, u2, u3, u4, u5} {α1 : Sort u1} {α2 : Sort u2} {α3 : Sort u3} {α4 : Sort u4} {α5 : Sort u5} {B1 : α1 → α2 → α3 → α4 → α5 → Prop} {B2 : α1 → α2 → α3 → α4 → α5 → Prop} {P : Prop} (h : ∃ x1, ∃ x2, ∃ x3, ∃ x4, ∃ x5, (B1 x1 x2 x3 x4 x5 ∧ B2 x1 x2 x3 x4 x5)) (k : ∀ x1, ∀ x2, ∀ x3, ∀ x4, ∀ x5, B1 x1 x2 x3 x4 x5 → B2 x1 x2 x3 x4 x5 → P) : P := by obtain ⟨x1, x2, x3, x4, x5, b1, b2⟩ := h; exact k x1 x2 x3 x4 x5 b1 b2
theorem el_AAEAAAA.{u1} {α1 : Sort u1} {B1 : Prop} {B2 : Prop} {B3 : α1 → Prop} {B4 : α1 → Prop} {B5 : α1 → Prop} {B6 : α1 → Prop} {B7 : α1 → Prop} {P : Prop} (h : (B1 ∧ (B2 ∧ ∃ x1, (B3 x1 ∧ (B4 x1 ∧ (B5 x1 ∧ (B6 x1 ∧ B7 x1))))))) (k : B1 → B2 → ∀ x1, B3 x1 → B4 x1 → B5 x1 → B6 x1 → B7 x1 → P) : P := by obtain ⟨b1, b2, x1, b3, b4, b5, b6, b7⟩ := h; exact k b1 b2 x1 b3 b4 b5 b6 b7
theorem el_AEAAAAA.{u1} {α1 : Sort u1} {B1 : Prop} {B2 : α1 → Prop} {B3 : α1 → Prop} {B4 : α1 → Prop} {B5 : α1 → Prop} {B6 : α1 → Prop} {B7 : α1 → Prop} {P : Prop} (h : (B1 ∧ ∃ x1, (B2 x1 ∧ (B3 x1 ∧ (B4 x1 ∧ (B5 x1 ∧ (B6 x1 ∧ B7 x1))))))) (k : B1 → ∀ x1, B2 x1 → B3 x1 → B4 x1 → B5 x1 → B6 x1 → B7 x1 → P) : P := by obtain ⟨b1, x1, b2, b3, b4, b5, b6, b7⟩ := h; exact k b1 x1 b2 b3 b4 b5 b6 b7
theorem el_EAEEEAE.{u1, u2, u3, u4, u5} {α1 : Sort u1} {α2 : Sort u2} {α3 : Sort u3} {α4 : Sort u4} {α5 : Sort u5} {B1 : α1 → Prop} {B2 : α1 → α2 → α3 → α4 → Prop} {B3 : α1 → α2 → α3 → α4 → α5 → Prop} {P : Prop} (h : ∃ x1, (B1 x1 ∧ ∃ x2, ∃ x3, ∃ x4, (B2 x1 x2 x3 x4 ∧ ∃ x5, B3 x1 x2 x3 x4 x5))) (k : ∀ x1, B1 x1 → ∀ x2, ∀ x3, ∀ x4, B2 x1 x2 x3 x4 → ∀ x5, B3 x1 x2 x3 x4 x5 → P) : P := by obtain ⟨x1, b1, x2, x3, x4, b2, x5, b3⟩ := h; exact k x1 b1 x2 x3 x4 b2 x5 b3
theorem el_EEAAAAA.{u1, u2} {α1 : Sort u1} {α2 : Sort u2} {B1 : α1 → α2 → Prop} {B2 : α1 → α2 → Prop} {B3 : α1 → α2 → Prop} {B4 : α1 → α2 → Prop} {B5 : α1 → α2 → Prop} {B6 : α1 → α2 → Prop} {P : Prop} (h : ∃ x1, ∃ x2, (B1 x1 x2 ∧ (B2 x1 x2 ∧ (B3 x1 x2 ∧ (B4 x1 x2 ∧ (B5 x1 x2 ∧ B6 x1 x2)))))) (k : ∀ x1, ∀ x2, B1 x1 x2 → B2 x1 x2 → B3 x1 x2 → B4 x1 x2 → B5 x1 x2 → B6 x1 x2 → P) : P := by obtain ⟨x1, x2, b1, b2, b3, b4, b5, b6⟩ := h; exact k x1 x2 b1 b2 b3 b4 b5 b6
theorem el_EEAAAAE.{u1, u2, u3} {α1 : Sort u1} {α2 : Sort u2} {α3 : Sort u3} {B1 : α1 → α2 → Prop} {B2 : α1 → α2 → Prop} {B3 : α1 → α2 → Prop} {B4 : α1 → α2 → Prop} {B5 : α1 → α2 → α3 → Prop} {P : Prop} (h : ∃ x1, ∃ x2, (B1 x1 x2 ∧ (B2 x1 x2 ∧ (B3 x1 x2 ∧ (B4 x1 x2 ∧ ∃ x3, B5 x1 x2 x3))))) (k : ∀ x1, ∀ x2, B1 x1 x2 → B2 x1 x2 → B3 x1 x2 → B4 x1 x2 → ∀ x3, B5 x1 x2 x3 → P) : P := by obtain ⟨x1, x2, b1, b2, b3, b4, x3, b5⟩ := h; exact k x1 x2 b1 b2 b3 b4 x3 b5
theorem el_EEAAAEE.{u1, u2, u3, u4} {α1 : Sort u1} {α2 : Sort u2} {α3 : Sort u3} {α4 : Sort u4} {B1 : α1 → α2 → Prop} {B2 : α1 → α2 → Prop} {B3 : α1 → α2 → Prop} {B4 : α1 → α2 → α3 → α4 → Prop} {P : Prop} (h : ∃ x1, ∃ x2, (B1 x1 x2 ∧ (B2 x1 x2 ∧ (B3 x1 x2 ∧ ∃ x3, ∃ x4, B4 x1 x2 x3 x4)))) (k : ∀ x1, ∀ x2, B1 x1 x2 → B2 x1 x2 → B3 x1 x2 → ∀ x3, ∀ x4, B4 x1 x2 x3 x4 → P) : P := by obtain ⟨x1, x2, b1, b2, b3, x3, x4, b4⟩ := h; exact k x1 x2 b1 b2 b3 x3 x4 b4
theorem el_EEAEEEA.{u1, u2, u3, u4, u5} {α1 : Sort u1} {α2 : Sort u2} {α3 : Sort u3} {α4 : Sort u4} {α5 : Sort u5} {B1 : α1 → α2 → Prop} {B2 : α1 → α2 → α3 → α4 → α5 → Prop} {B3 : α1 → α2 → α3 → α4 → α5 → Prop} {P : Prop} (h : ∃ x1, ∃ x2, (B1 x1 x2 ∧ ∃ x3, ∃ x4, ∃ x5, (B2 x1 x2 x3 x4 x5 ∧ B3 x1 x2 x3 x4 x5))) (k : ∀ x1, ∀ x2, B1 x1 x2 → ∀ x3, ∀ x4, ∀ x5, B2 x1 x2 x3 x4 x5 → B3 x1 x2 x3 x4 x5 → P) : P := by obtain ⟨x1, x2, b1, x3, x4, x5, b2, b3⟩ := h; exact k x1 x2 b1 x3 x4 x5 b2 b3
theorem el_EEEAAAA.{u1, u2, u3} {α1 : Sort u1} {α2 : Sort u2} {α3 : Sort u3} {B1 : α1 → α2 → α3 → Prop} {B2 : α1 → α2 → α3 → Prop} {B3 : α1 → α2 → α3 → Prop} {B4 : α1 → α2 → α3 → Prop} {B5 : α1 → α2 → α3 → Prop} {P : Prop} (h : ∃ x1, ∃ x2, ∃ x3, (B1 x1 x2 x3 ∧ (B2 x1 x2 x3 ∧ (B3 x1 x2 x3 ∧ (B4 x1 x2 x3 ∧ B5 x1 x2 x3))))) (k : ∀ x1, ∀ x2, ∀ x3, B1 x1 x2 x3 → B2 x1 x2 x3 → B3 x1 x2 x3 → B4 x1 x2 x3 → B5 x1 x2 x3 → P) : P := by obtain ⟨x1, x2, x3, b1, b2, b3, b4, b5⟩ := h; exact k x1 x2 x3 b1 b2 b3 b4 b5
theorem el_EEEEAAA.{u1, u2, u3, u4} {α1 : Sort u1} {α2 : Sort u2} {α3 : Sort u3} {α4 : Sort u4} {B1 : α1 → α2 → α3 → α4 → Prop} {B2 : α1 → α2 → α3 → α4 → Prop} {B3 : α1 → α2 → α3 → α4 → Prop} {B4 : α1 → α2 → α3 → α4 → Prop} {P : Prop} (h : ∃ x1, ∃ x2, ∃ x3, ∃ x4, (B1 x1 x2 x3 x4 ∧ (B2 x1 x2 x3 x4 ∧ (B3 x1 x2 x3 x4 ∧ B4 x1 x2 x3 x4)))) (k : ∀ x1, ∀ x2, ∀ x3, ∀ x4, B1 x1 x2 x3 x4 → B2 x1 x2 x3 x4 → B3 x1 x2 x3 x4 → B4 x1 x2 x3 x4 → P) : P := by obtain ⟨x1, x2, x3, x4, b1, b2, b3, b4⟩ := h; exact k x1 x2 x3 x4 b1 b2 b3 b4
theorem el_EEEEEAA.{u1, u2, u3, u4, u5} {α1 : Sort u1} {α2 : Sort u2} {α3 : Sort u3} {α4 : Sort u4} {α5 : Sort u5} {B1 : α1 → α2 → α3 → α4 → α5 → Prop} {B2 : α1 → α2 → α3 → α4 → α5 → Prop} {B3 : α1 → α2 → α3 → α4 → α5 → Prop} {P : Prop} (h : ∃ x1, ∃ x2, ∃ x3, ∃ x4, ∃ x5, (B1 x1 x2 x3 x4 x5 ∧ (B2 x1 x2 x3 x4 x5 ∧ B3 x1 x2 x3 x4 x5))) (k : ∀ x1, ∀ x2, ∀ x3, ∀ x4, ∀ x5, B1 x1 x2 x3 x4 x5 → B2 x1 x2 x3 x4 x5 → B3 x1 x2 x3 x4 x5 → P) : P := by obtain ⟨x1, x2, x3, x4, x5, b1, b2, b3⟩ := h; exact k x1 x2 x3 x4 x5 b1 b2 b3
theorem el_EEEEEEA.{u1, u2, u3, u4, u5, u6} {α1 : Sort u1} {α2 : Sort u2} {α3 : Sort u3} {α4 : Sort u4} {α5 : Sort u5} {α6 : Sort u6} {B1 : α1 → α2 → α3 → α4 → α5 → α6 → Prop} {B2 : α1 → α2 → α3 → α4 → α5 → α6 → Prop} {P : Prop} (h : ∃ x1, ∃ x2, ∃ x3, ∃ x4, ∃ x5, ∃ x6, (B1 x1 x2 x3 x4 x5 x6 ∧ B2 x1 x2 x3 x4 x5 x6)) (k : ∀ x1, ∀ x2, ∀ x3, ∀ x4, ∀ x5, ∀ x6, B1 x1 x2 x3 x4 x5 x6 → B2 x1 x2 x3 x4 x5 x6 → P) : P := by obtain ⟨x1, x2, x3, x4, x5, x6, b1, b2⟩ := h; exact k x1 x2 x3 x4 x5 x6 b1 b2
theorem el_EEEEEEE.{u1, u2, u3, u4, u5, u6, u7} {α1 : Sort u1} {α2 : Sort u2} {α3 : Sort u3} {α4 : Sort u4} {α5 : Sort u5} {α6 : Sort u6} {α7 : Sort u7} {B1 : α1 → α2 → α3 → α4 → α5 → α6 → α7 → Prop} {P : Prop} (h : ∃ x1, ∃ x2, ∃ x3, ∃ x4, ∃ x5, ∃ x6, ∃ x7, B1 x1 x2 x3 x4 x5 x6 x7) (k : ∀ x1, ∀ x2, ∀ x3, ∀ x4, ∀ x5, ∀ x6, ∀ x7, B1 x1 x2 x3 x4 x5 x6 x7 → P) : P := by obtain ⟨x1, x2, x3, x4, x5, x6, x7, b1⟩ := h; exact k x1 x2 x3 x4 x5 x6 x7 b1
end Mine

/-! Mini -/
namespace Mine
open PySem

/-! the small language -/
inductive Bop where
  | add | sub | mul | fdiv | mod
inductive Cop where
  | eq | ne | lt | le | gt | ge | isin | notin
inductive Bf where
  | len | bytes | list | sorted | min | max | sum | dict
inductive Mt where
  | append | pop | get
set_option genInjectivity false in
inductive Tg where
  | one (x : Nat) | many (xs : List Nat)

set_option genInjectivity false in
inductive X where
  | var (x : Nat) | int (i : Int) | none | bool (b : Bool) | bytes0 | neg1
  | not (e : X) | bin (op : Bop) (l r : X) | and (l r : X) | or (l r : X)
  | ife (c a b : X)
  | cmp (l : X) (op : Cop) (r : X) | cmp2 (l : X) (o1 : Cop) (m : X) (o2 : Cop) (r : X)
  | tup (es : List X) | list (es : List X) | dict0
  | idx (e i : X) | cut (e : X) (lo hi : Option X)
  | call (f : Nat) (args : List X) | bif (f : Bf) (args : List X) | met (m : Mt) (o : X) (args : List X)
  | range (es : List X) | enum (e : X)
  | comp (elt : X) (tg : Tg) (src : X) (cond : Option X) (free : List Nat)

set_option genInjectivity false in
inductive Y where
  | set (x : Nat) (e : X) | setT (xs : List Nat) (e : X) | setI (o i e : X)
  | exp (e : X) | ite (c : X) (a b : List Y) | forT (tg : Tg) (src : X) (b : List Y)
  | whl (c : X) (b : List Y) | ret (e : X)

structure Fn where
  ps : List Nat
  body : List Y

/-! values, the store -/
inductive At where
  | none | bool (b : Bool) | int (i : Int) | bytes (b : List UInt8) | loc (n : Nat)
  deriving DecidableEq
inductive AV where
  | a (x : At) | tup (l : List At)
  deriving DecidableEq
noncomputable abbrev AV.none : AV := .a .none
noncomputable abbrev AV.bool (b : Bool) : AV := .a (.bool b)
noncomputable abbrev AV.int (i : Int) : AV := .a (.int i)
noncomputable abbrev AV.bytes (b : List UInt8) : AV := .a (.bytes b)
noncomputable abbrev AV.loc (n : Nat) : AV := .a (.loc n)

inductive AD where
  | list (l : List AV) | dict (l : List (Int × AV))
structure Ob where
  v : Nat
  d : AD
structure St where
  next : Nat
  obj : Nat → Option Ob

noncomputable abbrev En := Nat → Option AV
noncomputable def upd {α : Type} (f : Nat → α) (k : Nat) (v : α) : Nat → α := fun x => if x = k then v else f x

noncomputable def lim : Nat := 1000000
noncomputable def St.alloc (σ : St) (d : AD) : St := ⟨σ.next + 1, upd σ.obj σ.next (some ⟨0, d⟩)⟩
noncomputable def St.put (σ : St) (l : Nat) (d : AD) : Option St := match σ.obj l with
  | some o => some ⟨σ.next, upd σ.obj l (some ⟨o.v + 1, d⟩)⟩
  | none => none
noncomputable def St.get (σ : St) (l : Nat) : Option AD := (σ.obj l).map (·.d)

inductive Fl where
  | next | ret (v : AV)

/-! plain operations -/
/-- by its form: an int, octets, an object, a tuple -/
noncomputable def AV.by {α : Type} (v : AV) (i : Int → Option α) (b : List UInt8 → Option α) (l : Nat → Option α) (t : List At → Option α) : Option α := match v with
  | .a x => (match x with | .int k => i k | .bytes k => b k | .loc k => l k | .none => Option.none | .bool _ => Option.none)
  | .tup k => t k
noncomputable def no {α β : Type} (_ : β) : Option α := none
noncomputable def no2 {α β γ : Type} (_ : β) (_ : γ) : Option α := none
noncomputable def int2 {α : Type} (v w : AV) (f : Int → Int → Option α) : Option α := v.by (fun a => w.by (f a) no no no) no no no
/-- one argument, or two -/
noncomputable def args {α : Type} (vs : List AV) (f : AV → Option α) (g : AV → AV → Option α) : Option α := match vs with
  | [] => none
  | v :: r => (match r with | [] => f v | x :: q => (match q with | [] => g v x | _ :: _ => none))
/-- by what an object is -/
noncomputable def St.on {α : Type} (σ : St) (l : Nat) (f : List AV → Option α) (g : List (Int × AV) → Option α) : Option α := match σ.get l with
  | none => none
  | some d => (match d with | .list xs => f xs | .dict kvs => g kvs)

noncomputable def tru : AV → Option Bool
  | .a (.bool b) => some b
  | _ => none

noncomputable def kin : At → At → Bool
  | .int _, .int _ => true
  | .bytes _, .bytes _ => true
  | _, _ => false
noncomputable def kinT : List At → List At → Bool
  | [], [] => true
  | x :: xs, y :: ys => kin x y && kinT xs ys
  | _, _ => false
noncomputable def kinV : AV → AV → Bool
  | .a x, .a y => kin x y
  | .tup l, .tup r => kinT l r
  | _, _ => false
noncomputable def kinL : List AV → List AV → Bool
  | [], [] => true
  | x :: xs, y :: ys => kinV x y && kinL xs ys
  | _, _ => false

noncomputable def dget (kvs : List (Int × AV)) (k : Int) : Option AV := (kvs.find? fun kv => decide (kv.1 = k)).map (·.2)
noncomputable def dput (kvs : List (Int × AV)) (k : Int) (v : AV) : List (Int × AV) :=
  if kvs.any (fun kv => decide (kv.1 = k)) then kvs.map (fun kv => if kv.1 = k then (kv.1, v) else kv) else kvs ++ [(k, v)]
noncomputable def ddel (kvs : List (Int × AV)) (k : Int) : List (Int × AV) := kvs.filter fun kv => decide (kv.1 ≠ k)

noncomputable def eqB (a : Bool) (w : AV) : Option Bool := match w with
  | .a y => (match y with | .bool b => some (decide (a = b)) | .none => none | .int _ => none | .bytes _ => none | .loc _ => none)
  | .tup _ => none
noncomputable def eqN (w : AV) : Option Bool := match w with
  | .a y => (match y with | .none => some true | .bool _ => none | .int _ => none | .bytes _ => none | .loc _ => none)
  | .tup _ => none
noncomputable def aeq (σ : St) (v w : AV) : Option Bool := match v with
  | .a x => (match x with
    | .loc x => w.by no no (fun y => σ.on x (fun xs => σ.on y (fun ys => if xs.length ≠ ys.length then some false else if kinL xs ys then some (decide (xs = ys)) else none) no) no) no
    | .bool a => eqB a w
    | .none => eqN w
    | .int a => w.by (fun b => some (decide (a = b))) no no no
    | .bytes a => w.by no (fun b => some (decide (a = b))) no no)
  | .tup l => w.by no no no fun r => if kinT l r then some (decide (l = r)) else none

noncomputable def acmp (op : Cop) (v w : AV) (σ : St) : Option Bool := match op with
  | .eq => aeq σ v w
  | .ne => (aeq σ v w).map (!·)
  | .lt => int2 v w fun a b => some (decide (a < b))
  | .le => int2 v w fun a b => some (decide (a ≤ b))
  | .gt => int2 v w fun a b => some (decide (b < a))
  | .ge => int2 v w fun a b => some (decide (b ≤ a))
  | .isin => v.by (fun k => w.by no no (fun l => σ.on l no fun kvs => some (dget kvs k).isSome) no) no no no
  | .notin => v.by (fun k => w.by no no (fun l => σ.on l no fun kvs => some !(dget kvs k).isSome) no) no no no

noncomputable def newL (xs : List AV) (σ : St) : Option (AV × St) := if xs.length ≤ lim then some (.loc σ.next, σ.alloc (.list xs)) else none

noncomputable def abin (op : Bop) (v w : AV) (σ : St) : Option (AV × St) := match op with
  | .add => v.by (fun a => w.by (fun b => some (.int (a + b), σ)) no no no) (fun a => w.by no (fun b => if a.length + b.length ≤ lim then some (.bytes (a ++ b), σ) else none) no no)
      (fun a => w.by no no (fun b => σ.on a (fun xs => σ.on b (fun ys => newL (xs ++ ys) σ) no) no) no) no
  | .sub => int2 v w fun a b => some (.int (a - b), σ)
  | .mul => int2 v w fun a b => if a.natAbs < 2 ^ 40 ∧ b.natAbs < 2 ^ 40 then some (.int (a * b), σ) else none
  | .fdiv => int2 v w fun a b => if 0 < b ∧ b < 1000000 then some (.int (a / b), σ) else none
  | .mod => int2 v w fun a b => if 0 < b then some (.int (a % b), σ) else none

noncomputable def aidx (v w : AV) (σ : St) : Option AV := w.by (fun i => v.by no
    (fun b => if 0 ≤ i then (b[i.toNat]?).map fun u => .int u.toNat else none)
    (fun l => σ.on l (fun xs => if 0 ≤ i then xs[i.toNat]? else if i = -1 then xs.getLast? else none) (fun kvs => dget kvs i))
    (fun l => if 0 ≤ i then (l[i.toNat]?).map .a else none)) no no no

noncomputable def bound (o : Option AV) (d : Nat) : Option Nat := match o with
  | none => some d
  | some v => v.by (fun i => if 0 ≤ i then some i.toNat else none) no no no
noncomputable def acut (v : AV) (lo hi : Option AV) (σ : St) : Option (AV × St) := v.by no
  (fun b => (bound lo 0).bind fun x => (bound hi b.length).bind fun y => some (.bytes ((b.take y).drop x), σ))
  (fun l => σ.on l (fun xs => (bound lo 0).bind fun x => (bound hi xs.length).bind fun y => some (.loc σ.next, σ.alloc (.list ((xs.take y).drop x)))) no) no

noncomputable def intsOf : List AV → Option (List Int)
  | [] => some []
  | v :: r => v.by (fun i => (intsOf r).map (i :: ·)) no no no
noncomputable def octs : List Int → Option (List UInt8)
  | [] => some []
  | i :: r => if 0 ≤ i ∧ i < 256 then (octs r).map (UInt8.ofNat i.toNat :: ·) else none
noncomputable def prOf (v : AV) : Option (Int × At) := v.by no no no fun l => match l with
  | [] => none
  | x :: q => (match q with | [] => none | y :: t => (match t with | [] => (AV.a x).by (fun i => some (i, y)) no no no | _ :: _ => none))
noncomputable def prsOf : List AV → Option (List (Int × At))
  | [] => some []
  | v :: r => (prOf v).bind fun p => (prsOf r).map (p :: ·)
noncomputable def insI (i : Int) : List Int → List Int
  | [] => [i]
  | j :: r => if i ≤ j then i :: j :: r else j :: insI i r
noncomputable def sortI (l : List Int) : List Int := l.foldr insI []
noncomputable def headI : AV → Option Int
  | .tup (.int i :: _) => some i
  | _ => none
noncomputable def heads : List AV → Option (List Int)
  | [] => some []
  | x :: r => (headI x).bind fun i => (heads r).map (i :: ·)
noncomputable def insPos (k : Int) : List Int → Nat
  | [] => 0
  | j :: r => if j < k then insPos k r + 1 else 0
noncomputable def insAt {α : Type} (pos : Nat) (l : List α) : List α := l.take pos ++ l.drop (l.length - 1) ++ (l.take (l.length - 1)).drop pos
/-- a list whose items but the last ascend by their heads, the last one's head another -/
noncomputable def sortT (xs : List AV) : Option (List AV) := (heads xs).bind fun ks =>
  if 1 ≤ ks.length ∧ ks.length < 64 ∧ (ks.take (ks.length - 1)).Pairwise (· < ·) ∧ ks.getD (ks.length - 1) 0 ∉ ks.take (ks.length - 1) then some (insAt (insPos (ks.getD (ks.length - 1) 0) (ks.take (ks.length - 1))) xs) else none
noncomputable def maxI : Int → List Int → Int
  | m, [] => m
  | m, i :: r => maxI (if m < i then i else m) r

noncomputable def maxL (is : List Int) : Option Int := match is with
  | [] => none
  | i :: r => some (maxI i r)
noncomputable def abif (f : Bf) (vs : List AV) (σ : St) : Option (AV × St) := match f with
  | .len => args vs (fun v => v.by no (fun b => some (.int b.length, σ)) (fun l => σ.on l (fun xs => some (.int xs.length, σ)) fun kvs => some (.int kvs.length, σ)) no) no2
  | .bytes => args vs (fun v => v.by no (fun b => some (.bytes b, σ)) (fun l => σ.on l (fun xs => ((intsOf xs).bind octs).map fun b => (.bytes b, σ)) no) no) no2
  | .list => args vs (fun v => v.by no no (fun l => σ.on l (fun xs => newL xs σ) no) no) no2
  | .sorted => args vs (fun v => v.by no no (fun l => σ.on l (fun xs => (sortT xs).bind fun ys => newL ys σ)
      fun kvs => if kvs.length < 64 then newL ((sortI (kvs.map (·.1))).map .int) σ else none) no) no2
  | .min => args vs no fun v w => int2 v w fun a b => some (.int (min a b), σ)
  | .max => args vs (fun v => v.by no no (fun l => σ.on l (fun xs => ((intsOf xs).bind maxL).map fun i => (.int i, σ)) no) no) fun v w => int2 v w fun a b => some (.int (max a b), σ)
  | .sum => args vs (fun v => v.by no no (fun l => σ.on l (fun xs => (intsOf xs).map fun is => (.int is.sum, σ)) no) no) no2
  | .dict => args vs (fun v => v.by no no (fun l => σ.on l (fun xs => (prsOf xs).map fun ps => (.loc σ.next, σ.alloc (.dict (ps.foldl (fun d p => dput d p.1 (.a p.2)) [])))) no) no) no2

noncomputable def AD.isL : AD → Bool
  | .list _ => true
  | .dict _ => false
noncomputable def kindOf (v : AV) (σ : St) : Option Bool := v.by no no (fun l => (σ.get l).map (·.isL)) no
noncomputable def popHead (σ : St) (l : Nat) (xs : List AV) : Option (AV × St) := match xs with
  | [] => none
  | x :: r => (σ.put l (.list r)).map (x, ·)
noncomputable def dpop (σ : St) (l : Nat) (kvs : List (Int × AV)) (k : Int) (d : AV) : Option (AV × St) := match dget kvs k with
  | none => some (d, σ)
  | some v => (σ.put l (.dict (ddel kvs k))).map (v, ·)
noncomputable def amet (m : Mt) (o : AV) (vs : List AV) (σ : St) : Option (AV × St) := o.by no no (fun l => σ.on l
    (fun xs => match m with
      | .append => args vs (fun v => if xs.length < lim then (σ.put l (.list (xs ++ [v]))).map (.none, ·) else none) no2
      | .pop => args vs (fun v => v.by (fun i => if i = 0 then popHead σ l xs else none) no no no) no2
      | .get => none)
    (fun kvs => match m with
      | .append => none
      | .pop => args vs no fun v d => v.by (fun k => dpop σ l kvs k d) no no no
      | .get => args vs (fun v => v.by (fun k => some ((dget kvs k).getD .none, σ)) no no no) fun v d => v.by (fun k => some ((dget kvs k).getD d, σ)) no no no)) no

noncomputable def aset (o i v : AV) (σ : St) : Option St := o.by no no (fun l => i.by (fun k => σ.on l
    (fun xs => if 0 ≤ k ∧ k.toNat < xs.length then σ.put l (.list (xs.set k.toNat v))
      else if k = -1 ∧ 0 < xs.length then σ.put l (.list (xs.set (xs.length - 1) v)) else none)
    (fun kvs => if kvs.length < lim then σ.put l (.dict (dput kvs k v)) else none)) no no no) no

noncomputable def atomsOf : List AV → Option (List At)
  | [] => some []
  | .a x :: r => (atomsOf r).map (x :: ·)
  | _ => none

noncomputable def bindM : List Nat → List At → En → Option En
  | [], [], ρ => some ρ
  | x :: xs, v :: vs, ρ => bindM xs vs (upd ρ x (some (.a v)))
  | _, _, _ => none
noncomputable def bindT : Tg → AV → En → Option En
  | .one x, v, ρ => some (upd ρ x (some v))
  | .many xs, .tup l, ρ => bindM xs l ρ
  | _, _, _ => none

noncomputable def rangeL (lo : Int) (step : Int) : Nat → List AV
  | 0 => []
  | n + 1 => .int lo :: rangeL (lo + step) step n
noncomputable def small (i : Int) : Bool := decide (-1000000 < i) && decide (i < 1000000)
noncomputable def rangeOf : List Int → Option (List AV)
  | [b] => if small b then some (rangeL 0 1 b.toNat) else none
  | [a, b] => if small a && small b then some (rangeL a 1 (b - a).toNat) else none
  | [a, b, c] => if small a && small b && small c && decide (0 < c) then some (rangeL a c ((b - a + c - 1) / c).toNat) else none
  | _ => none
noncomputable def enumL (i : Nat) : List UInt8 → List AV
  | [] => []
  | u :: r => .tup [.int i, .int u.toNat] :: enumL (i + 1) r

/-! loops, given what evaluates their parts -/
noncomputable def evs (f : X → St → Option (AV × St)) : List X → St → Option (List AV × St)
  | [], σ => some ([], σ)
  | e :: es, σ => (f e σ).bind fun p => (evs f es p.2).bind fun q => some (p.1 :: q.1, q.2)
noncomputable def evo (f : X → St → Option (AV × St)) : Option X → St → Option (Option AV × St)
  | none, σ => some (none, σ)
  | some e, σ => (f e σ).bind fun p => some (some p.1, p.2)
noncomputable def exs (f : Y → En → St → Option (Fl × En × St)) : List Y → En → St → Option (Fl × En × St)
  | [], ρ, σ => some (.next, ρ, σ)
  | y :: ys, ρ, σ => (f y ρ σ).bind fun p => match p.1 with
    | .next => exs f ys p.2.1 p.2.2
    | .ret v => some (.ret v, p.2.1, p.2.2)
open Classical in
noncomputable def chk (w : Option Nat) (σ₀ σ : St) : Bool := match w with
  | none => true
  | some l => decide (σ.obj l = σ₀.obj l)
noncomputable def forl (tg : Tg) (w : Option Nat) (σ₀ : St) (b : En → St → Option (Fl × En × St)) : List AV → En → St → Option (Fl × En × St)
  | [], ρ, σ => some (.next, ρ, σ)
  | v :: vs, ρ, σ => (bindT tg v ρ).bind fun ρ₁ => (b ρ₁ σ).bind fun p => match p.1 with
    | .ret r => some (.ret r, p.2.1, p.2.2)
    | .next => if chk w σ₀ p.2.2 then forl tg w σ₀ b vs p.2.1 p.2.2 else none
noncomputable def compl (tg : Tg) (w : Option Nat) (σ₀ : St) (c : En → St → Option (Bool × St)) (el : En → St → Option (AV × St)) : List AV → En → St → Option (List AV × St)
  | [], _, σ => some ([], σ)
  | v :: vs, ρ, σ => (bindT tg v ρ).bind fun ρ₁ => (c ρ₁ σ).bind fun p =>
    if p.1 then (el ρ₁ p.2).bind fun q => if chk w σ₀ q.2 then (compl tg w σ₀ c el vs ρ₁ q.2).bind fun r => some (q.1 :: r.1, r.2) else none
    else if chk w σ₀ p.2 then compl tg w σ₀ c el vs ρ₁ p.2 else none
noncomputable def whll (c : En → St → Option (Bool × St)) (b : En → St → Option (Fl × En × St)) : Nat → En → St → Option (Fl × En × St)
  | 0, _, _ => none
  | k + 1, ρ, σ => (c ρ σ).bind fun p => if p.1 then (b ρ p.2).bind fun q => (match q.1 with
      | .ret r => some (.ret r, q.2.1, q.2.2)
      | .next => whll c b k q.2.1 q.2.2)
    else some (.next, ρ, p.2)
noncomputable def itemsOf (f : X → St → Option (AV × St)) (s : X) (σ : St) : Option (List AV × Option Nat × St) := match s with
  | .range es => (evs f es σ).bind fun p => (intsOf p.1).bind fun is => (rangeOf is).bind fun l => some (l, none, p.2)
  | .enum e => (f e σ).bind fun p => match p.1 with
    | .a (.bytes b) => some (enumL 0 b, none, p.2)
    | _ => none
  | e => (f e σ).bind fun p => match p.1 with
    | .a (.loc l) => match p.2.get l with
      | some (.list xs) => some (xs, some l, p.2)
      | some (.dict kvs) => some (kvs.map fun kv => .int kv.1, some l, p.2)
      | none => none
    | _ => none
noncomputable def tst (f : X → St → Option (AV × St)) (e : X) (σ : St) : Option (Bool × St) := (f e σ).bind fun p => (tru p.1).bind fun b => some (b, p.2)
noncomputable def tsto (f : En → X → St → Option (AV × St)) (c : Option X) (ρ : En) (σ : St) : Option (Bool × St) := match c with
  | none => some (true, σ)
  | some e => tst (f ρ) e σ
noncomputable def restr (free : List Nat) (ρ : En) : En := fun x => if x ∈ free then ρ x else none
noncomputable def noEn : En := fun _ => none
noncomputable def bindP : List Nat → List AV → En → Option En
  | [], [], ρ => some ρ
  | x :: xs, v :: vs, ρ => bindP xs vs (upd ρ x (some v))
  | _, _, _ => none
noncomputable def turns : Nat := 64
noncomputable def vnames : List String := ["pieces", "offset", "data", "found", "begin", "joined", "start", "octets", "end", "last", "ahead", "behind", "at", "left", "low", "high", "spans", "is_put", "one", "other", "most", "others", "script", "seed_here", "box", "wide", "known", "turn", "step", "is_same", "octet", "later", "spot", "many", "rest", "first"]
noncomputable def fnames : List String := ["add_piece", "taken_from", "highest_of", "covered", "octet_at", "agrees", "add_span", "cut_span", "has_span", "first_span", "span_count", "without_spans", "_law_box", "_law_take", "_law_rows", "_law_pairs", "_law_pieces_right", "_law_spans_right", "law"]
/-- add_piece -/
noncomputable def f0 : Fn := ⟨[0, 1, 2],
  [
    .ite (.cmp (.bif .len [.var 2]) .eq (.int 0))
      [
        .ret (.bif .list [.var 0])]
      [],
    .setT [3, 4, 5] (.tup [.list [], .var 1, .bif .bytes [.var 2]]),
    .forT (.many [6, 7]) (.var 0)
      [
        .setT [8, 9] (.tup [.bin .add (.var 6) (.bif .len [.var 7]), .bin .add (.var 4) (.bif .len [.var 5])]),
        .ite (.or (.cmp (.var 8) .lt (.var 4)) (.cmp (.var 9) .lt (.var 6)))
          [
            .exp (.met .append (.var 3) [.tup [.var 6, .var 7]])]
          [
            .set 10 (.cut (.var 5) none (some (.bif .max [.int 0, .bin .sub (.var 6) (.var 4)]))),
            .set 11 (.cut (.var 5) (some (.bif .max [.int 0, .bin .sub (.var 8) (.var 4)])) none),
            .setT [4, 5] (.tup [.bif .min [.var 4, .var 6], .bin .add (.bin .add (.var 10) (.var 7)) (.var 11)])]],
    .ret (.bif .sorted [.bin .add (.var 3) (.list [.tup [.var 4, .var 5]])])]⟩
/-- taken_from -/
noncomputable def f1 : Fn := ⟨[0, 12],
  [
    .setT [3, 13] (.tup [.bytes0, .list []]),
    .forT (.many [6, 7]) (.var 0)
      [
        .ite (.cmp2 (.var 6) .le (.var 12) .lt (.bin .add (.var 6) (.bif .len [.var 7])))
          [
            .set 3 (.cut (.var 7) (some (.bin .sub (.var 12) (.var 6))) none)]
          [
            .ite (.cmp (.var 6) .gt (.var 12))
              [
                .exp (.met .append (.var 13) [.tup [.var 6, .var 7]])]
              []]],
    .ret (.tup [.var 3, .var 13])]⟩
/-- highest_of -/
noncomputable def f2 : Fn := ⟨[0],
  [
    .ret (.ife (.cmp (.bif .len [.var 0]) .eq (.int 0)) (.int 0) (.bin .add (.idx (.idx (.var 0) (.neg1)) (.int 0)) (.bif .len [.idx (.idx (.var 0) (.neg1)) (.int 1)])))]⟩
/-- covered -/
noncomputable def f3 : Fn := ⟨[0],
  [
    .ret (.comp (.tup [.var 6, .bin .add (.var 6) (.bif .len [.var 7])]) (.many [6, 7]) (.var 0) none [])]⟩
/-- octet_at -/
noncomputable def f4 : Fn := ⟨[0, 12],
  [
    .forT (.many [6, 7]) (.var 0)
      [
        .ite (.cmp2 (.var 6) .le (.var 12) .lt (.bin .add (.var 6) (.bif .len [.var 7])))
          [
            .ret (.idx (.var 7) (.bin .sub (.var 12) (.var 6)))]
          []],
    .ret (.none)]⟩
/-- agrees -/
noncomputable def f5 : Fn := ⟨[0, 1, 2],
  [
    .forT (.many [6, 7]) (.var 0)
      [
        .setT [14, 15] (.tup [.bif .max [.var 6, .var 1], .bif .min [.bin .add (.var 6) (.bif .len [.var 7]), .bin .add (.var 1) (.bif .len [.var 2])]]),
        .ite (.and (.cmp (.var 14) .lt (.var 15)) (.cmp (.cut (.var 7) (some (.bin .sub (.var 14) (.var 6))) (some (.bin .sub (.var 15) (.var 6)))) .ne (.cut (.var 2) (some (.bin .sub (.var 14) (.var 1))) (some (.bin .sub (.var 15) (.var 1))))))
          [
            .ret (.bool false)]
          []],
    .ret (.bool true)]⟩
/-- add_span -/
noncomputable def f6 : Fn := ⟨[16, 14, 15],
  [
    .ite (.cmp (.var 14) .ge (.var 15))
      [
        .ret (.bif .list [.var 16])]
      [],
    .setT [3, 17] (.tup [.list [], .bool false]),
    .forT (.many [18, 19]) (.var 16)
      [
        .ite (.cmp (.var 19) .lt (.var 14))
          [
            .exp (.met .append (.var 3) [.tup [.var 18, .var 19]])]
          [
            .ite (.cmp (.var 15) .lt (.var 18))
              [
                .ite (.not (.var 17))
                  [
                    .exp (.met .append (.var 3) [.tup [.var 14, .var 15]]),
                    .set 17 (.bool true)]
                  [],
                .exp (.met .append (.var 3) [.tup [.var 18, .var 19]])]
              [
                .setT [14, 15] (.tup [.bif .min [.var 14, .var 18], .bif .max [.var 15, .var 19]])]]],
    .ret (.ife (.var 17) (.var 3) (.bin .add (.var 3) (.list [.tup [.var 14, .var 15]])))]⟩
/-- cut_span -/
noncomputable def f7 : Fn := ⟨[16, 14, 15],
  [
    .set 3 (.list []),
    .forT (.many [18, 19]) (.var 16)
      [
        .ite (.cmp (.var 18) .lt (.bif .min [.var 19, .var 14]))
          [
            .exp (.met .append (.var 3) [.tup [.var 18, .bif .min [.var 19, .var 14]]])]
          [],
        .ite (.cmp (.bif .max [.var 18, .var 15]) .lt (.var 19))
          [
            .exp (.met .append (.var 3) [.tup [.bif .max [.var 18, .var 15], .var 19]])]
          []],
    .ret (.ife (.cmp (.var 14) .lt (.var 15)) (.var 3) (.bif .list [.var 16]))]⟩
/-- has_span -/
noncomputable def f8 : Fn := ⟨[16, 14, 15],
  [
    .ite (.cmp (.var 14) .ge (.var 15))
      [
        .ret (.bool true)]
      [],
    .forT (.many [18, 19]) (.var 16)
      [
        .ite (.and (.cmp (.var 18) .le (.var 14)) (.cmp (.var 15) .le (.var 19)))
          [
            .ret (.bool true)]
          []],
    .ret (.bool false)]⟩
/-- first_span -/
noncomputable def f9 : Fn := ⟨[16, 20],
  [
    .ite (.or (.cmp (.bif .len [.var 16]) .eq (.int 0)) (.cmp (.var 20) .le (.int 0)))
      [
        .ret (.none)]
      [],
    .setT [14, 15] (.idx (.var 16) (.int 0)),
    .ret (.tup [.var 14, .bif .min [.var 15, .bin .add (.var 14) (.var 20)]])]⟩
/-- span_count -/
noncomputable def f10 : Fn := ⟨[16],
  [
    .ret (.bif .sum [.comp (.bin .sub (.var 15) (.var 14)) (.many [14, 15]) (.var 16) none []])]⟩
/-- without_spans -/
noncomputable def f11 : Fn := ⟨[16, 21],
  [
    .set 3 (.bif .list [.var 16]),
    .forT (.many [14, 15]) (.var 21)
      [
        .set 3 (.call 7 [.var 3, .var 14, .var 15])],
    .ret (.var 3)]⟩
/-- law_box -/
noncomputable def f12 : Fn := ⟨[22, 23],
  [
    .forT (.one 18) (.cut (.var 22) none (some (.int 40)))
      [
        .set 23 (.bin .mod (.bin .add (.bin .mul (.var 23) (.int 31)) (.var 18)) (.int 2147483647))],
    .ret (.list [.bif .list [.cut (.var 22) none (some (.int 40))], .var 23])]⟩
/-- law_take -/
noncomputable def f13 : Fn := ⟨[24, 25],
  [
    .ite (.cmp (.bif .len [.idx (.var 24) (.int 0)]) .gt (.int 0))
      [
        .ret (.bin .mod (.met .pop (.idx (.var 24) (.int 0)) [.int 0]) (.var 25))]
      [],
    .setI (.var 24) (.int 1) (.bin .mod (.bin .add (.bin .mul (.idx (.var 24) (.int 1)) (.int 48271)) (.int 11)) (.int 2147483647)),
    .ret (.bin .mod (.bin .fdiv (.idx (.var 24) (.int 1)) (.int 97)) (.var 25))]⟩
/-- law_rows -/
noncomputable def f14 : Fn := ⟨[26],
  [
    .set 3 (.list []),
    .forT (.one 12) (.bif .sorted [.var 26])
      [
        .ite (.and (.cmp (.var 3) .ne (.list [])) (.cmp (.bin .add (.idx (.idx (.var 3) (.neg1)) (.int 0)) (.bif .len [.idx (.idx (.var 3) (.neg1)) (.int 1)])) .eq (.var 12)))
          [
            .setI (.var 3) (.neg1) (.tup [.idx (.idx (.var 3) (.neg1)) (.int 0), .bin .add (.idx (.idx (.var 3) (.neg1)) (.int 1)) (.bif .bytes [.list [.idx (.var 26) (.var 12)]])])]
          [
            .exp (.met .append (.var 3) [.tup [.var 12, .bif .bytes [.list [.idx (.var 26) (.var 12)]]]])]],
    .ret (.var 3)]⟩
/-- law_pairs -/
noncomputable def f15 : Fn := ⟨[26],
  [
    .set 3 (.list []),
    .forT (.one 12) (.bif .sorted [.var 26])
      [
        .ite (.and (.cmp (.var 3) .ne (.list [])) (.cmp (.idx (.idx (.var 3) (.neg1)) (.int 1)) .eq (.var 12)))
          [
            .setI (.var 3) (.neg1) (.tup [.idx (.idx (.var 3) (.neg1)) (.int 0), .bin .add (.var 12) (.int 1)])]
          [
            .exp (.met .append (.var 3) [.tup [.var 12, .bin .add (.var 12) (.int 1)]])]],
    .ret (.var 3)]⟩
/-- law_pieces_right -/
noncomputable def f16 : Fn := ⟨[24],
  [
    .setT [0, 26] (.tup [.list [], .dict0]),
    .forT (.one 27) (.range [.bin .add (.int 3) (.call 13 [.var 24, .int 5])])
      [
        .setT [1, 2] (.tup [.call 13 [.var 24, .int 14], .bif .bytes [.comp (.bin .add (.int 97) (.call 13 [.var 24, .int 4])) (.one 28) (.range [.call 13 [.var 24, .int 5]]) none [24]]]),
        .set 29 (.cmp (.comp (.int 1) (.many [12, 30]) (.enum (.var 2)) (some (.cmp (.met .get (.var 26) [.bin .add (.var 1) (.var 12), .var 30]) .ne (.var 30))) [26, 1]) .eq (.list [])),
        .ite (.cmp (.call 5 [.var 0, .var 1, .var 2]) .ne (.var 29))
          [
            .ret (.bool false)]
          [],
        .setT [10, 31] (.tup [.bif .list [.var 0], .call 0 [.var 0, .var 1, .var 2]]),
        .forT (.many [12, 30]) (.enum (.var 2))
          [
            .ite (.cmp (.bin .add (.var 1) (.var 12)) .notin (.var 26))
              [
                .setI (.var 26) (.bin .add (.var 1) (.var 12)) (.var 30)]
              []],
        .ite (.or (.cmp (.var 0) .ne (.var 10)) (.cmp (.var 31) .ne (.call 14 [.var 26])))
          [
            .ret (.bool false)]
          [],
        .set 0 (.var 31)],
    .ite (.or (.cmp (.call 3 [.var 0]) .ne (.call 15 [.var 26])) (.cmp (.call 2 [.var 0]) .ne (.bif .max [.bin .add (.comp (.bin .add (.var 12) (.int 1)) (.one 12) (.var 26) none []) (.list [.int 0])])))
      [
        .ret (.bool false)]
      [],
    .set 32 (.call 13 [.var 24, .int 18]),
    .ite (.cmp (.call 4 [.var 0, .var 32]) .ne (.met .get (.var 26) [.var 32]))
      [
        .ret (.bool false)]
      [],
    .set 33 (.int 0),
    .whl (.cmp (.bin .add (.var 32) (.var 33)) .isin (.var 26))
      [
        .set 33 (.bin .add (.var 33) (.int 1))],
    .setT [3, 13] (.call 1 [.var 0, .var 32]),
    .set 34 (.bif .dict [.comp (.tup [.var 12, .idx (.var 26) (.var 12)]) (.one 12) (.var 26) (some (.cmp (.var 12) .ge (.bin .add (.var 32) (.var 33)))) [26, 32, 33]]),
    .ret (.and (.cmp (.var 3) .eq (.bif .bytes [.comp (.idx (.var 26) (.var 12)) (.one 12) (.range [.var 32, .bin .add (.var 32) (.var 33)]) none [26]])) (.cmp (.var 13) .eq (.call 14 [.var 34])))]⟩
/-- law_spans_right -/
noncomputable def f17 : Fn := ⟨[24],
  [
    .setT [16, 26] (.tup [.list [], .dict0]),
    .forT (.one 27) (.range [.bin .add (.int 3) (.call 13 [.var 24, .int 6])])
      [
        .setT [14, 17] (.tup [.call 13 [.var 24, .int 20], .cmp (.call 13 [.var 24, .int 3]) .gt (.int 0)]),
        .set 15 (.bin .add (.var 14) (.call 13 [.var 24, .int 7])),
        .set 16 (.ife (.var 17) (.call 6 [.var 16, .var 14, .var 15]) (.call 7 [.var 16, .var 14, .var 15])),
        .forT (.one 12) (.range [.var 14, .var 15])
          [
            .ite (.var 17)
              [
                .setI (.var 26) (.var 12) (.bool true)]
              [
                .exp (.met .pop (.var 26) [.var 12, .none])]],
        .ite (.or (.cmp (.var 16) .ne (.call 15 [.var 26])) (.cmp (.call 10 [.var 16]) .ne (.bif .len [.var 26])))
          [
            .ret (.bool false)]
          []],
    .setT [14, 20] (.tup [.call 13 [.var 24, .int 22], .call 13 [.var 24, .int 6]]),
    .set 15 (.bin .add (.var 14) (.call 13 [.var 24, .int 6])),
    .ite (.cmp (.call 8 [.var 16, .var 14, .var 15]) .ne (.cmp (.comp (.var 12) (.one 12) (.range [.var 14, .var 15]) (some (.cmp (.var 12) .notin (.var 26))) [26]) .eq (.list [])))
      [
        .ret (.bool false)]
      [],
    .set 35 (.ife (.or (.cmp (.var 16) .eq (.list [])) (.cmp (.var 20) .eq (.int 0))) (.none) (.tup [.idx (.idx (.var 16) (.int 0)) (.int 0), .bif .min [.idx (.idx (.var 16) (.int 0)) (.int 1), .bin .add (.idx (.idx (.var 16) (.int 0)) (.int 0)) (.var 20)]])),
    .ite (.cmp (.call 9 [.var 16, .var 20]) .ne (.var 35))
      [
        .ret (.bool false)]
      [],
    .set 13 (.bif .dict [.comp (.tup [.var 12, .bool true]) (.one 12) (.var 26) (some (.and (.not (.cmp2 (.var 14) .le (.var 12) .lt (.var 15))) (.cmp (.bin .mod (.var 12) (.int 5)) .ne (.int 4)))) [14, 15]]),
    .set 21 (.bin .add (.comp (.tup [.var 12, .bin .add (.var 12) (.int 1)]) (.one 12) (.range [.int 4, .int 30, .int 5]) none []) (.ife (.cmp (.var 14) .lt (.var 15)) (.list [.tup [.var 14, .var 15]]) (.list []))),
    .ret (.cmp (.call 11 [.var 16, .var 21]) .eq (.call 15 [.var 13]))]⟩
/-- law -/
noncomputable def f18 : Fn := ⟨[22],
  [
    .set 24 (.call 12 [.var 22, .int 71]),
    .ret (.and (.call 16 [.var 24]) (.call 17 [.var 24]))]⟩
noncomputable def fns : List Fn := [f0, f1, f2, f3, f4, f5, f6, f7, f8, f9, f10, f11, f12, f13, f14, f15, f16, f17, f18]
mutual
noncomputable def ev : Nat → En → X → St → Option (AV × St)
  | 0, _, _, _ => none
  | n + 1, ρ, e, σ => match e with
    | .var x => (ρ x).bind fun v => some (v, σ)
    | .int i => some (.int i, σ)
    | .none => some (.none, σ)
    | .bool b => some (.bool b, σ)
    | .bytes0 => some (.bytes [], σ)
    | .neg1 => some (.int (-1), σ)
    | .not e => (tst (ev n ρ) e σ).bind fun p => some (.bool (!p.1), p.2)
    | .bin op l r => (ev n ρ l σ).bind fun p => (ev n ρ r p.2).bind fun q => abin op p.1 q.1 q.2
    | .and l r => (ev n ρ l σ).bind fun p => (tru p.1).bind fun b => if b then ev n ρ r p.2 else some (p.1, p.2)
    | .or l r => (ev n ρ l σ).bind fun p => (tru p.1).bind fun b => if b then some (p.1, p.2) else ev n ρ r p.2
    | .ife c a b => (tst (ev n ρ) c σ).bind fun p => if p.1 then ev n ρ a p.2 else ev n ρ b p.2
    | .cmp l op r => (ev n ρ l σ).bind fun p => (ev n ρ r p.2).bind fun q => (acmp op p.1 q.1 q.2).bind fun b => some (.bool b, q.2)
    | .cmp2 l o1 m o2 r => (ev n ρ l σ).bind fun p => (ev n ρ m p.2).bind fun q => (acmp o1 p.1 q.1 q.2).bind fun b =>
        if b then (ev n ρ r q.2).bind fun t => (acmp o2 q.1 t.1 t.2).bind fun c => some (.bool c, t.2) else some (.bool false, q.2)
    | .tup es => (evs (ev n ρ) es σ).bind fun p => (atomsOf p.1).bind fun l => if l.length ≤ lim then some (.tup l, p.2) else none
    | .list es => (evs (ev n ρ) es σ).bind fun p => newL p.1 p.2
    | .dict0 => some (.loc σ.next, σ.alloc (.dict []))
    | .idx e i => (ev n ρ e σ).bind fun p => (ev n ρ i p.2).bind fun q => (aidx p.1 q.1 q.2).bind fun v => some (v, q.2)
    | .cut e lo hi => (ev n ρ e σ).bind fun p => (evo (ev n ρ) lo p.2).bind fun q => (evo (ev n ρ) hi q.2).bind fun t => acut p.1 q.1 t.1 t.2
    | .call f args => (evs (ev n ρ) args σ).bind fun p => (fns[f]?).bind fun d => (bindP d.ps p.1 noEn).bind fun ρ₁ =>
        (exs (ex n) d.body ρ₁ p.2).bind fun q => some ((match q.1 with | .ret v => v | .next => .none), q.2.2)
    | .bif f args => (evs (ev n ρ) args σ).bind fun p => abif f p.1 p.2
    | .met m o args => (ev n ρ o σ).bind fun p => (kindOf p.1 p.2).bind fun k => (evs (ev n ρ) args p.2).bind fun q => if kindOf p.1 q.2 = some k then amet m p.1 q.1 q.2 else none
    | .range _ => none
    | .enum _ => none
    | .comp el tg s c free => (itemsOf (ev n ρ) s σ).bind fun p =>
        (compl tg p.2.1 p.2.2 (tsto (ev n) c) (fun ρ' => ev n ρ' el) p.1 (restr free ρ) p.2.2).bind fun q => newL q.1 q.2
noncomputable def ex : Nat → Y → En → St → Option (Fl × En × St)
  | 0, _, _, _ => none
  | n + 1, y, ρ, σ => match y with
    | .set x e => (ev n ρ e σ).bind fun p => some (.next, upd ρ x (some p.1), p.2)
    | .setT xs e => (ev n ρ e σ).bind fun p => (bindT (.many xs) p.1 ρ).bind fun ρ₁ => some (.next, ρ₁, p.2)
    | .setI o i e => (ev n ρ e σ).bind fun p => (ev n ρ o p.2).bind fun q => (ev n ρ i q.2).bind fun t => (aset q.1 t.1 p.1 t.2).bind fun σ₁ => some (.next, ρ, σ₁)
    | .exp e => (ev n ρ e σ).bind fun p => some (.next, ρ, p.2)
    | .ite c a b => (tst (ev n ρ) c σ).bind fun p => if p.1 then exs (ex n) a ρ p.2 else exs (ex n) b ρ p.2
    | .forT tg s b => (itemsOf (ev n ρ) s σ).bind fun p => forl tg p.2.1 p.2.2 (exs (ex n) b) p.1 ρ p.2.2
    | .whl c b => whll (fun ρ' => tst (ev n ρ') c) (exs (ex n) b) turns ρ σ
    | .ret e => (ev n ρ e σ).bind fun p => some (.ret p.1, ρ, p.2)
end

noncomputable def runF (n : Nat) (f : Nat) (vs : List AV) (σ : St) : Option (AV × St) := (fns[f]?).bind fun d => (bindP d.ps vs noEn).bind fun ρ₁ =>
  (exs (ex n) d.body ρ₁ σ).bind fun q => some ((match q.1 with | .ret v => v | .next => .none), q.2.2)
end Mine

/-! Rel -/
namespace Mine
open PySem PySem.W PyProof.Rows

inductive All2 {α β : Type} (R : α → β → Prop) : List α → List β → Prop
  | nil : All2 R [] []
  | cons {x : α} {y : β} {xs : List α} {ys : List β} : R x y → All2 R xs ys → All2 R (x :: xs) (y :: ys)
section
variable {α β : Type} {R S : α → β → Prop}
theorem All2.mono {xs : List α} {ys : List β} (h : All2 R xs ys) (f : ∀ x y, R x y → S x y) : All2 S xs ys := by
  induction h with
  | nil => exact .nil
  | cons hx _ ih => exact .cons (f _ _ hx) ih
theorem All2.length {xs : List α} {ys : List β} (h : All2 R xs ys) : xs.length = ys.length := by
  induction h with
  | nil => rfl
  | cons _ _ ih => simp [ih]
theorem All2.get {xs : List α} {ys : List β} (h : All2 R xs ys) : ∀ (i : Nat) (y : β), ys[i]? = some y → ∃ x, xs[i]? = some x ∧ R x y := by
  induction h with
  | nil => intro i y h; simp at h
  | cons hx _ ih =>
    intro i y h
    cases i with
    | zero => simp at h; subst h; exact ⟨_, by simp, hx⟩
    | succ i => simp at h; refine el_EA (ih i y h) fun x a b => ?_; exact ⟨x, by simpa using a, b⟩
theorem All2.append {xs xs' : List α} {ys ys' : List β} (h : All2 R xs ys) (h' : All2 R xs' ys') : All2 R (xs ++ xs') (ys ++ ys') := by
  induction h with
  | nil => exact h'
  | cons hx _ ih => exact .cons hx ih
theorem All2.take {xs : List α} {ys : List β} (h : All2 R xs ys) : ∀ n, All2 R (xs.take n) (ys.take n) := by
  induction h with
  | nil => intro n; simp; exact .nil
  | cons hx _ ih => intro n; cases n with
    | zero => exact .nil
    | succ n => exact .cons hx (ih n)
theorem All2.drop {xs : List α} {ys : List β} (h : All2 R xs ys) : ∀ n, All2 R (xs.drop n) (ys.drop n) := by
  induction h with
  | nil => intro n; simp; exact .nil
  | cons hx h' ih => intro n; cases n with
    | zero => exact .cons hx h'
    | succ n => exact ih n
theorem All2.set {xs : List α} {ys : List β} (h : All2 R xs ys) {x : α} {y : β} (hxy : R x y) : ∀ n, All2 R (xs.set n x) (ys.set n y) := by
  induction h with
  | nil => intro n; exact .nil
  | cons hx h' ih => intro n; cases n with
    | zero => exact .cons hxy h'
    | succ n => exact .cons hx (ih n)
theorem All2.map2 {γ δ : Type} {T : γ → δ → Prop} {f : α → γ} {g : β → δ} {xs : List α} {ys : List β} (h : All2 R xs ys) (k : ∀ x y, R x y → T (f x) (g y)) : All2 T (xs.map f) (ys.map g) := by
  induction h with
  | nil => exact .nil
  | cons hx _ ih => exact .cons (k _ _ hx) ih
end

noncomputable def vn (x : Nat) : Str := Str.ofString (vnames.getD x "")
noncomputable def fnm (f : Nat) : Str := Str.ofString (fnames.getD f "")

noncomputable def RepA (as : Nat → Addr) (N : Nat) (u : Value) : At → Prop
  | .none => u = .none
  | .bool b => u = .bool b
  | .int i => ∃ t, u = .int i t
  | .bytes b => b.length ≤ lim ∧ ∃ t, u = .bytes b.toArray t
  | .loc l => l < N ∧ u = .ref (as l)
noncomputable def TupAt (h : Heap) (a : Addr) (vs : List Value) : Prop := ∃ n, h.get? a = some { cls := .type "tuple", data := .seq vs.toArray n }
noncomputable def Rep (h : Heap) (as : Nat → Addr) (N : Nat) (u : Value) : AV → Prop
  | .a x => RepA as N u x
  | .tup l => ∃ a vs, u = .ref a ∧ TupAt h a vs ∧ All2 (RepA as N) vs l ∧ l.length ≤ lim
section
variable (prog : Program) (w : World)
noncomputable def ORep (h : Heap) (as : Nat → Addr) (N : Nat) (a : Addr) : AD → Prop
  | .list xs => xs.length ≤ lim ∧ ∃ vs : List Value, h.PlainList a vs.toArray ∧ All2 (Rep h as N) vs xs
  | .dict kvs => kvs.length ≤ lim ∧ ∃ ws : List (Int × Value), h.DictOf (intKind prog w) a ws ∧ All2 (fun p q => p.1 = q.1 ∧ Rep h as N p.2 q.2) ws kvs

structure SRel (h₀ h : Heap) (as : Nat → Addr) (σ : St) : Prop where
  base : ∀ b o, h₀.get? b = some o → h.get? b = some o
  live : ∀ l, l < σ.next → ∃ ob, σ.obj l = some ob ∧ ORep prog w h as σ.next (as l) ob.d
  dead : ∀ l, σ.next ≤ l → σ.obj l = none
  inj : ∀ l l', l < σ.next → l' < σ.next → as l = as l' → l = l'
  apart : ∀ l, l < σ.next → h₀.get? (as l) = none
  high : ∀ l, l < σ.next → (as l == sysModules) = false
  low : ∃ o, h₀.get? cStatics = some o
end
theorem fresh_none {h : Heap} {a : Addr} (ha : h.objs.size ≤ a) : h.get? a = none := by
  cases hq : h.get? a with
  | none => rfl
  | some o => exact absurd (Heap.lt_size hq) (Nat.not_lt.mpr ha)

/-- from one state to a later one; W: the addresses that the frame may write, beside the store's -/
structure StepW (W : Addr → Prop) (s : Shared) (as : Nat → Addr) (σ : St) (s' : Shared) (as' : Nat → Addr) (σ' : St) : Prop where
  keep : ∀ b o, s.heap.get? b = some o → ¬ W b → (∀ l, l < σ.next → b ≠ as l) → s'.heap.get? b = some o
  stay : ∀ b o, W b → s.heap.get? b = some o → ∃ o', s'.heap.get? b = some o'
  le : σ.next ≤ σ'.next
  ext : ∀ l, l < σ.next → as' l = as l
  mono : ∀ l o, l < σ.next → σ.obj l = some o → ∃ o', σ'.obj l = some o' ∧ o.v ≤ o'.v ∧ o'.d.isL = o.d.isL ∧ (o'.v = o.v → o' = o ∧ s'.heap.get? (as l) = s.heap.get? (as l))
  fresh : ∀ l, σ.next ≤ l → l < σ'.next → s.heap.get? (as' l) = none
  gens : s'.gens = s.gens
  os : s'.os = s.os
noncomputable abbrev NoW : Addr → Prop := fun _ => False
noncomputable abbrev Step := StepW NoW

section
variable {W : Addr → Prop}
variable {prog : Program} {w : World} {h₀ h h' : Heap} {as as' as'' : Nat → Addr} {σ σ' σ'' : St} {s s' s'' : Shared} {u : Value} {v : AV}

theorem RepA.ext {N N' : Nat} {x : At} (r : RepA as N u x) (hle : N ≤ N') (he : ∀ l, l < N → as' l = as l) : RepA as' N' u x := by
  cases x with
  | loc l => refine el_A r fun a b => ?_; clear r; exact ⟨Nat.lt_of_lt_of_le a hle, by rw [b, he l a]⟩
  | _ => exact r

theorem ORep.getSome {N : Nat} {a : Addr} {d : AD} (r : ORep prog w h as N a d) : ∃ o, h.get? a = some o ∧ (o.cls = .type "list" ∨ o.cls = .type "dict") := by
  cases d with
  | list xs => refine el_AEA r fun _ vs hq1 _ => ?_; clear r; refine el_E hq1 fun n e => ?_; exact ⟨_, e, .inl rfl⟩
  | dict kvs => refine el_AEA r fun _ ws hq2 _ => ?_; clear r; refine el_EEEAA hq2 fun o es ep e hc _ => ?_; exact ⟨_, e, .inr hc.1⟩

theorem SRel.tupApart (S : SRel prog w h₀ h as σ) {a : Addr} {vs : List Value} (t : TupAt h a vs) : ∀ l, l < σ.next → a ≠ as l := by
  rintro l hl rfl
  refine el_E t fun n e => ?_; clear t
  refine el_EA (S.live l hl) fun ob _ r => ?_
  refine el_EA r.getSome fun o e' hc => ?_
  rw [e] at e'; cases e'
  rcases hc with hc | hc <;> simp at hc

theorem Rep.keeps {N N' : Nat} (r : Rep h as N u v) (hle : N ≤ N') (he : ∀ l, l < N → as' l = as l) (hk : ∀ a vs, u = .ref a → TupAt h a vs → TupAt h' a vs) : Rep h' as' N' u v := by
  cases v with
  | a x => exact RepA.ext r hle he
  | tup l =>
    refine el_EEAAA r fun a vs hq3 t q z => ?_; clear r; subst hq3
    exact ⟨a, vs, rfl, hk a vs rfl t, q.mono fun _ _ r => r.ext hle he, z⟩

theorem Rep.step (r : Rep s.heap as σ.next u v) (S : SRel prog w h₀ s.heap as σ) (T : Step s as σ s' as' σ') : Rep s'.heap as' σ'.next u v :=
  r.keeps T.le T.ext fun a vs _ t => by
    refine el_E (id t) fun n e => ?_
    exact ⟨n, T.keep a _ e (fun f => f) (S.tupApart t)⟩

theorem StepW.refl : StepW W s as σ s as σ where
  keep := fun _ _ e _ _ => e
  stay := fun _ o _ e => ⟨o, e⟩
  le := Nat.le_refl _
  ext := fun _ _ => rfl
  mono := fun l o _ e => ⟨o, e, Nat.le_refl _, rfl, fun _ => ⟨rfl, rfl⟩⟩
  fresh := fun l a b => absurd b (Nat.not_lt.mpr a)
  gens := rfl
  os := rfl

theorem StepW.trans (S : SRel prog w h₀ s.heap as σ) (S' : SRel prog w h₀ s'.heap as' σ') (T : StepW W s as σ s' as' σ') (T' : StepW W s' as' σ' s'' as'' σ'') : StepW W s as σ s'' as'' σ'' where
  stay := fun b o hw e => by
    refine el_E (T.stay b o hw e) fun o' e' => ?_
    exact T'.stay b o' hw e'
  keep := fun b o e hw hb => T'.keep b o (T.keep b o e hw hb) hw fun l hl hbl => by
    rcases Nat.lt_or_ge l σ.next with h | h
    · exact hb l h (by rw [hbl, T.ext l h])
    · rw [hbl, T.fresh l h hl] at e; cases e
  le := Nat.le_trans T.le T'.le
  ext := fun l hl => by rw [T'.ext l (Nat.lt_of_lt_of_le hl T.le), T.ext l hl]
  mono := fun l o hl e => by
    refine el_EAAA (T.mono l o hl e) fun o' e' h1 k1 h2 => ?_
    refine el_EAAA (T'.mono l o' (Nat.lt_of_lt_of_le hl T.le) e') fun o'' e'' h3 k3 h4 => ?_
    refine ⟨o'', e'', Nat.le_trans h1 h3, k3.trans k1, fun hv => ?_⟩
    refine el_A (h2 (by omega)) fun a1 a2 => ?_
    refine el_A (h4 (by omega)) fun b1 b2 => ?_
    exact ⟨by rw [b1, a1], by rw [← T.ext l hl, b2, T.ext l hl, a2]⟩
  fresh := fun l a b => by
    rcases Nat.lt_or_ge l σ'.next with h | h
    · rw [T'.ext l h]; exact T.fresh l a h
    · have f := T'.fresh l h b
      cases e : s.heap.get? (as'' l) with
      | none => rfl
      | some o =>
        exfalso
        by_cases hb : ∃ k, k < σ.next ∧ as'' l = as k
        · refine el_EA hb fun k hk hk' => ?_; clear hb
          refine el_EA (S'.live k (Nat.lt_of_lt_of_le hk T.le)) fun ob _ r => ?_
          refine el_EA r.getSome fun o' ho' _ => ?_
          rw [hk', ← T.ext k hk, ho'] at f
          cases f
        · by_cases hw : W (as'' l)
          · refine el_E (T.stay _ _ hw e) fun o' e' => ?_
            rw [e'] at f; cases f
          · have := T.keep _ _ e hw fun k hk hbk => hb ⟨k, hk, hbk⟩
            rw [this] at f; cases f
  gens := T'.gens.trans T.gens
  os := T'.os.trans T.os

/-- an old object is below the new heap's size -/
theorem StepW.below (S' : SRel prog w h₀ s'.heap as' σ') (T : StepW W s as σ s' as' σ') {b : Addr} {o : Obj} (e : s.heap.get? b = some o) : ∃ o', s'.heap.get? b = some o' := by
  by_cases hb : ∃ l, l < σ.next ∧ b = as l
  · refine el_EA hb fun l hl hq4 => ?_; clear hb; subst hq4
    refine el_EA (S'.live l (Nat.lt_of_lt_of_le hl T.le)) fun ob _ r => ?_
    refine el_EA r.getSome fun o' ho' _ => ?_
    rw [T.ext l hl] at ho'
    exact ⟨o', ho'⟩
  · by_cases hw : W b
    · exact T.stay b o hw e
    · exact ⟨o, T.keep b o e hw fun l hl h => hb ⟨l, hl, h⟩⟩

theorem ORep.keeps {N N' : Nat} {a : Addr} {d : AD} (r : ORep prog w h as N a d) (hle : N ≤ N') (he : ∀ l, l < N → as' l = as l) (ht : ∀ a vs, TupAt h a vs → TupAt h' a vs)
    (ha : ∀ o, h.get? a = some o → h'.get? a = some o) : ORep prog w h' as' N' a d := by
  cases d with
  | list xs =>
    refine el_AEA r fun z vs p q => ?_; clear r
    exact ⟨z, vs, p.at ha, q.mono fun _ _ r => r.keeps hle he fun a vs _ => ht a vs⟩
  | dict kvs =>
    refine el_AEA r fun z ws hq5 q => ?_; clear r; refine el_EEEA hq5 fun o es ep e r => ?_
    exact ⟨z, ws, ⟨o, es, ep, ha _ e, r⟩, q.mono fun _ _ r => ⟨r.1, r.2.keeps hle he fun a vs _ => ht a vs⟩⟩

/-- everything that stood still stands -/
noncomputable def Kept (h h' : Heap) : Prop := ∀ b o, h.get? b = some o → h'.get? b = some o
theorem Kept.tup (k : Kept h h') {a : Addr} {vs : List Value} (t : TupAt h a vs) : TupAt h' a vs := let ⟨n, e⟩ := t; ⟨n, k _ _ e⟩
theorem Kept.refl (h : Heap) : Kept h h := fun _ _ e => e
theorem Kept.trans {h₁ h₂ h₃ : Heap} (a : Kept h₁ h₂) (b : Kept h₂ h₃) : Kept h₁ h₃ := fun x o e => b x o (a x o e)
theorem Kept.push (h : Heap) (o : Obj) : Kept h (h.push o) := fun _ _ e => Heap.get?_push_of_some o e

theorem SRel.kept (S : SRel prog w h₀ h as σ) (k : Kept h h') : SRel prog w h₀ h' as σ where
  base := fun b o e => k b o (S.base b o e)
  live := fun l hl => by
    refine el_EA (S.live l hl) fun ob e r => ?_
    exact ⟨ob, e, r.keeps (Nat.le_refl _) (fun _ _ => rfl) (fun _ _ t => k.tup t) fun o e => k _ o e⟩
  dead := S.dead
  inj := S.inj
  apart := S.apart
  high := S.high
  low := S.low
theorem StepW.kept (S : SRel prog w h₀ s.heap as σ) (k : Kept s.heap h') (tk : Tok) : StepW W s as σ { s with heap := h', toks := tk } as σ where
  keep := fun b o e _ _ => k b o e
  stay := fun b o _ e => ⟨o, k b o e⟩
  le := Nat.le_refl _
  ext := fun _ _ => rfl
  mono := fun l o hl e => ⟨o, e, Nat.le_refl _, rfl, fun _ => ⟨rfl, by
    refine el_EA (S.live l hl) fun ob e r => ?_
    refine el_EA r.getSome fun o' ho' _ => ?_
    exact (k _ _ ho').trans ho'.symm⟩⟩
  fresh := fun l a b => absurd b (Nat.not_lt.mpr a)
  gens := rfl
  os := rfl
theorem Rep.kept {N : Nat} (r : Rep h as N u v) (k : Kept h h') : Rep h' as N u v := r.keeps (Nat.le_refl _) (fun _ _ => rfl) fun _ _ _ t => k.tup t

/-- an address that no object of h has -/
noncomputable def New (h : Heap) (a : Addr) : Prop := ∃ h1, Kept h h1 ∧ h1.objs.size ≤ a
theorem New.of {a : Addr} (x : h.objs.size ≤ a) : New h a := ⟨h, Kept.refl h, x⟩
theorem New.none {a : Addr} (x : New h a) : h.get? a = none := by
  refine el_EA x fun h1 k hs => ?_; clear x
  cases e : h.get? a with
  | none => rfl
  | some o => exact absurd (Heap.lt_size (k _ _ e)) (Nat.not_lt.mpr hs)
theorem New.above {a b : Addr} {o : Obj} (x : New h a) (e : h.get? b = some o) : b < a := by
  refine el_EA x fun h1 k hs => ?_; clear x
  exact Nat.lt_of_lt_of_le (Heap.lt_size (k _ _ e)) hs

noncomputable def Post (prog : Program) (w : World) (h₀ : Heap) (s : Shared) (as : Nat → Addr) (σ : St) (r : AV) (σ' : St) : Value → Shared → Prop := fun u s' =>
  ∃ as', Step s as σ s' as' σ' ∧ SRel prog w h₀ s'.heap as' σ' ∧ Rep s'.heap as' σ'.next u r
/-- the state alone -/
noncomputable def PostS (prog : Program) (w : World) (h₀ : Heap) (s : Shared) (as : Nat → Addr) (σ : St) (σ' : St) : Shared → Prop := fun s' =>
  ∃ as', Step s as σ s' as' σ' ∧ SRel prog w h₀ s'.heap as' σ'

theorem Post.kept (S : SRel prog w h₀ s.heap as σ) (k : Kept s.heap h') (tk : Tok) (r : Rep h' as σ.next u v) : Post prog w h₀ s as σ v σ u { s with heap := h', toks := tk } :=
  ⟨as, StepW.kept S k tk, S.kept k, r⟩
theorem Post.toks (S : SRel prog w h₀ s.heap as σ) (tk : Tok) (r : Rep s.heap as σ.next u v) : Post prog w h₀ s as σ v σ u { s with toks := tk } :=
  Post.kept S (Kept.refl _) tk r
theorem Post.here (S : SRel prog w h₀ s.heap as σ) (r : Rep s.heap as σ.next u v) : Post prog w h₀ s as σ v σ u s := ⟨as, StepW.refl, S, r⟩

theorem upd_ne {α : Type} (f : Nat → α) {k x : Nat} (v : α) (h : x ≠ k) : upd f k v x = f x := if_neg h
theorem upd_eq {α : Type} (f : Nat → α) (k : Nat) (v : α) : upd f k v k = v := if_pos rfl

/-- a new list or dict, at a fresh address -/
theorem alloc_rel (S : SRel prog w h₀ s.heap as σ) (k : Kept s.heap h') (tk : Tok) {a : Addr} {d : AD} (hsz : New s.heap a) (r : ORep prog w h' (upd as σ.next a) (σ.next + 1) a d) :
    Step s as σ { s with heap := h', toks := tk } (upd as σ.next a) (σ.alloc d) ∧ SRel prog w h₀ h' (upd as σ.next a) (σ.alloc d) := by
  have hf : s.heap.get? a = none := hsz.none
  have hbig : (a == sysModules) = false := by
    refine el_E S.low fun o ho => ?_
    have h2 : (2 : Nat) < a := hsz.above (S.base _ _ ho)
    exact beq_eq_false_iff_ne.mpr (fun e => by subst e; exact absurd h2 (by decide))
  have old : ∀ l, l < σ.next → upd as σ.next a l = as l := fun l hl => upd_ne _ _ (Nat.ne_of_lt hl)
  have new : upd as σ.next a σ.next = a := upd_eq _ _ _
  have exist : ∀ l, l < σ.next → ∃ o, s.heap.get? (as l) = some o := fun l hl => by
    refine el_EA (S.live l hl) fun ob e r => ?_
    refine el_EA r.getSome fun o' ho' _ => ?_
    exact ⟨o', ho'⟩
  have ne : ∀ l, l < σ.next → as l ≠ a := fun l hl e => by
    refine el_E (exist l hl) fun o ho => ?_
    rw [e, hf] at ho; cases ho
  have obj : ∀ l, l < σ.next → (σ.alloc d).obj l = σ.obj l := fun l hl => upd_ne _ _ (Nat.ne_of_lt hl)
  refine ⟨⟨fun b o e _ _ => k b o e, fun b o _ e => ⟨o, k b o e⟩, Nat.le_succ _, old, fun l o hl e => ⟨o, (obj l hl).trans e, Nat.le_refl _, rfl, fun _ => ⟨rfl, ?_⟩⟩, fun l h1 h2 => ?_, rfl, rfl⟩, ⟨fun b o e => k b o (S.base b o e), fun l hl => ?_, fun l hl => ?_, fun l l' hl hl' e => ?_, fun l hl => ?_, fun l hl => ?_, S.low⟩⟩
  · refine el_E (exist l hl) fun o ho => ?_
    exact (k _ _ ho).trans ho.symm
  · have : l = σ.next := Nat.le_antisymm (Nat.le_of_lt_succ h2) h1
    subst this; rw [new]; exact hf
  · rcases Nat.lt_or_ge l σ.next with h | h
    · refine el_EA (S.live l h) fun ob e r => ?_
      refine ⟨ob, (obj l h).trans e, ?_⟩
      rw [old l h]
      exact r.keeps (Nat.le_succ _) old (fun _ _ t => k.tup t) fun o e => k _ o e
    · have : l = σ.next := Nat.le_antisymm (Nat.le_of_lt_succ hl) h
      subst this
      exact ⟨⟨0, d⟩, upd_eq _ _ _, by rw [new]; exact r⟩
  · have : l ≠ σ.next := Nat.ne_of_gt hl
    exact (upd_ne _ _ this).trans (S.dead l (Nat.le_of_lt hl))
  · rcases Nat.lt_or_ge l σ.next with h | h <;> rcases Nat.lt_or_ge l' σ.next with h' | h'
    · rw [old l h, old l' h'] at e; exact S.inj l l' h h' e
    · have q : l' = σ.next := Nat.le_antisymm (Nat.le_of_lt_succ hl') h'
      rw [old l h, q, new] at e; exact absurd e (ne l h)
    · have q : l = σ.next := Nat.le_antisymm (Nat.le_of_lt_succ hl) h
      rw [old l' h', q, new] at e; exact absurd e.symm (ne l' h')
    · exact (Nat.le_antisymm (Nat.le_of_lt_succ hl) h).trans (Nat.le_antisymm (Nat.le_of_lt_succ hl') h').symm
  · rcases Nat.lt_or_ge l σ.next with h | h
    · rw [old l h]; exact S.apart l h
    · have q : l = σ.next := Nat.le_antisymm (Nat.le_of_lt_succ hl) h
      rw [q, new]
      cases e : h₀.get? a with
      | none => rfl
      | some o => rw [S.base a o e] at hf; cases hf
  · rcases Nat.lt_or_ge l σ.next with h | h
    · rw [old l h]; exact S.high l h
    · have q : l = σ.next := Nat.le_antisymm (Nat.le_of_lt_succ hl) h
      rw [q, new]; exact hbig

theorem Post.list (S : SRel prog w h₀ s.heap as σ) (k : Kept s.heap h') (tk : Tok) {a : Addr} {xs : List AV} {vs : List Value} (hf : New s.heap a) (hl : h'.PlainList a vs.toArray)
    (hr : All2 (Rep s.heap as σ.next) vs xs) (hz : xs.length ≤ lim) : Post prog w h₀ s as σ (.loc σ.next) (σ.alloc (.list xs)) (.ref a) { s with heap := h', toks := tk } := by
  have A := alloc_rel S k tk (d := .list xs) hf ⟨hz, vs, hl, hr.mono fun _ _ r => r.keeps (Nat.le_succ _) (fun l hl => upd_ne _ _ (Nat.ne_of_lt hl)) fun _ _ _ t => k.tup t⟩
  exact ⟨_, A.1, A.2, ⟨Nat.lt_succ_self _, by rw [upd_eq]⟩⟩

theorem St.put_some {l : Nat} {d : AD} (h : σ.put l d = some σ') : ∃ o, σ.obj l = some o ∧ σ' = ⟨σ.next, upd σ.obj l (some ⟨o.v + 1, d⟩)⟩ := by
  unfold St.put at h
  cases e : σ.obj l with
  | none => rw [e] at h; cases h
  | some o => rw [e] at h; cases h; exact ⟨o, rfl, rfl⟩

/-- an object of the store is changed -/
theorem put_rel (S : SRel prog w h₀ s.heap as σ) {l : Nat} {d : AD} (hp : σ.put l d = some σ') (hl : l < σ.next) (hkd : ∀ d', σ.get l = some d' → d.isL = d'.isL) (tk : Tok) (hk : ∀ b o, b ≠ as l → s.heap.get? b = some o → h'.get? b = some o)
    (r : ORep prog w h' as σ.next (as l) d) : Step s as σ { s with heap := h', toks := tk } as σ' ∧ SRel prog w h₀ h' as σ' ∧ σ'.next = σ.next := by
  refine el_EA (St.put_some hp) fun o ho hq6 => ?_; subst hq6
  have tk' : ∀ a vs, TupAt s.heap a vs → TupAt h' a vs := fun a vs t => by
    refine el_E (id t) fun n e => ?_
    exact ⟨n, hk a _ (S.tupApart t l hl) e⟩
  refine ⟨⟨fun b o e _ hb => hk b o (hb l hl) e, fun b o f _ => f.elim, Nat.le_refl _, fun _ _ => rfl, fun k ob hk' e => ?_, fun k a b => absurd b (Nat.not_lt.mpr a), rfl, rfl⟩, ⟨fun b o e => hk b o ?_ (S.base b o e), fun k hk' => ?_, fun k hk' => ?_, S.inj, S.apart, S.high, S.low⟩, rfl⟩
  · by_cases hkl : k = l
    · subst hkl
      rw [ho] at e; cases e
      exact ⟨_, upd_eq _ _ _, Nat.le_succ _, hkd _ (by unfold St.get; rw [ho]; rfl), fun h => absurd h (Nat.succ_ne_self _)⟩
    · refine ⟨ob, (upd_ne _ _ hkl).trans e, Nat.le_refl _, rfl, fun _ => ⟨rfl, ?_⟩⟩
      refine el_EA (S.live k hk') fun ob' e' r' => ?_
      refine el_EA r'.getSome fun o' ho' _ => ?_
      exact (hk _ _ (fun h => hkl (S.inj _ _ hk' hl h)) ho').trans ho'.symm
  · rintro rfl
    rw [S.apart l hl] at e; cases e
  · by_cases hkl : k = l
    · subst hkl; exact ⟨_, upd_eq _ _ _, r⟩
    · refine el_EA (S.live k hk') fun ob' e' r' => ?_
      exact ⟨ob', (upd_ne _ _ hkl).trans e', r'.keeps (Nat.le_refl _) (fun _ _ => rfl) tk' fun o e => hk _ o (fun h => hkl (S.inj _ _ hk' hl h)) e⟩
  · have : k ≠ l := Nat.ne_of_gt (Nat.lt_of_lt_of_le hl hk')
    exact (upd_ne _ _ this).trans (S.dead k hk')

theorem SRel.get (S : SRel prog w h₀ h as σ) {l : Nat} {d : AD} (e : σ.get l = some d) : l < σ.next ∧ ORep prog w h as σ.next (as l) d := by
  unfold St.get at e
  cases ho : σ.obj l with
  | none => rw [ho] at e; cases e
  | some ob =>
    rw [ho] at e; cases e
    rcases Nat.lt_or_ge l σ.next with hl | hl
    · refine el_EA (S.live l hl) fun ob' e' r => ?_
      rw [ho] at e'; cases e'
      exact ⟨hl, r⟩
    · rw [S.dead l hl] at ho; cases ho
end
end Mine

/-! Ops1 -/
namespace Mine
open PySem PySem.W PyProof.Rows

structure AOk (A : Around) (n : Nat) : Prop where
  hd : A.handled = none
  dp : A.depth + n < 900
  un : A.units + 10 * n < 9000
theorem AOk.less {A : Around} {n m : Nat} (h : AOk A n) (hm : m ≤ n) : AOk A m := ⟨h.hd, by have := h.dp; omega, by have := h.un; omega⟩
theorem AOk.units {A : Around} {n : Nat} (h : AOk A n) : A.units < cLine := by have := h.un; rw [cLine_is]; omega
theorem AOk.units64 {A : Around} {n : Nat} (h : AOk A n) : A.units + 64 < cLine := by have := h.un; rw [cLine_is]; omega
theorem AOk.in1 {A : Around} {n : Nat} (h : AOk A (n + 1)) : AOk A.in1 n := ⟨h.hd, by have := h.dp; simp only [Around.in1_depth]; omega, by have := h.un; simp only [Around.in1_units]; omega⟩

noncomputable def bopOf : Bop → Operator
  | .add => .Add | .sub => .Sub | .mul => .Mult | .fdiv => .FloorDiv | .mod => .Mod
noncomputable def copOf : Cop → CmpOp
  | .eq => .Eq | .ne => .NotEq | .lt => .Lt | .le => .LtE | .gt => .Gt | .ge => .GtE | .isin => .In | .notin => .NotIn

section
variable {α : Type} {v w : AV} {r : α} {vs : List AV} {σ : St}
theorem nope {P : Prop} (e : (none : Option α) = some r) : P := nomatch e
theorem by_some {i : Int → Option α} {b : List UInt8 → Option α} {l : Nat → Option α} {t : List At → Option α} (e : v.by i b l t = some r) :
    (∃ k, v = .int k ∧ i k = some r) ∨ (∃ k, v = .bytes k ∧ b k = some r) ∨ (∃ k, v = .loc k ∧ l k = some r) ∨ (∃ k, v = .tup k ∧ t k = some r) := by
  cases v with
  | tup k => exact .inr (.inr (.inr ⟨k, rfl, e⟩))
  | a x => cases x with
    | int k => exact .inl ⟨k, rfl, e⟩
    | bytes k => exact .inr (.inl ⟨k, rfl, e⟩)
    | loc k => exact .inr (.inr (.inl ⟨k, rfl, e⟩))
    | none => exact nope e
    | bool _ => exact nope e
theorem by_int {i : Int → Option α} (e : v.by i no no no = some r) : ∃ k, v = .int k ∧ i k = some r := by
  rcases by_some e with h | ⟨_, _, e⟩ | ⟨_, _, e⟩ | ⟨_, _, e⟩
  · exact h
  all_goals exact nope e
theorem by_loc {l : Nat → Option α} (e : v.by no no l no = some r) : ∃ k, v = .loc k ∧ l k = some r := by
  rcases by_some e with ⟨_, _, e⟩ | ⟨_, _, e⟩ | h | ⟨_, _, e⟩
  · exact nope e
  · exact nope e
  · exact h
  · exact nope e
theorem int2_some {f : Int → Int → Option α} (e : int2 v w f = some r) : ∃ a b, v = .int a ∧ w = .int b ∧ f a b = some r := by
  refine el_EA (by_int e) fun a h e => ?_
  refine el_EA (by_int e) fun b h' e => ?_
  exact ⟨a, b, h, h', e⟩
theorem args_some {f : AV → Option α} {g : AV → AV → Option α} (e : args vs f g = some r) : (∃ v, vs = [v] ∧ f v = some r) ∨ (∃ v w, vs = [v, w] ∧ g v w = some r) := by
  rcases vs with _ | ⟨v, _ | ⟨w, _ | ⟨_, _⟩⟩⟩
  · exact nope e
  · exact .inl ⟨v, rfl, e⟩
  · exact .inr ⟨v, w, rfl, e⟩
  · exact nope e
theorem args_one {f : AV → Option α} (e : args vs f no2 = some r) : ∃ v, vs = [v] ∧ f v = some r := (args_some e).elim id fun ⟨_, _, _, e⟩ => nope e
theorem args_two {g : AV → AV → Option α} (e : args vs no g = some r) : ∃ v w, vs = [v, w] ∧ g v w = some r := (args_some e).elim (fun ⟨_, _, e⟩ => nope e) id
theorem on_some {l : Nat} {f : List AV → Option α} {g : List (Int × AV) → Option α} (e : σ.on l f g = some r) : (∃ xs, σ.get l = some (.list xs) ∧ f xs = some r) ∨ (∃ kvs, σ.get l = some (.dict kvs) ∧ g kvs = some r) := by
  unfold St.on at e
  rcases hd : σ.get l with _ | ⟨xs⟩ | ⟨kvs⟩ <;> rw [hd] at e
  · exact nope e
  · exact .inl ⟨xs, rfl, e⟩
  · exact .inr ⟨kvs, rfl, e⟩
theorem on_list {l : Nat} {f : List AV → Option α} (e : σ.on l f no = some r) : ∃ xs, σ.get l = some (.list xs) ∧ f xs = some r := (on_some e).elim id fun ⟨_, _, e⟩ => nope e
theorem on_dict {l : Nat} {g : List (Int × AV) → Option α} (e : σ.on l no g = some r) : ∃ kvs, σ.get l = some (.dict kvs) ∧ g kvs = some r := (on_some e).elim (fun ⟨_, _, e⟩ => nope e) id
theorem ite_some {c : Prop} [Decidable c] {x : Option α} (e : (if c then x else none) = some r) : c ∧ x = some r := by
  by_cases h : c
  · rw [if_pos h] at e; exact ⟨h, e⟩
  · rw [if_neg h] at e; exact nope e
section
variable {h : Heap} {as : Nat → Addr} {N l : Nat} {u : Value} {us : List Value} {P : Value → Prop} {Q : List Value → Prop} {a b : Int} {bs : List UInt8}
theorem rep_int (q : Rep h as N u (.int a)) (k : ∀ t, P (.int a t)) : P u := by refine el_E q fun t hq1 => ?_; clear q; subst hq1; exact k t
theorem rep_bytes (q : Rep h as N u (.bytes bs)) (k : bs.length ≤ lim → ∀ t, P (.bytes bs.toArray t)) : P u := by refine el_AE q fun z t hq2 => ?_; clear q; subst hq2; exact k z t
theorem rep_loc (q : Rep h as N u (.loc l)) (k : P (.ref (as l))) : P u := by refine el_A q fun _ hq3 => ?_; clear q; subst hq3; exact k
theorem all_one {β γ : Type} {R : β → γ → Prop} {xs : List β} {y : γ} {P : List β → Prop} (q : All2 R xs [y]) (k : ∀ x, R x y → P [x]) : P xs := by
  cases q with
  | cons r q => cases q; exact k _ r
theorem all_two {β γ : Type} {R : β → γ → Prop} {xs : List β} {y z : γ} {P : List β → Prop} (q : All2 R xs [y, z]) (k : ∀ x x', R x y → R x' z → P [x, x']) : P xs := by
  cases q with
  | cons r q => exact all_one (P := fun xs => P (_ :: xs)) q fun x' r' => k _ x' r r'
theorem one_loc (q : All2 (Rep h as N) us [.loc l]) (k : Q [.ref (as l)]) : Q us := all_one q fun u r => rep_loc (P := fun u => Q [u]) r k
theorem one_bytes (q : All2 (Rep h as N) us [.bytes bs]) (k : bs.length ≤ lim → ∀ t, Q [.bytes bs.toArray t]) : Q us := all_one q fun u r => rep_bytes (P := fun u => Q [u]) r k
theorem two_ints (q : All2 (Rep h as N) us [.int a, .int b]) (k : ∀ t t', Q [.int a t, .int b t']) : Q us := all_two q fun u u' r r' => rep_int (P := fun u => Q [u, u']) r fun t => rep_int (P := fun u' => Q [_, u']) r' fun t' => k t t'
end
theorem pair_elim {α β : Type} {a c : α} {b d : β} {P : α → β → Prop} (e : some (a, b) = some (c, d)) (h : P a b) : P c d := by cases e; exact h
theorem tri_elim {α β γ : Type} {a a' : α} {b b' : β} {c c' : γ} {P : α → β → γ → Prop} (e : some (a, b, c) = some (a', b', c')) (h : P a b c) : P a' b' c' := by cases e; exact h
theorem int2_elim {f : Int → Int → Option α} {P : AV → AV → Prop} (e : int2 v w f = some r) (k : ∀ a b, f a b = some r → P (.int a) (.int b)) : P v w := by
  refine el_EEAA (int2_some e) fun a b hq4 hq5 e => ?_; subst hq4; subst hq5; exact k a b e
theorem int_elim {i : Int → Option α} {P : AV → Prop} (e : v.by i no no no = some r) (k : ∀ a, i a = some r → P (.int a)) : P v := by
  refine el_EA (by_int e) fun a hq6 e => ?_; subst hq6; exact k a e
theorem loc_elim {l : Nat → Option α} {P : AV → Prop} (e : v.by no no l no = some r) (k : ∀ a, l a = some r → P (.loc a)) : P v := by
  refine el_EA (by_loc e) fun a hq7 e => ?_; subst hq7; exact k a e
theorem by_elim {i : Int → Option α} {b : List UInt8 → Option α} {l : Nat → Option α} {t : List At → Option α} {P : AV → Prop} (e : v.by i b l t = some r)
    (ki : ∀ a, i a = some r → P (.int a)) (kb : ∀ a, b a = some r → P (.bytes a)) (kl : ∀ a, l a = some r → P (.loc a)) (kt : ∀ a, t a = some r → P (.tup a)) : P v := by
  rcases by_some e with ⟨a, rfl, e⟩ | ⟨a, rfl, e⟩ | ⟨a, rfl, e⟩ | ⟨a, rfl, e⟩
  · exact ki a e
  · exact kb a e
  · exact kl a e
  · exact kt a e
theorem one_elim {f : AV → Option α} {P : List AV → Prop} (e : args vs f no2 = some r) (k : ∀ v, f v = some r → P [v]) : P vs := by
  refine el_EA (args_one e) fun v hq8 e => ?_; subst hq8; exact k v e
theorem two_elim {g : AV → AV → Option α} {P : List AV → Prop} (e : args vs no g = some r) (k : ∀ v w, g v w = some r → P [v, w]) : P vs := by
  refine el_EEA (args_two e) fun v w hq9 e => ?_; subst hq9; exact k v w e
theorem args_elim {f : AV → Option α} {g : AV → AV → Option α} {P : List AV → Prop} (e : args vs f g = some r) (k : ∀ v, f v = some r → P [v]) (k' : ∀ v w, g v w = some r → P [v, w]) : P vs := by
  rcases args_some e with ⟨v, rfl, e⟩ | ⟨v, w, rfl, e⟩
  · exact k v e
  · exact k' v w e
theorem on_elim {l : Nat} {f : List AV → Option α} {g : List (Int × AV) → Option α} {P : Prop} (e : σ.on l f g = some r) (k : ∀ xs, σ.get l = some (.list xs) → f xs = some r → P) (k' : ∀ kvs, σ.get l = some (.dict kvs) → g kvs = some r → P) : P :=
  (on_some e).elim (fun ⟨xs, h, e⟩ => k xs h e) fun ⟨xs, h, e⟩ => k' xs h e
theorem onl_elim {l : Nat} {f : List AV → Option α} {P : Prop} (e : σ.on l f no = some r) (k : ∀ xs, σ.get l = some (.list xs) → f xs = some r → P) : P := on_elim e k fun _ _ e => nope e
theorem ond_elim {l : Nat} {g : List (Int × AV) → Option α} {P : Prop} (e : σ.on l no g = some r) (k : ∀ kvs, σ.get l = some (.dict kvs) → g kvs = some r → P) : P := on_elim e (fun _ _ e => nope e) k
theorem ite_elim {c : Prop} [Decidable c] {x : Option α} {P : Prop} (e : (if c then x else none) = some r) (k : c → x = some r → P) : P := (ite_some e).elim k
theorem bind_elim {β : Type} {o : Option β} {f : β → Option α} {P : Prop} (e : o.bind f = some r) (k : ∀ a, o = some a → f a = some r → P) : P := by
  refine el_EA (Option.bind_eq_some_iff.mp e) fun a h e => ?_; exact k a h e
theorem bind2_elim {β γ : Type} {o : Option (β × γ)} {f : β × γ → Option α} {P : Prop} (e : o.bind f = some r) (k : ∀ a b, o = some (a, b) → f (a, b) = some r → P) : P := bind_elim e fun _ => k _ _
theorem bind3_elim {β γ δ : Type} {o : Option (β × γ × δ)} {f : β × γ × δ → Option α} {P : Prop} (e : o.bind f = some r) (k : ∀ a b c, o = some (a, b, c) → f (a, b, c) = some r → P) : P := bind_elim e fun _ => k _ _ _
theorem map_elim {β : Type} {o : Option β} {f : β → α} {P : α → Prop} (e : o.map f = some r) (k : ∀ a, o = some a → P (f a)) : P r := by
  refine el_EA (Option.map_eq_some_iff.mp e) fun a h hq10 => ?_; subst hq10; exact k a h
theorem mapP_elim {β γ δ : Type} {o : Option β} {f : β → γ × δ} {c : γ} {d : δ} {P : γ → δ → Prop} (e : o.map f = some (c, d)) (k : ∀ a, o = some a → P (f a).1 (f a).2) : P c d := by
  refine el_EA (Option.map_eq_some_iff.mp e) fun a h e => ?_
  have := k a h
  rwa [e] at this
end

section
variable {prog : Program} {w : World} {h₀ h : Heap} {as : Nat → Addr} {σ σ' : St} {s : Shared} {u u' : Value} {v v' r : AV} {A : Around} {n : Nat} {E : Value → Shared → Prop}

theorem Rep.int' {N : Nat} {i : Int} (hr : Rep h as N u (.int i)) : ∃ t, u = .int i t := hr
theorem lim_size : lim ≤ sizeLine := by rw [sizeLine_eq]; decide

theorem newL_some {xs : List AV} (e : newL xs σ = some (r, σ')) : xs.length ≤ lim ∧ r = .loc σ.next ∧ σ' = σ.alloc (.list xs) := by
  unfold newL at e
  split at e
  · rename_i h; cases e; exact ⟨h, rfl, rfl⟩
  · cases e

theorem newL_elim {xs : List AV} {P : AV → St → Prop} (e : newL xs σ = some (r, σ')) (k : xs.length ≤ lim → P (.loc σ.next) (σ.alloc (.list xs))) : P r σ' :=
  ite_elim e fun h e => pair_elim e (k h)
inductive BinI (σ : St) : Bop → AV → AV → AV → St → Prop
  | addI (a b : Int) : BinI σ .add (.int a) (.int b) (.int (a + b)) σ
  | addB (a b : List UInt8) (h : a.length + b.length ≤ lim) : BinI σ .add (.bytes a) (.bytes b) (.bytes (a ++ b)) σ
  | addL (a b : Nat) (xs ys : List AV) (ex : σ.get a = some (.list xs)) (ey : σ.get b = some (.list ys)) (h : (xs ++ ys).length ≤ lim) : BinI σ .add (.loc a) (.loc b) (.loc σ.next) (σ.alloc (.list (xs ++ ys)))
  | sub (a b : Int) : BinI σ .sub (.int a) (.int b) (.int (a - b)) σ
  | mul (a b : Int) (h : a.natAbs < 2 ^ 40 ∧ b.natAbs < 2 ^ 40) : BinI σ .mul (.int a) (.int b) (.int (a * b)) σ
  | fdiv (a b : Int) (h : 0 < b ∧ b < 1000000) : BinI σ .fdiv (.int a) (.int b) (.int (a / b)) σ
  | mod (a b : Int) (h : 0 < b) : BinI σ .mod (.int a) (.int b) (.int (a % b)) σ
theorem bin_inv {op : Bop} (e : abin op v v' σ = some (r, σ')) : BinI σ op v v' r σ' := by
  cases op with
  | add =>
    refine by_elim (P := fun v => BinI σ .add v v' r σ') e (fun a e => ?_) (fun a e => ?_) (fun a e => ?_) fun _ e => nope e
    · exact int_elim (P := fun v' => BinI σ .add (.int a) v' r σ') e fun b e => pair_elim (P := BinI σ .add _ _) e (.addI a b)
    · exact by_elim (P := fun v' => BinI σ .add (.bytes a) v' r σ') e (fun _ e => nope e) (fun b e => ite_elim e fun h e => pair_elim (P := BinI σ .add _ _) e (.addB a b h)) (fun _ e => nope e) fun _ e => nope e
    · exact loc_elim (P := fun v' => BinI σ .add (.loc a) v' r σ') e fun b e => onl_elim e fun xs ex e => onl_elim e fun ys ey e => newL_elim (P := BinI σ .add _ _) e fun h => .addL a b xs ys ex ey h
  | sub => exact int2_elim (P := fun v w => BinI σ .sub v w r σ') e fun a b e => pair_elim (P := BinI σ .sub _ _) e (.sub a b)
  | mul => exact int2_elim (P := fun v w => BinI σ .mul v w r σ') e fun a b e => ite_elim e fun h e => pair_elim (P := BinI σ .mul _ _) e (.mul a b h)
  | fdiv => exact int2_elim (P := fun v w => BinI σ .fdiv v w r σ') e fun a b e => ite_elim e fun h e => pair_elim (P := BinI σ .fdiv _ _) e (.fdiv a b h)
  | mod => exact int2_elim (P := fun v w => BinI σ .mod v w r σ') e fun a b e => ite_elim e fun h e => pair_elim (P := BinI σ .mod _ _) e (.mod a b h)

theorem bin_go (S : SRel prog w h₀ s.heap as σ) {op : Bop} (e : BinI σ op v v' r σ') : ∀ {u u' : Value}, Rep s.heap as σ.next u v → Rep s.heap as σ.next u' v' →
    wpAny (model prog w) A (binaryOp (bopOf op) u u') (Post prog w h₀ s as σ r σ') E s := by
  induction e with
  | addI a b => intro u u' ru rv; refine rep_int (P := fun u => wpAny _ _ (binaryOp _ u u') _ _ _) ru fun t => ?_; refine rep_int (P := fun u' => wpAny _ _ (binaryOp _ _ u') _ _ _) rv fun t' => ?_; exact add_int (Post.toks S _ ⟨_, rfl⟩)
  | addB a b hb =>
    intro u u' ru rv; refine rep_bytes (P := fun u => wpAny _ _ (binaryOp _ u u') _ _ _) ru fun z t => ?_; refine rep_bytes (P := fun u' => wpAny _ _ (binaryOp _ _ u') _ _ _) rv fun z' t' => ?_
    refine PySem.W.KBy.add_bytes (by simp only [List.size_toArray]; unfold lim at hb; omega) fun t'' k => ?_
    refine Post.toks S _ ⟨by rw [List.length_append]; exact hb, t'', ?_⟩
    rw [← List.append_toArray]
  | addL a b xs ys ex ey hl =>
    intro u u' ru rv; refine rep_loc (P := fun u => wpAny _ _ (binaryOp _ u u') _ _ _) ru ?_; refine rep_loc (P := fun u' => wpAny _ _ (binaryOp _ _ u') _ _ _) rv ?_
    refine el_AAEA (S.get ex) fun la za vs hq11 qa => ?_; refine el_E hq11 fun na pa => ?_
    refine el_AAEA (S.get ey) fun lb zb ws hq12 qb => ?_; refine el_E hq12 fun nb pb => ?_
    refine P.add_list pa pb ?_ (by simp only [List.size_toArray]; rw [qa.length, qb.length]; rw [List.length_append] at hl; exact Nat.le_trans hl lim_size)
    have e2 : vs.toArray ++ ws.toArray = (vs ++ ws).toArray := by simp
    rw [e2]
    exact Post.list S (Kept.push _ _) _ (New.of (Nat.le_refl _)) ⟨0, Heap.get?_push_size _ rfl⟩ (qa.append qb) hl
  | sub a b => intro u u' ru rv; refine rep_int (P := fun u => wpAny _ _ (binaryOp _ u u') _ _ _) ru fun t => ?_; refine rep_int (P := fun u' => wpAny _ _ (binaryOp _ _ u') _ _ _) rv fun t' => ?_; exact sub_int (Post.toks S _ ⟨_, rfl⟩)
  | mul a b hb =>
    intro u u' ru rv; refine rep_int (P := fun u => wpAny _ _ (binaryOp _ u u') _ _ _) ru fun t => ?_; refine rep_int (P := fun u' => wpAny _ _ (binaryOp _ _ u') _ _ _) rv fun t' => ?_
    exact mul_int (Post.toks S _ ⟨_, rfl⟩) (IntMulOk.of_le (m := 40) (n := 40) (intBits_le_iff.mpr hb.1) (intBits_le_iff.mpr hb.2) (by decide))
  | fdiv a b hb =>
    intro u u' ru rv; refine rep_int (P := fun u => wpAny _ _ (binaryOp _ u u') _ _ _) ru fun t => ?_; refine rep_int (P := fun u' => wpAny _ _ (binaryOp _ _ u') _ _ _) rv fun t' => ?_
    refine floordiv_int (by omega) ?_ (.inl (PyProof.noPylong_small (by omega)))
    rw [Int.fdiv_eq_ediv_of_nonneg _ (by omega)]
    exact Post.toks S _ ⟨_, rfl⟩
  | mod a b hb =>
    intro u u' ru rv; refine rep_int (P := fun u => wpAny _ _ (binaryOp _ u u') _ _ _) ru fun t => ?_; refine rep_int (P := fun u' => wpAny _ _ (binaryOp _ _ u') _ _ _) rv fun t' => ?_
    refine mod_int' (by omega) ?_
    rw [Int.fmod_eq_emod_of_nonneg _ (by omega)]
    exact Post.toks S _ ⟨_, rfl⟩
theorem bin_sound (hA : AOk A n) (S : SRel prog w h₀ s.heap as σ) (ru : Rep s.heap as σ.next u v) (rv : Rep s.heap as σ.next u' v') {op : Bop} (e : abin op v v' σ = some (r, σ')) :
    wpAny (model prog w) A (binaryOp (bopOf op) u u') (Post prog w h₀ s as σ r σ') E s := bin_go S (bin_inv e) ru rv
end
end Mine

/-! Ops2 -/
namespace Mine
open PySem PySem.W PyProof.Rows PySem.SeqAt

theorem all_range_eq {α : Type} [DecidableEq α] (xs ys : List α) (h : xs.length = ys.length) : ((List.range xs.length).all fun j => decide (xs[j]? = ys[j]?)) = decide (xs = ys) := by
  rw [Bool.eq_iff_iff, List.all_eq_true]
  simp only [List.mem_range, decide_eq_true_eq]
  constructor
  · intro k
    refine List.ext_getElem? fun i => ?_
    rcases Nat.lt_or_ge i xs.length with hi | hi
    · exact k i hi
    · rw [List.getElem?_eq_none hi, List.getElem?_eq_none (by lia)]
  · rintro rfl _ _; rfl
theorem kinL_len : ∀ {xs ys : List AV}, kinL xs ys = true → xs.length = ys.length
  | [], [], _ => rfl
  | [], _ :: _, h => by simp [kinL] at h
  | _ :: _, [], h => by simp [kinL] at h
  | _ :: xs, _ :: ys, h => by simp only [kinL, Bool.and_eq_true] at h; simp [kinL_len h.2]
theorem kinL_get : ∀ {xs ys : List AV}, kinL xs ys = true → ∀ (j : Nat) (x y : AV), xs[j]? = some x → ys[j]? = some y → kinV x y = true
  | [], _, _, _, _, _, hx, _ => by simp at hx
  | _ :: _, [], h, _, _, _, _, _ => by simp [kinL] at h
  | _ :: xs, _ :: ys, h, 0, _, _, hx, hy => by simp only [kinL, Bool.and_eq_true] at h; simp at hx hy; subst hx hy; exact h.1
  | _ :: xs, _ :: ys, h, j + 1, _, _, hx, hy => by simp only [kinL, Bool.and_eq_true] at h; simp at hx hy; exact kinL_get h.2 j _ _ hx hy
theorem kinT_len : ∀ {xs ys : List At}, kinT xs ys = true → xs.length = ys.length
  | [], [], _ => rfl
  | [], _ :: _, h => by simp [kinT] at h
  | _ :: _, [], h => by simp [kinT] at h
  | _ :: xs, _ :: ys, h => by simp only [kinT, Bool.and_eq_true] at h; simp [kinT_len h.2]
theorem kinT_get : ∀ {xs ys : List At}, kinT xs ys = true → ∀ (j : Nat) (x y : At), xs[j]? = some x → ys[j]? = some y → kin x y = true
  | [], _, _, _, _, _, hx, _ => by simp at hx
  | _ :: _, [], h, _, _, _, _, _ => by simp [kinT] at h
  | _ :: xs, _ :: ys, h, 0, _, _, hx, hy => by simp only [kinT, Bool.and_eq_true] at h; simp at hx hy; subst hx hy; exact h.1
  | _ :: xs, _ :: ys, h, j + 1, _, _, hx, hy => by simp only [kinT, Bool.and_eq_true] at h; simp at hx hy; exact kinT_get h.2 j _ _ hx hy

section
variable {prog : Program} {w : World} {h₀ h : Heap} {as : Nat → Addr} {σ σ' : St} {s : Shared} {u u' : Value} {v v' r : AV} {A : Around} {n N : Nat} {E : Value → Shared → Prop}

theorem kin_eqAt {x y : At} (k : kin x y = true) (ru : RepA as N u x) (rv : RepA as N u' y) : EqAt A s u u' (decide (x = y)) := by
  cases x <;> cases y <;> simp only [kin, Bool.false_eq_true] at k
  · rename_i i j
    refine el_E ru fun t hq1 => ?_; clear ru; subst hq1; refine el_E rv fun t' hq2 => ?_; clear rv; subst hq2
    have : (decide (At.int i = At.int j)) = (i == j) := by by_cases h : i = j <;> simp [h]
    rw [this]
    exact fun prog w E Q hq => wpAny_eqBool_int hq
  · rename_i b c
    refine el_AE ru fun _ t hq3 => ?_; clear ru; subst hq3; refine el_AE rv fun _ t' hq4 => ?_; clear rv; subst hq4
    have : (decide (At.bytes b = At.bytes c)) = decide (b.toArray.toList = c.toArray.toList) := by by_cases h : b = c <;> simp [h]
    rw [this]
    exact fun prog w E Q hq => eqBool_bytes hq
theorem kin_det {x y : At} (k : kin x y = true) (ru : RepA as N u x) (rv : RepA as N u y) : x = y := by
  cases x <;> cases y <;> simp only [kin, Bool.false_eq_true] at k
  · refine el_E ru fun t hq5 => ?_; clear ru; subst hq5; refine el_E rv fun t' h => ?_; clear rv; cases h; rfl
  · rename_i b c
    refine el_AE ru fun _ t hq6 => ?_; clear ru; subst hq6; refine el_AE rv fun _ t' h => ?_; clear rv
    have h2 : b.toArray = c.toArray := by injection h
    have : b = c := by simpa using h2
    rw [this]
theorem kinT_det {xs : List At} {vs : List Value} (q : All2 (RepA as N) vs xs) : ∀ {ys : List At}, kinT xs ys = true → All2 (RepA as N) vs ys → xs = ys := by
  induction q with
  | nil =>
    intro ys h q'
    cases q'; rfl
  | cons r1 q1 ih =>
    intro ys h q'
    cases q' with
    | cons r2 q2 =>
      refine el_A (Bool.and_eq_true_iff.mp h) fun h1 h2 => ?_
      rw [kin_det h1 r1 r2, ih h2 q2]

theorem TupAt.isTuple {a : Addr} {vs : List Value} (t : TupAt h a vs) : h.IsTuple a vs.toArray := let ⟨n, e⟩ := t; ⟨_, e, rfl, n, rfl⟩

theorem pair_eqAt {l r : List At} {vs ws : List Value} (k : kinT l r = true) (ql : All2 (RepA as N) vs l) (qr : All2 (RepA as N) ws r) :
    ∀ j (h1 : j < vs.toArray.size) (h2 : j < ws.toArray.size), EqAt A s vs.toArray[j] ws.toArray[j] (decide (l[j]? = r[j]?)) := by
  intro j h1 h2
  have h1' : j < vs.length := by simpa using h1
  have h2' : j < ws.length := by simpa using h2
  have hl : j < l.length := by rw [← ql.length]; exact h1'
  have hr : j < r.length := by rw [← qr.length]; exact h2'
  refine el_EA (ql.get j l[j] (by simp [hl])) fun x hx rx => ?_
  refine el_EA (qr.get j r[j] (by simp [hr])) fun y hy ry => ?_
  have ex : vs.toArray[j] = x := by rw [List.getElem?_eq_getElem h1'] at hx; simpa using hx
  have ey : ws.toArray[j] = y := by rw [List.getElem?_eq_getElem h2'] at hy; simpa using hy
  have e : (decide (l[j]? = r[j]?)) = decide (l[j] = r[j]) := by
    rw [List.getElem?_eq_getElem hl, List.getElem?_eq_getElem hr]; simp
  rw [ex, ey, e]
  exact kin_eqAt (kinT_get k j _ _ (List.getElem?_eq_getElem hl) (List.getElem?_eq_getElem hr)) rx ry

theorem kinV_eqAt (hu : A.units + 1 < cLine) (k : kinV v v' = true) (ru : Rep s.heap as N u v) (rv : Rep s.heap as N u' v') : EqAt A s u u' (decide (v = v')) := by
  cases v with
  | a x => cases v' with
    | a y =>
      have : (decide (AV.a x = AV.a y)) = decide (x = y) := by by_cases h : x = y <;> simp [h]
      rw [this]; exact kin_eqAt k ru rv
    | tup r => simp [kinV] at k
  | tup l => cases v' with
    | a y => simp [kinV] at k
    | tup r =>
      refine el_EEAAA ru fun a vs hq7 ta qa _ => ?_; clear ru; subst hq7
      refine el_EEAAA rv fun b ws hq8 tb qb _ => ?_; clear rv; subst hq8
      have k' : kinT l r = true := k
      by_cases hab : a = b
      · subst hab
        refine el_E ta fun na ea => ?_; clear ta; refine el_E tb fun nb eb => ?_; clear tb
        rw [ea] at eb
        have hvw : vs = ws := by injection eb with eb; injection eb with _ _ eb; injection eb with eb; simpa using eb
        subst hvw
        rw [kinT_det qa k' qb]
        simpa using EqAt.same (A := A) (s := s) (.ref a)
      · have hl := kinT_len k'
        have hsz : vs.toArray.size = ws.toArray.size := by simp only [List.size_toArray]; rw [qa.length, qb.length, hl]
        have R := RcAt.tuples (A := A) (s := s) ta.isTuple tb.isTuple (by lia) (pair_eqAt (A := A.in1) k' qa qb)
        have e : ((List.range (min vs.toArray.size ws.toArray.size)).all (fun j => decide (l[j]? = r[j]?)) && vs.toArray.size == ws.toArray.size) = decide (AV.tup l = AV.tup r) := by
          rw [hsz, Nat.min_self, beq_self_eq_true, Bool.and_true, ← hsz]
          simp only [List.size_toArray]
          rw [qa.length, all_range_eq l r hl]
          by_cases h : l = r <;> simp [h]
        rw [e] at R
        exact EqAt.of_refs hab R

theorem list_eqAt' {xs ys : List AV} {vs ws : List Value} (hu : A.units + 1 < cLine) (k : kinL xs ys = true) (ql : All2 (Rep s.heap as N) vs xs) (qr : All2 (Rep s.heap as N) ws ys) :
    ∀ j (h1 : j < vs.toArray.size) (h2 : j < ws.toArray.size), EqAt A s vs.toArray[j] ws.toArray[j] (decide (xs[j]? = ys[j]?)) := by
  intro j h1 h2
  have h1' : j < vs.length := by simpa using h1
  have h2' : j < ws.length := by simpa using h2
  have hl : j < xs.length := by rw [← ql.length]; exact h1'
  have hr : j < ys.length := by rw [← qr.length]; exact h2'
  refine el_EA (ql.get j xs[j] (by simp [hl])) fun x hx rx => ?_
  refine el_EA (qr.get j ys[j] (by simp [hr])) fun y hy ry => ?_
  have ex : vs.toArray[j] = x := by rw [List.getElem?_eq_getElem h1'] at hx; simpa using hx
  have ey : ws.toArray[j] = y := by rw [List.getElem?_eq_getElem h2'] at hy; simpa using hy
  have e : (decide (xs[j]? = ys[j]?)) = decide (xs[j] = ys[j]) := by
    rw [List.getElem?_eq_getElem hl, List.getElem?_eq_getElem hr]; simp
  rw [ex, ey, e]
  exact kinV_eqAt hu (kinL_get k j _ _ (List.getElem?_eq_getElem hl) (List.getElem?_eq_getElem hr)) rx ry

inductive EqI (σ : St) : AV → AV → Bool → Prop
  | lens (x y : Nat) (xs ys : List AV) (ex : σ.get x = some (.list xs)) (ey : σ.get y = some (.list ys)) (h : xs.length ≠ ys.length) : EqI σ (.loc x) (.loc y) false
  | lists (x y : Nat) (xs ys : List AV) (ex : σ.get x = some (.list xs)) (ey : σ.get y = some (.list ys)) (hk : kinL xs ys = true) : EqI σ (.loc x) (.loc y) (decide (xs = ys))
  | bool (a b : Bool) : EqI σ (.bool a) (.bool b) (decide (a = b))
  | none : EqI σ .none .none true
  | int (a b : Int) : EqI σ (.int a) (.int b) (decide (a = b))
  | bytes (a b : List UInt8) : EqI σ (.bytes a) (.bytes b) (decide (a = b))
  | tup (l r : List At) (hk : kinT l r = true) : EqI σ (.tup l) (.tup r) (decide (l = r))
theorem some_elim {α : Type} {a b : α} {P : α → Prop} (e : some a = some b) (h : P a) : P b := by cases e; exact h
theorem eqB_inv {a b : Bool} {w : AV} (e : eqB a w = some b) : EqI σ (.bool a) w b := by
  cases w with
  | tup _ => exact nope e
  | a y => cases y with
    | bool c => exact some_elim (P := EqI σ _ _) e (.bool a c)
    | _ => exact nope e
theorem eqN_inv {b : Bool} {w : AV} (e : eqN w = some b) : EqI σ .none w b := by
  cases w with
  | tup _ => exact nope e
  | a y => cases y with
    | none => exact some_elim (P := EqI σ _ _) e .none
    | _ => exact nope e
theorem eq_inv {b : Bool} (e : aeq σ v v' = some b) : EqI σ v v' b := by
  cases v with
  | tup l => exact by_elim (P := fun w => EqI σ (.tup l) w b) e (fun _ e => nope e) (fun _ e => nope e) (fun _ e => nope e) fun r e => ite_elim e fun hk e => some_elim (P := EqI σ _ _) e (.tup l r hk)
  | a x => cases x with
    | loc x =>
      refine loc_elim (P := fun w => EqI σ (.loc x) w b) e fun y e => onl_elim e fun xs ex e => onl_elim e fun ys ey e => ?_
      by_cases h : xs.length ≠ ys.length
      · rw [if_pos h] at e; exact some_elim (P := EqI σ _ _) e (.lens x y xs ys ex ey h)
      · rw [if_neg h] at e; exact ite_elim e fun hk e => some_elim (P := EqI σ _ _) e (.lists x y xs ys ex ey hk)
    | bool a => exact eqB_inv e
    | none => exact eqN_inv e
    | int a => exact int_elim (P := fun w => EqI σ (.int a) w b) e fun c e => some_elim (P := EqI σ _ _) e (.int a c)
    | bytes a => exact by_elim (P := fun w => EqI σ (.bytes a) w b) e (fun _ e => nope e) (fun c e => some_elim (P := EqI σ _ _) e (.bytes a c)) (fun _ e => nope e) fun _ e => nope e

noncomputable def EqQ (prog : Program) (w : World) (A : Around) (E : Value → Shared → Prop) (s : Shared) (b : Bool) (u u' : Value) : Prop := ∀ (Q : Value → Shared → Prop),
  (Q (.bool b) s → wpAny (model prog w) A (compareOp .Eq u u') Q E s) ∧ (Q (.bool (!b)) s → wpAny (model prog w) A (compareOp .NotEq u u') Q E s)
theorem dec_beq {α : Type} [DecidableEq α] {a b : α} : decide (a = b) = (a == b) := rfl
theorem eq_lists (hA : AOk A n) (S : SRel prog w h₀ s.heap as σ) {x y : Nat} {xs ys : List AV} (ex : σ.get x = some (.list xs)) (ey : σ.get y = some (.list ys)) (hk : kinL xs ys = true) : EqQ prog w A E s (decide (xs = ys)) (.ref (as x)) (.ref (as y)) := by
  have hu2 : A.in1.units + 1 < cLine := by have := hA.units64; simp only [Around.in1_units]; lia
  obtain ⟨la, za, vs, pa, qa⟩ := S.get ex
  obtain ⟨lb, zb, ws, pb, qb⟩ := S.get ey
  have hl : xs.length = ys.length := kinL_len hk
  have hsz : vs.toArray.size = ws.toArray.size := by simp only [List.size_toArray]; rw [qa.length, qb.length, hl]
  have R := RcAt.lists (A := A) (s := s) pa.isList pb.isList hsz hA.units (list_eqAt' (A := A.in1) hu2 hk qa qb)
  have R2 := RcNeAt.lists (A := A) (s := s) pa.isList pb.isList hsz hA.units (list_eqAt' (A := A.in1) hu2 hk qa qb)
  have ee : ((List.range vs.toArray.size).all (fun j => decide (xs[j]? = ys[j]?))) = decide (xs = ys) := by
    simp only [List.size_toArray]; rw [qa.length, all_range_eq xs ys hl]
  rw [ee] at R R2
  exact fun Q => ⟨fun q => R prog w E Q q, fun q => R2 prog w E Q q⟩
theorem eq_tups (hA : AOk A n) {l r : List At} {u u' : Value} (hk : kinT l r = true) (ru : Rep s.heap as N u (.tup l)) (rv : Rep s.heap as N u' (.tup r)) : EqQ prog w A E s (decide (l = r)) u u' := by
  obtain ⟨a, vs, rfl, ta, qa, _⟩ := ru
  obtain ⟨b, ws, rfl, tb, qb, _⟩ := rv
  have hl := kinT_len hk
  have hsz : vs.toArray.size = ws.toArray.size := by simp only [List.size_toArray]; rw [qa.length, qb.length, hl]
  have R := RcAt.tuples (A := A) (s := s) ta.isTuple tb.isTuple hA.units (pair_eqAt (A := A.in1) hk qa qb)
  have R2 := RcNeAt.tuples (A := A) (s := s) ta.isTuple tb.isTuple hA.units (pair_eqAt (A := A.in1) hk qa qb)
  have e : ((List.range (min vs.toArray.size ws.toArray.size)).all (fun j => decide (l[j]? = r[j]?)) && vs.toArray.size == ws.toArray.size) = decide (l = r) := by
    rw [hsz, Nat.min_self, beq_self_eq_true, Bool.and_true, ← hsz]
    simp only [List.size_toArray]
    rw [qa.length, all_range_eq l r hl]
  rw [e] at R R2
  exact fun Q => ⟨fun q => R prog w E Q q, fun q => R2 prog w E Q q⟩
theorem eq_go (hA : AOk A n) (S : SRel prog w h₀ s.heap as σ) {b : Bool} (e : EqI σ v v' b) : ∀ {u u' : Value}, Rep s.heap as σ.next u v → Rep s.heap as σ.next u' v' → EqQ prog w A E s b u u' := by
  induction e with
  | lens x y xs ys ex ey hne =>
    intro u u' ru rv
    refine rep_loc (P := fun u => EqQ _ _ _ _ _ _ u u') ru ?_
    refine rep_loc (P := fun u' => EqQ _ _ _ _ _ _ _ u') rv ?_
    obtain ⟨la, za, vs, pa, qa⟩ := S.get ex
    obtain ⟨lb, zb, ws, pb, qb⟩ := S.get ey
    have hsz : (vs.toArray.size != ws.toArray.size) = true := by
      simp only [List.size_toArray, bne_iff_ne, ne_eq]; rw [qa.length, qb.length]; exact hne
    exact fun Q => ⟨fun q => RcAt.lists_lengths pa.isList pb.isList hsz hA.units prog w E Q q, fun q => RcNeAt.lists_lengths pa.isList pb.isList hsz hA.units prog w E Q q⟩
  | lists x y xs ys ex ey hk =>
    intro u u' ru rv
    refine rep_loc (P := fun u => EqQ _ _ _ _ _ _ u u') ru ?_
    refine rep_loc (P := fun u' => EqQ _ _ _ _ _ _ _ u') rv ?_
    exact eq_lists hA S ex ey hk
  | bool a b =>
    intro u u' ru rv
    obtain rfl : _ = _ := ru; obtain rfl : _ = _ := rv
    have e1 : decide (a = b) = (a == b) := by cases a <;> cases b <;> rfl
    rw [e1]
    exact fun Q => ⟨fun q => eq_bool q, fun q => RcNeAt.bool_bool a b prog w E Q q⟩
  | none =>
    intro u u' ru rv
    obtain rfl : _ = _ := ru; obtain rfl : _ = _ := rv
    exact fun Q => ⟨fun q => EqNone.eq_none_none q, fun q => RcNeAt.none_none (A := A) (s := s) prog w E Q q⟩
  | int a b =>
    intro u u' ru rv
    refine rep_int (P := fun u => EqQ _ _ _ _ _ _ u u') ru fun t => ?_
    refine rep_int (P := fun u' => EqQ _ _ _ _ _ _ _ u') rv fun t' => ?_
    exact fun Q => ⟨fun q => eq_int q, fun q => ne_int q⟩
  | bytes a b =>
    intro u u' ru rv
    refine rep_bytes (P := fun u => EqQ _ _ _ _ _ _ u u') ru fun z t => ?_
    refine rep_bytes (P := fun u' => EqQ _ _ _ _ _ _ _ u') rv fun z' t' => ?_
    have : (decide (a = b)) = (a.toArray.toList == b.toArray.toList) := by by_cases h : a = b <;> simp [h]
    rw [this]
    exact fun Q => ⟨fun q => PySem.W.eq_bytes q, fun q => PySem.W.ne_bytes q⟩
  | tup l r hk => exact fun ru rv => eq_tups hA hk ru rv
theorem eq_sound (hA : AOk A n) (S : SRel prog w h₀ s.heap as σ) (ru : Rep s.heap as σ.next u v) (rv : Rep s.heap as σ.next u' v') {b : Bool} (e : aeq σ v v' = some b) {Q : Value → Shared → Prop} :
    (Q (.bool b) s → wpAny (model prog w) A (compareOp .Eq u u') Q E s) ∧ (Q (.bool (!b)) s → wpAny (model prog w) A (compareOp .NotEq u u') Q E s) := eq_go hA S (eq_inv e) ru rv Q
end
end Mine

/-! Ops3 -/
namespace Mine
open PySem PySem.W PyProof.Rows PySem.SeqAt

section
variable {prog : Program} {w : World} {h₀ h : Heap} {as : Nat → Addr} {σ σ' : St} {s : Shared} {u u' : Value} {v v' r : AV} {A : Around} {n N : Nat} {E : Value → Shared → Prop}

theorem isInt_is (k : Int) (t : Tok) : (intKind prog w).is k (.int k t) = true := by simp [intKind, Value.isInt]

theorem dict_find {ws : List (Int × Value)} {kvs : List (Int × AV)} (q : All2 (fun (p : Int × Value) (q : Int × AV) => p.1 = q.1 ∧ Rep h as N p.2 q.2) ws kvs) (k : Int) :
    (valueAt ws k = none ∧ dget kvs k = none) ∨ ∃ u v, valueAt ws k = some u ∧ dget kvs k = some v ∧ Rep h as N u v := by
  induction q with
  | nil => exact .inl ⟨rfl, rfl⟩
  | @cons x y xs ys hx _ ih =>
    refine el_A hx fun hk hr => ?_; clear hx
    by_cases e : x.1 = k
    · refine .inr ⟨x.2, y.2, ?_, ?_, hr⟩
      · simp [valueAt, e]
      · simp [dget, ← hk, e]
    · have e' : ¬ y.1 = k := by rw [← hk]; exact e
      simpa [valueAt, dget, e, e'] using ih
theorem dict_isSome {ws : List (Int × Value)} {kvs : List (Int × AV)} (q : All2 (fun (p : Int × Value) (q : Int × AV) => p.1 = q.1 ∧ Rep h as N p.2 q.2) ws kvs) (k : Int) : (valueAt ws k).isSome = (dget kvs k).isSome := by
  rcases dict_find q k with ⟨a, b⟩ | ⟨u, v, a, b, _⟩ <;> rw [a, b] <;> rfl

inductive CmpI (σ : St) : Cop → AV → AV → Bool → Prop
  | eq (v w : AV) (b : Bool) (e : aeq σ v w = some b) : CmpI σ .eq v w b
  | ne (v w : AV) (b : Bool) (e : aeq σ v w = some b) : CmpI σ .ne v w (!b)
  | lt (a b : Int) : CmpI σ .lt (.int a) (.int b) (decide (a < b))
  | le (a b : Int) : CmpI σ .le (.int a) (.int b) (decide (a ≤ b))
  | gt (a b : Int) : CmpI σ .gt (.int a) (.int b) (decide (b < a))
  | ge (a b : Int) : CmpI σ .ge (.int a) (.int b) (decide (b ≤ a))
  | isin (k : Int) (l : Nat) (kvs : List (Int × AV)) (eg : σ.get l = some (.dict kvs)) : CmpI σ .isin (.int k) (.loc l) (dget kvs k).isSome
  | notin (k : Int) (l : Nat) (kvs : List (Int × AV)) (eg : σ.get l = some (.dict kvs)) : CmpI σ .notin (.int k) (.loc l) (!(dget kvs k).isSome)
theorem cmp_inv {op : Cop} {b : Bool} (e : acmp op v v' σ = some b) : CmpI σ op v v' b := by
  cases op with
  | eq => exact .eq v v' b e
  | ne => exact map_elim (P := CmpI σ .ne v v') e (.ne v v')
  | lt => exact int2_elim (P := fun v w => CmpI σ .lt v w b) e fun x y e => some_elim (P := CmpI σ .lt _ _) e (.lt x y)
  | le => exact int2_elim (P := fun v w => CmpI σ .le v w b) e fun x y e => some_elim (P := CmpI σ .le _ _) e (.le x y)
  | gt => exact int2_elim (P := fun v w => CmpI σ .gt v w b) e fun x y e => some_elim (P := CmpI σ .gt _ _) e (.gt x y)
  | ge => exact int2_elim (P := fun v w => CmpI σ .ge v w b) e fun x y e => some_elim (P := CmpI σ .ge _ _) e (.ge x y)
  | isin => exact int_elim (P := fun v => CmpI σ .isin v v' b) e fun k e => loc_elim (P := fun v' => CmpI σ .isin _ v' b) e fun l e => ond_elim e fun kvs eg e => some_elim (P := CmpI σ .isin _ _) e (.isin k l kvs eg)
  | notin => exact int_elim (P := fun v => CmpI σ .notin v v' b) e fun k e => loc_elim (P := fun v' => CmpI σ .notin _ v' b) e fun l e => ond_elim e fun kvs eg e => some_elim (P := CmpI σ .notin _ _) e (.notin k l kvs eg)

noncomputable def CmpQ (s : Shared) (b : Bool) (c : Value) (s' : Shared) : Prop := c = .bool b ∧ ∃ tk, s' = { s with toks := tk }
theorem cmp_q {b : Bool} : CmpQ s b (.bool b) s := ⟨rfl, s.toks, rfl⟩
theorem cmp_go (hA : AOk A n) (S : SRel prog w h₀ s.heap as σ) {op : Cop} {b : Bool} (e : CmpI σ op v v' b) : ∀ {u u' : Value}, Rep s.heap as σ.next u v → Rep s.heap as σ.next u' v' →
    wpAny (model prog w) A (compareOp (copOf op) u u') (CmpQ s b) E s := by
  induction e with
  | eq v w b e => exact fun ru rv => (eq_sound hA S ru rv e).1 cmp_q
  | ne v w b e => exact fun ru rv => (eq_sound hA S ru rv e).2 cmp_q
  | lt a b => intro u u' ru rv; refine rep_int (P := fun u => wpAny _ _ (compareOp _ u u') _ _ _) ru fun t => ?_; refine rep_int (P := fun u' => wpAny _ _ (compareOp _ _ u') _ _ _) rv fun t' => ?_; exact lt_int cmp_q
  | le a b => intro u u' ru rv; refine rep_int (P := fun u => wpAny _ _ (compareOp _ u u') _ _ _) ru fun t => ?_; refine rep_int (P := fun u' => wpAny _ _ (compareOp _ _ u') _ _ _) rv fun t' => ?_; exact le_int cmp_q
  | gt a b => intro u u' ru rv; refine rep_int (P := fun u => wpAny _ _ (compareOp _ u u') _ _ _) ru fun t => ?_; refine rep_int (P := fun u' => wpAny _ _ (compareOp _ _ u') _ _ _) rv fun t' => ?_; exact gt_int cmp_q
  | ge a b => intro u u' ru rv; refine rep_int (P := fun u => wpAny _ _ (compareOp _ u u') _ _ _) ru fun t => ?_; refine rep_int (P := fun u' => wpAny _ _ (compareOp _ _ u') _ _ _) rv fun t' => ?_; exact ge_int cmp_q
  | isin k l kvs eg =>
    intro u u' ru rv; refine rep_int (P := fun u => wpAny _ _ (compareOp _ u u') _ _ _) ru fun t => ?_; refine rep_loc (P := fun u' => wpAny _ _ (compareOp _ _ u') _ _ _) rv ?_
    refine el_AAEA (S.get eg) fun hl _ ws hd q => ?_
    refine wpAny_in_of (isInt_is k t) (S.high l hl) hd.mapOf ?_
    rw [dict_isSome q]; exact ⟨rfl, _, rfl⟩
  | notin k l kvs eg =>
    intro u u' ru rv; refine rep_int (P := fun u => wpAny _ _ (compareOp _ u u') _ _ _) ru fun t => ?_; refine rep_loc (P := fun u' => wpAny _ _ (compareOp _ _ u') _ _ _) rv ?_
    refine el_AAEA (S.get eg) fun hl _ ws hd q => ?_
    refine wpAny_notIn_of (isInt_is k t) (S.high l hl) hd.mapOf ?_
    rw [dict_isSome q]; exact ⟨rfl, _, rfl⟩
theorem cmp_sound (hA : AOk A n) (S : SRel prog w h₀ s.heap as σ) (ru : Rep s.heap as σ.next u v) (rv : Rep s.heap as σ.next u' v') {op : Cop} {b : Bool} (e : acmp op v v' σ = some b) :
    wpAny (model prog w) A (compareOp (copOf op) u u') (fun c s' => c = .bool b ∧ ∃ tk, s' = { s with toks := tk }) E s := cmp_go hA S (cmp_inv e) ru rv

/-! items and cuts -/
theorem fits63 {i : Nat} (h : i ≤ lim) : (i : Int) < 2 ^ 63 := by unfold lim at h; omega

section
variable {value slice : Expr} {i : Int} {t : Tok}
theorem item_list (S : SRel prog w h₀ s.heap as σ) {l : Nat} {xs : List AV} (eg : σ.get l = some (.list xs)) (e : (if 0 ≤ i then xs[i.toNat]? else if i = -1 then xs.getLast? else none) = some r)
    (hs : ∀ o i, subscripted slice false o i = operate [o, i] (getItem o i)) : wpAny (model prog w) A (subscriptTail value slice (.ref (as l)) (.int i t)) (Post prog w h₀ s as σ r σ) E s := by
  refine el_AAEA (S.get eg) fun hl hz vs hp q => ?_
  by_cases h0 : 0 ≤ i
  · rw [if_pos h0] at e
    refine el_EA (q.get _ _ e) fun x hx rx => ?_
    have hi : i.toNat < xs.length := (List.getElem?_eq_some_iff.mp e).1
    refine tail_any hp.isList.typeIs slot_list_getitem.lookup (wpAny_getItem_list hp.isList h0 ?_ (by simpa using hx) (Post.here S rx)) (hs _ _)
    have := fits63 hz; omega
  · rw [if_neg h0] at e
    replace e := ite_some e; obtain ⟨rfl, e⟩ := e
    have hne : 0 < xs.length := by
      cases xs with
      | nil => exact nope e
      | cons _ _ => exact Nat.succ_pos _
    rw [List.getLast?_eq_getElem?] at e
    obtain ⟨x, hx, rx⟩ := q.get _ _ e
    refine tail_any hp.isList.typeIs slot_list_getitem.lookup (wpAny_getItem_list_neg hp.isList (by decide) ?_ (by decide) ?_ (Post.here S rx)) (hs _ _)
    · simp only [List.size_toArray]; rw [q.length]; omega
    · simp only [List.size_toArray]; rw [q.length]
      have : ((-1 : Int) + (xs.length : Int)).toNat = xs.length - 1 := by omega
      rw [this]; simpa using hx
theorem item_tup (S : SRel prog w h₀ s.heap as σ) {l : List At} {x : At} (h0 : 0 ≤ i) (hy : l[i.toNat]? = some x) (ru : Rep s.heap as σ.next u (.tup l))
    (hs : ∀ o i, subscripted slice false o i = operate [o, i] (getItem o i)) : wpAny (model prog w) A (subscriptTail value slice u (.int i t)) (Post prog w h₀ s as σ (.a x) σ) E s := by
  refine el_EEAAA ru fun a vs hq27 ta qa hz => ?_; clear ru; subst hq27
  refine el_EA (qa.get _ _ hy) fun x hx rx => ?_
  have hi : i.toNat < l.length := (List.getElem?_eq_some_iff.mp hy).1
  have h63 := fits63 hz
  have hT : s.TypeIs (.ref a) "tuple" := let ⟨_, e⟩ := ta; ⟨_, e, rfl⟩
  refine tail_any hT F.slot_tuple_getitem.lookup (PyProof.Rows.getItem_tuple (j := i.toNat) (x := x) ta.isTuple (by omega) (by omega) ?_ (by simpa using hx) (Post.here S rx)) (hs _ _)
  unfold seqIndex?
  have hn : ¬ i < 0 := by omega
  simp only [hn, if_false, List.size_toArray]
  rw [if_pos (by simp only [Bool.and_eq_true, decide_eq_true_eq]; rw [qa.length]; omega)]
theorem item_bytes (S : SRel prog w h₀ s.heap as σ) {b : List UInt8} {y : UInt8} (h0 : 0 ≤ i) (hy : b[i.toNat]? = some y) (ru : Rep s.heap as σ.next u (.bytes b))
    (hs : ∀ o i, subscripted slice false o i = operate [o, i] (getItem o i)) : wpAny (model prog w) A (subscriptTail value slice u (.int i t)) (Post prog w h₀ s as σ (.int y.toNat) σ) E s := by
  refine el_AE ru fun hz t' hq28 => ?_; clear ru; subst hq28
  have hi : i.toNat < b.length := (List.getElem?_eq_some_iff.mp hy).1
  have hg : b.getD i.toNat 0 = y := by rw [List.getD_eq_getElem?_getD, hy]; rfl
  refine tail_any (typeIs_bytes s _ t') FB.slot_bytes_getitem.lookup (getItem_bytes (by unfold lim at hz; omega) h0 (by omega) (Post.toks S _ ?_)) (hs _ _)
  rw [hg]; exact ⟨_, rfl⟩
theorem item_dict (S : SRel prog w h₀ s.heap as σ) {l : Nat} {kvs : List (Int × AV)} (eg : σ.get l = some (.dict kvs)) (e : dget kvs i = some r)
    (hs : ∀ o i, subscripted slice false o i = operate [o, i] (getItem o i)) : wpAny (model prog w) A (subscriptTail value slice (.ref (as l)) (.int i t)) (Post prog w h₀ s as σ r σ) E s := by
  refine el_AAEA (S.get eg) fun hl hz ws hd q => ?_
  rcases dict_find q i with ⟨_, b⟩ | ⟨x, y, a, b, rx⟩
  · rw [b] at e; cases e
  · rw [b] at e; cases e
    exact tail_any hd.typeIs slot_dict_getitem.lookup (wpAny_getItem_of (isInt_is i t) hd.mapOf a (Post.toks S _ rx)) (hs _ _)
end

theorem item_sound (S : SRel prog w h₀ s.heap as σ) (ru : Rep s.heap as σ.next u v) (rv : Rep s.heap as σ.next u' v') (e : aidx v v' σ = some r) {value slice : Expr}
    (hs : ∀ o i, subscripted slice false o i = operate [o, i] (getItem o i)) :
    wpAny (model prog w) A (subscriptTail value slice u u') (Post prog w h₀ s as σ r σ) E s := by
  refine int_elim (P := fun v' => Rep s.heap as σ.next u' v' → wpAny (model prog w) A (subscriptTail value slice u u') (Post prog w h₀ s as σ r σ) E s) e (fun i e => ?_) rv
  rintro ⟨t, rfl⟩
  refine by_elim (P := fun v => Rep s.heap as σ.next u v → wpAny (model prog w) A (subscriptTail value slice u (.int i t)) (Post prog w h₀ s as σ r σ) E s) e (fun _ e => nope e) (fun b e => ?_) (fun l e => ?_) (fun l e => ?_) ru
  · exact ite_elim e fun h0 e => map_elim (P := fun r => Rep s.heap as σ.next u (.bytes b) → wpAny (model prog w) A (subscriptTail value slice u (.int i t)) (Post prog w h₀ s as σ r σ) E s) e fun y hy ru => item_bytes S h0 hy ru hs
  · rintro ⟨z, rfl⟩
    exact on_elim e (fun xs eg e => item_list S eg e hs) fun kvs eg e => item_dict S eg e hs
  · exact ite_elim e fun h0 e => map_elim (P := fun r => Rep s.heap as σ.next u (.tup l) → wpAny (model prog w) A (subscriptTail value slice u (.int i t)) (Post prog w h₀ s as σ r σ) E s) e fun y hy ru => item_tup S h0 hy ru hs

theorem clip_of {k n : Nat} : clipAt n (k : Int) = min k n := clipAt_nat n k
theorem cut_eq {α : Type} (xs : List α) (x y : Nat) : (xs.drop (min x xs.length)).take (min y xs.length - min x xs.length) = (xs.take y).drop x := by
  rw [List.drop_take]
  rcases Nat.lt_or_ge x xs.length with h | h
  · rw [Nat.min_eq_left (Nat.le_of_lt h)]
    rcases Nat.lt_or_ge y xs.length with h' | h'
    · rw [Nat.min_eq_left (Nat.le_of_lt h')]
    · rw [Nat.min_eq_right h', List.take_of_length_le (by simp), List.take_of_length_le (by rw [List.length_drop]; omega)]
  · rw [Nat.min_eq_right h, List.drop_of_length_le (Nat.le_refl _), List.drop_of_length_le h]; simp

/-- a slice's part and what it bounds -/
noncomputable def partOf : Option AV → Option Int
  | some (.int i) => some i
  | _ => none
theorem bound_some {o : Option AV} {d k : Nat} (e : bound o d = some k) : (o = none ∧ k = d) ∨ (o = some (.int (k : Int))) := by
  cases o with
  | none => cases e; exact .inl ⟨rfl, rfl⟩
  | some v =>
    replace e := by_int e; obtain ⟨i, rfl, e⟩ := e
    replace e := ite_some e; obtain ⟨h0, e⟩ := e
    cases e
    refine .inr ?_
    rw [Int.toNat_of_nonneg h0]
theorem bound_part {o : Option AV} {d k : Nat} (e : bound o d = some k) {N : Nat} {u : Value} (ru : ∀ v, o = some v → Rep h as N u v) (hn : o = none → u = .none) :
    IsPart u (partOf o) ∧ ((partOf o).elim d (clipAt d)) = min k d := by
  rcases bound_some e with ⟨rfl, rfl⟩ | rfl
  · rw [hn rfl]; exact ⟨.none, (Nat.min_self _).symm⟩
  · refine el_E (ru _ rfl) fun t hq29 => ?_; subst hq29
    exact ⟨.int _ _, clipAt_nat d k⟩
theorem bound_lo {o : Option AV} {k m : Nat} (e : bound o 0 = some k) {N : Nat} {u : Value} (ru : ∀ v, o = some v → Rep h as N u v) (hn : o = none → u = .none) :
    IsPart u (partOf o) ∧ ((partOf o).elim 0 (clipAt m)) = min k m := by
  rcases bound_some e with ⟨rfl, rfl⟩ | rfl
  · rw [hn rfl]; exact ⟨.none, (Nat.zero_min _).symm⟩
  · refine el_E (ru _ rfl) fun t hq30 => ?_; subst hq30
    exact ⟨.int _ _, clipAt_nat m k⟩

section
variable {lo hi : Option AV} {ul uh : Value} {value : Expr} {plo phi : Option Expr} {pp : Pos} {x y : Nat}
theorem cut_bytes (S : SRel prog w h₀ s.heap as σ) {b : List UInt8} (ru : Rep s.heap as σ.next u (.bytes b)) (rl : ∀ v, lo = some v → Rep s.heap as σ.next ul v) (nl : lo = none → ul = .none)
    (rh : ∀ v, hi = some v → Rep s.heap as σ.next uh v) (nh : hi = none → uh = .none) (ex : bound lo 0 = some x) (ey : bound hi b.length = some y) :
    wpAny (model prog w) A (subscriptTail value (.Slice plo phi none pp) u (.ref s.heap.objs.size)) (Post prog w h₀ s as σ (.bytes ((b.take y).drop x)) σ) E { s with heap := s.heap.push { cls := .type "slice", data := .fields #[ul, uh, .none] } } := by
  refine el_AE ru fun hz t hq31 => ?_; clear ru; subst hq31
  refine el_A (bound_lo (m := b.length) ex rl nl) fun pl el => ?_
  refine el_A (bound_part ey rh nh) fun ph eh => ?_
  have hp : KBy.picked b.toArray (partOf lo) (partOf hi) = ((b.take y).drop x).toArray := by
    rw [KBc.picked_eq]; simp only [List.size_toArray]; rw [el, eh, cut_eq]
  have hlen : ((b.take y).drop x).length ≤ lim := by rw [List.length_drop, List.length_take]; omega
  refine tail_any (typeIs_bytes _ _ t) FB.slot_bytes_getitem.lookup (getItem_meets (typeIs_bytes _ _ t) (by decide) FB.slot_bytes_getitem FB.entry_bytes_getitem (FB.args_bytes_getitem_2 _ _) (KBc.meets_slice2 b.toArray t _ pl ph)
    ⟨Heap.IsSliceOf.new _ _ _ _, ?_, fun t' k => ?_⟩) rfl
  · rw [hp]; simp only [List.size_toArray]; exact Nat.le_trans hlen lim_size
  · rw [hp]
    exact Post.kept S (Kept.push _ _) k ⟨hlen, _, rfl⟩
theorem cut_list (S : SRel prog w h₀ s.heap as σ) {l : Nat} {xs : List AV} (eg : σ.get l = some (.list xs)) (rl : ∀ v, lo = some v → Rep s.heap as σ.next ul v) (nl : lo = none → ul = .none)
    (rh : ∀ v, hi = some v → Rep s.heap as σ.next uh v) (nh : hi = none → uh = .none) (ex : bound lo 0 = some x) (ey : bound hi xs.length = some y) :
    wpAny (model prog w) A (subscriptTail value (.Slice plo phi none pp) (.ref (as l)) (.ref s.heap.objs.size)) (Post prog w h₀ s as σ (.loc σ.next) (σ.alloc (.list ((xs.take y).drop x)))) E { s with heap := s.heap.push { cls := .type "slice", data := .fields #[ul, uh, .none] } } := by
  refine el_AAEA (S.get eg) fun hl hz vs hp q => ?_
  refine el_A (bound_lo (m := xs.length) ex rl nl) fun pl el => ?_
  refine el_A (bound_part ey rh nh) fun ph eh => ?_
  have hpick : slicePick vs.toArray (partOf lo) (partOf hi) none = ((vs.take y).drop x).toArray := by
    rw [slicePick_plain]; simp only [List.size_toArray]; rw [q.length, el, eh, ← q.length, cut_eq]
  have hlen : ((xs.take y).drop x).length ≤ lim := by rw [List.length_drop, List.length_take]; omega
  have hp' := hp.at (h' := s.heap.push { cls := .type "slice", data := .fields #[ul, uh, .none] }) fun o e => Heap.get?_push_of_some _ e
  refine tail_any (Heap.IsList.typeIs (s := { s with heap := s.heap.push { cls := .type "slice", data := .fields #[ul, uh, .none] } }) hp'.isList) slot_list_getitem.lookup (wpAny_getItem_list_slice hp'.isList (Heap.IsSliceOf.new _ _ _ _) pl ph .none (by simp) ?_ (by simp only [List.size_toArray]; rw [q.length]; exact Nat.le_trans hz lim_size)) rfl
  rw [hpick]
  refine Post.list S (s := s) ((Kept.push _ _).trans (Kept.push _ _)) _ (New.of ?_) ⟨0, Heap.get?_push_size _ rfl⟩ ((q.take y).drop x) hlen
  rw [Heap.size_push]; lia
end
theorem cut_sound (S : SRel prog w h₀ s.heap as σ) (ru : Rep s.heap as σ.next u v) {lo hi : Option AV} {ul uh : Value} (rl : ∀ v, lo = some v → Rep s.heap as σ.next ul v) (nl : lo = none → ul = .none)
    (rh : ∀ v, hi = some v → Rep s.heap as σ.next uh v) (nh : hi = none → uh = .none) (e : acut v lo hi σ = some (r, σ')) {value : Expr} {plo phi : Option Expr} {pp : Pos} :
    wpAny (model prog w) A (subscriptTail value (.Slice plo phi none pp) u (.ref s.heap.objs.size)) (Post prog w h₀ s as σ r σ') E { s with heap := s.heap.push { cls := .type "slice", data := .fields #[ul, uh, .none] } } := by
  refine by_elim (P := fun v => Rep s.heap as σ.next u v → wpAny (model prog w) A (subscriptTail value (.Slice plo phi none pp) u (.ref s.heap.objs.size)) (Post prog w h₀ s as σ r σ') E { s with heap := s.heap.push { cls := .type "slice", data := .fields #[ul, uh, .none] } })
    e (fun _ e => nope e) (fun b e ru => bind_elim e fun x ex e => bind_elim e fun y ey e => ?_) (fun l e => ?_) (fun _ e => nope e) ru
  · exact pair_elim (P := fun r σ' => wpAny (model prog w) A (subscriptTail value (.Slice plo phi none pp) u (.ref s.heap.objs.size)) (Post prog w h₀ s as σ r σ') E { s with heap := s.heap.push { cls := .type "slice", data := .fields #[ul, uh, .none] } }) e (cut_bytes S ru rl nl rh nh ex ey)
  · rintro ⟨z, rfl⟩
    exact onl_elim e fun xs eg e => bind_elim e fun x ex e => bind_elim e fun y ey e =>
      pair_elim (P := fun r σ' => wpAny (model prog w) A (subscriptTail value (.Slice plo phi none pp) (.ref (as l)) (.ref s.heap.objs.size)) (Post prog w h₀ s as σ r σ') E { s with heap := s.heap.push { cls := .type "slice", data := .fields #[ul, uh, .none] } }) e (cut_list S eg rl nl rh nh ex ey)
end
end Mine

/-! BytesB -/
namespace Mine
open PySem PySem.W PyProof.Rows PySem.SeqAt

section
variable {prog : Program} {w : World} {A : Around} {E : Value → Shared → Prop} {s : Shared}
theorem look_bytes : typeLookup (.type "bytes") "__bytes__" = pure (some (.builtin "bytes.__bytes__")) := by rw [typeLookup_type, builtinLookup_eq_fast]; kernel_rfl
theorem bytes_made {b : Array UInt8} {t : Tok} {Q : Value → Shared → Prop} (h : Q (.bytes b t) s) :
    codeAny (model prog w) A (.call (.builtin "bytes.__new__") ⟨[.type "bytes", .bytes b t], []⟩) (wants Q E) s := by
  refine codeAny_of_tree ?_
  show wpAny _ A.in1 (do checkBuiltinCall "bytes.__new__" ⟨[.type "bytes", .bytes b t], []⟩; again (.builtin "bytes.__new__" ⟨[.type "bytes", .bytes b t], []⟩)) _ _ s
  refine wpAny_bind (wpAny_of_eq (F.bm_newCall _) (wpAny_pure ⟨plainId_quiet F.bm_plain _, codeAny_builtin F.bm_entry ?_⟩))
  rw [Around.under_plainId F.bm_plain _]
  have hT : s.TypeIs (.bytes b t) "bytes" := typeIs_bytes _ _ _
  unfold Builtin.«bytes.__new__»
  refine wpAny_bind (wpAny_of_eq (a := true) rfl ?_)
  refine bm_if_false rfl ?_
  refine wpAny_bind (wpAny_of_eq F.bm_sub ?_)
  refine bm_if_false rfl ?_
  refine wpAny_bind (wpAny_of_eq (F.bm_bind _) ?_)
  refine wpAny_bind (wpAny_of_eq (a := ()) rfl ?_)
  refine wpAny_bind (wpAny_of_eq (a := ()) rfl ?_)
  refine bm_if_false rfl ?_
  refine wpAny_bind (wpAny_specialOf hT look_bytes ?_)
  dsimp only
  refine wpAny_bind (wpAny_rule ?_)
  refine wpAny_bind (wpAny_typeOf hT ?_)
  refine bm_if_true (by decide) ?_
  show wpAny _ _ (if (Value.type "bytes" == Value.type "bytes") = true then _ else _) _ _ _
  refine bm_if_true (by decide) ?_
  first
    | exact wpAny_pure h
    | exact wpAny_bind (wpAny_pure (wpAny_pure h))
theorem call_bytes_bytes {b : Array UInt8} {t : Tok} {Q : Value → Shared → Prop} (h : Q (.bytes b t) s) : wpAny (model prog w) A (call (.type "bytes") [.bytes b t]) Q E s := by
  refine callType_codes (Q₁ := fun obj s₁ => s₁.TypeIs obj "bytes" ∧ Q obj s₁) F.bm_called (F.bm_typeCall _) F.entry_object_init
    (bytes_made ⟨typeIs_bytes _ _ _, h⟩) fun obj s₁ h₁ => ?_
  exact ⟨h₁.1, F.args_object_init_2 obj _, object_init_meets F.bm_called.init.lookup F.bm_called.made (by decide) prog w A.in1 _ s₁ ⟨h₁.1, rfl, h₁.2⟩⟩
end
end Mine

/-! DictP -/
namespace Mine
open PySem PySem.W PyProof.Rows PySem.SeqAt

section
variable {prog : Program} {w : World} {A : Around} {E : Value → Shared → Prop} {s : Shared}

theorem list_no_keys : typeLookup (.type "list") "keys" = pure none := by rw [typeLookup_type, builtinLookup_eq_fast]; kernel_rfl
theorem getAttr?_miss_list {a : Addr} {xs : Array Value} {k : Nat} {name : Str} {Q : Option Value → Shared → Prop}
    (hx : s.heap.get? a = some { cls := .type "list", data := .seq xs k }) (hmiss : typeLookup (.type "list") name = pure none) (hname : (["__module__", "__name__", "__qualname__", "__doc__", "__annotations__"] : List Str).contains name = false) (hA : A.handled = none)
    (h : ∀ h' tk, Kept s.heap h' → Q none { s with heap := h', toks := tk }) (hsz : name.length + 100 ≤ sizeLine) :
    wpAny (model prog w) A (getAttr? (.ref a) name) Q E s := by
  obtain ⟨hp, g, d, tk, os⟩ := s
  have hT : ∀ tk', (⟨hp, g, d, tk', os⟩ : Shared).TypeIs (.ref a) "list" := fun _ => ⟨_, hx, rfl⟩
  have f1 := sub_AttributeError
  have f3 := F.slot_list_getattribute.lookup
  have f4 := F.slot_list_getattribute.bind (.ref a)
  have f5 := am_list_getattr_none
  unfold getAttr? getAttrBy? getAttrBy
  repeat (any_goals (first | assumption | exact hT _ | ((with_reducible show wpAny _ _ (call (Value.builtin "list.__getattribute__") _ _) _ _ _); refine call_meets F.slot_list_getattribute (hT _) am_entry_list_getattribute (F.args_list_getattribute_2 _ _) (meets_getattribute_miss_list a xs k #[] name _ hmiss hname hsz) ⟨hx, hA, fun h' tk' e hx' => ?_⟩) | wp_step))
  refine el_EE hx'.there fun t' u' he => ?_
  show wpAny _ _ (getattributeRaised _ _ _ _ _ _ _) _ _ _
  unfold getattributeRaised
  repeat (any_goals (first | assumption | wp_step))
  exact h _ _ hx'.keeps

theorem entry_update_loop : entryFor table "dict.update.loop" = some Builtin.«dict.update.loop» := by first | exact entryFor_of_fast (by kernel_rfl) | exact entryFor_of_tree (by kernel_rfl)
theorem plain_update_loop : plainId "dict.update.loop" = true := by decide +kernel

noncomputable def PairAt (h : Heap) (u : Value) (p : Int × Value) : Prop := ∃ a t, u = .ref a ∧ TupAt h a [.int p.1 t, p.2]
theorem PairAt.kept {h h' : Heap} {u : Value} {p : Int × Value} (q : PairAt h u p) (k : ∀ a vs, TupAt h a vs → TupAt h' a vs) : PairAt h' u p := let ⟨a, t, e, x⟩ := q; ⟨a, t, e, k _ _ x⟩
noncomputable def dfold (ps : List (Int × Value)) : List (Int × Value) := ps.foldl (fun d p => stored d p.1 p.2) []
theorem dfold_take {ps : List (Int × Value)} {i : Nat} {p : Int × Value} (h : ps[i]? = some p) : dfold (ps.take (i + 1)) = stored (dfold (ps.take i)) p.1 p.2 := by
  unfold dfold
  rw [List.take_add_one, h]
  simp
theorem dfold_len (ps : List (Int × Value)) : ∀ d : List (Int × Value), (ps.foldl (fun d p => stored d p.1 p.2) d).length ≤ d.length + ps.length := by
  induction ps with
  | nil => intro d; exact Nat.le_refl _
  | cons p r ih =>
    intro d
    rw [List.foldl_cons, List.length_cons]
    have h1 := ih (stored d p.1 p.2)
    have h2 := stored_length_le d p.1 p.2
    lia

theorem pairs_loop {l I D : Addr} {vs : List Value} {ps : List (Int × Value)} (hh : A.handled = none) (hz : ps.length ≤ sizeLine) (hID : I ≠ D) (hlI : l ≠ I) (hlD : l ≠ D) (hlen : vs.length = ps.length) {R : Result → Shared → Prop} :
    ∀ (k i : Nat) (s : Shared) (c : Int), ps.length - i = k → i ≤ ps.length → s.heap.IsList l vs.toArray → s.heap.IsListIter I l i → s.heap.DictOf (intKind prog w) D (dfold (ps.take i)) → All2 (PairAt s.heap) vs ps →
      (∀ h' k', h'.DictOf (intKind prog w) D (dfold ps) → (∀ b o, b ≠ I → b ≠ D → s.heap.get? b = some o → h'.get? b = some o) → R (.ok (.ret .none)) { s with heap := h', toks := k' }) →
      codeAny (model prog w) A (.builtin "dict.update.loop" ⟨[.ref D, .ref I, rawInt c, .none], []⟩) R s := by
  intro k
  induction k with
  | zero =>
    intro i s c hk hle hl hit hD hp hR
    have hin : i = ps.length := by lia
    subst hin
    refine codeAny_builtin entry_update_loop ?_
    rw [Around.under_plainId plain_update_loop _]
    show wpAny _ A.in1 (pyNext (.ref I) >>= _) _ _ s
    refine wpAny_bind (wpAny_pyNext_list_end hh hit hl (by simp [hlen]) fun h' he => ?_)
    have hD' := hD.extBut he (Ne.symm hID)
    rw [List.take_length] at hD'
    show wpAny _ _ (Builtin.Dict.addKeywords D [] >>= _) _ _ _
    exact wpAny_bind (wpAny_pure (wpAny_pure (hR h' s.toks hD' fun b o hb _ e => he b o hb e)))
  | succ k ih =>
    intro i s c hk hle hl hit hD hp hR
    have hlt : i < ps.length := by omega
    refine el_EAEEAE (hp.get i ps[i] (List.getElem?_eq_getElem hlt)) fun x hx a t hq1 nt ht => ?_; subst hq1
    refine codeAny_builtin entry_update_loop ?_
    rw [Around.under_plainId plain_update_loop _]
    show wpAny _ A.in1 (pyNext (.ref I) >>= _) _ _ s
    refine wpAny_bind (wpAny_pyNext_list_item (x := .ref a) hit hl (by simpa using hx) fun h' hit' hs => ?_)
    have haI : a ≠ I := by
      rintro rfl
      refine el_EAA hit fun o ho hc _ => ?_; clear hit
      rw [ht] at ho; cases ho; simp at hc
    have haD : a ≠ D := by
      rintro rfl
      refine el_EEEAA hD fun o _ _ ho hc _ => ?_; clear hD
      rw [ht] at ho; cases ho; have := hc.1; simp at this
    have ht' : h'.get? a = some { cls := .type "tuple", data := .seq [Value.int (ps[i]).1 t, (ps[i]).2].toArray nt } := (hs.2 a haI).trans ht
    refine wpAny_bind (wpAny_holding ?_)
    refine wpAny_bind (wpAny_tryCatch ?_)
    unfold Builtin.Dict.pairItems
    have hT : ({ s with heap := h' } : Shared).TypeIs (.ref a) "tuple" := ⟨_, ht', rfl⟩
    refine wpAny_bind (wpAny_typeOf hT ?_)
    rw [if_pos (by decide)]
    refine wpAny_bind (wpAny_seqItems ht' rfl ?_)
    refine wpAny_pure ?_
    show wpAny _ _ (holding _ (dictSet D (.int (ps[i]).1 t) (ps[i]).2)) _ _ _
    have hD1 : h'.DictOf (intKind prog w) D (dfold (ps.take i)) := hD.sameBut hs (Ne.symm hID)
    have hl1 : h'.IsList l vs.toArray := hl.extBut hs.extBut hlI
    have hz1 : (dfold (ps.take i)).length ≤ sizeLine := by
      have h1 := dfold_len (ps.take i) []
      rw [List.length_take] at h1
      have h2 : (dfold (ps.take i)).length ≤ min i ps.length := by simpa [dfold] using h1
      lia
    refine wpAny_holding (wpAny_dictSet_pairs (s := { s with heap := h' }) (isInt_is _ t) hD1 (fun h2 hm2 hs2 => ?_) hz1)
    refine wpAny_pure ⟨plainId_quiet plain_update_loop _, ih (i + 1) { s with heap := h2, toks := s.toks + 1 } (c + 1) (by omega) hlt (hl1.extBut hs2.extBut hlD) (hit'.extBut hs2.extBut hID) ?_ ?_ fun h3 k3 hd3 hk3 => ?_⟩
    · rw [dfold_take (List.getElem?_eq_getElem hlt)]; exact hm2
    · refine hp.mono fun u p q => ?_
      refine el_EEAE q fun b tb e nb hb => ?_; clear q
      refine ⟨b, tb, e, nb, ?_⟩
      have hbI : b ≠ I := by
        rintro rfl
        refine el_EAA hit fun o ho hc _ => ?_; clear hit
        rw [hb] at ho; cases ho; simp at hc
      have hbD : b ≠ D := by
        rintro rfl
        refine el_EEEAA hD fun o _ _ ho hc _ => ?_; clear hD
        rw [hb] at ho; cases ho; have := hc.1; simp at this
      exact (hs2.2 b hbD).trans ((hs.2 b hbI).trans hb)
    · exact hR h3 k3 hd3 fun b o hbI hbD e => hk3 b o hbI hbD ((hs2.2 b hbD).trans ((hs.2 b hbI).trans e))

theorem call_dict_list {l : Addr} {vs : List Value} {ps : List (Int × Value)} {Q : Value → Shared → Prop} (hh : A.handled = none) (hl : s.heap.PlainList l vs.toArray) (hp : All2 (PairAt s.heap) vs ps) (hz : ps.length ≤ sizeLine)
    (h : ∀ h' tk, h'.DictOf (intKind prog w) s.heap.objs.size (dfold ps) → Kept s.heap h' → Q (.ref s.heap.objs.size) { s with heap := h', toks := tk }) :
    wpAny (model prog w) A (call (.type "dict") [.ref l]) Q E s := by
  refine callType_codes (Q₁ := fun obj s₁ => obj = .ref s.heap.objs.size ∧ s₁ = { s with heap := s.heap.push { cls := .type "dict", data := .dict #[] } }) F.kt_called_dict (F.kt_typeCall_dict_1 _) F.entry_dict_init (kt_code_dict_new _ ⟨rfl, rfl⟩) ?_
  rintro obj s₁ ⟨rfl, rfl⟩
  have hnew : (s.heap.push { cls := .type "dict", data := .dict #[] }).DictOf (intKind prog w) s.heap.objs.size [] := Heap.DictOf.new s.heap
  refine el_E hl fun n hl0 => ?_; clear hl
  have hl1 : (s.heap.push { cls := .type "dict", data := .dict #[] }).get? l = some { cls := .type "list", data := .seq vs.toArray n } := Heap.get?_push_of_some _ hl0
  have hlt : l < s.heap.objs.size := Heap.lt_size hl0
  refine ⟨hnew.typeIs, F.args_dict_init_2 _ _, ?_⟩
  unfold Builtin.«dict.__init__»
  refine wpAny_bind ?_
  unfold Builtin.Dict.selfAndRest
  refine wpAny_bind (wpAny_notOrdered_dict hnew.typeIs ?_)
  show wpAny _ _ (pure (s.heap.objs.size, [Value.ref l])) _ _ _
  refine wpAny_pure ?_
  show wpAny _ _ (Builtin.Dict.updateFrom "dict.__init__" s.heap.objs.size (.ref l) [] .none) _ _ _
  unfold Builtin.Dict.updateFrom
  have hT : ({ s with heap := s.heap.push { cls := .type "dict", data := .dict #[] } } : Shared).TypeIs (.ref l) "list" := ⟨_, hl1, rfl⟩
  refine wpAny_bind (wpAny_typeOf hT ?_)
  rw [if_pos (by decide)]
  refine wpAny_bind ?_
  refine getAttr?_miss_list hl1 list_no_keys (by decide +kernel) hh (fun h2 tk2 hk2 => ?_) (by rw [sizeLine_eq]; decide +kernel)
  rw [if_pos (show (none : Option Value).isNone = true from rfl)]
  refine wpAny_bind (wpAny_rule ?_)
  have hl2 : h2.IsList l vs.toArray := ⟨_, hk2 _ _ hl1, rfl, n, rfl⟩
  refine wpAny_bind (wpAny_pyIter_list (s := { s with heap := h2, toks := tk2 }) hl2 ?_)
  have hD2 : (h2.push { cls := .type "list_iterator", data := .fields #[.ref l, .int 0 0] }).DictOf (intKind prog w) s.heap.objs.size (dfold (ps.take 0)) := by
    refine el_EEEA hnew fun o es ep ho r => ?_; clear hnew
    exact ⟨o, es, ep, Heap.get?_push_of_some _ (hk2 _ _ ho), r⟩
  have hDlt : s.heap.objs.size < h2.objs.size := by
    refine el_EEEA hnew fun o es ep ho r => ?_; clear hnew
    exact Heap.lt_size (hk2 _ _ ho)
  have kall : Kept s.heap (h2.push { cls := .type "list_iterator", data := .fields #[.ref l, .int 0 0] }) := ((Kept.push _ _).trans hk2).trans (Kept.push _ _)
  have main := pairs_loop (prog := prog) (w := w) (A := A.in1) (l := l) (I := h2.objs.size) (D := s.heap.objs.size) (vs := vs) (ps := ps) hh hz (Nat.ne_of_gt hDlt) (Nat.ne_of_lt (Nat.lt_trans hlt hDlt)) (Nat.ne_of_lt hlt) hp.length
    (R := wants (fun r s₂ => r = .none ∧ Q (.ref s.heap.objs.size) s₂) E)
    ps.length 0 { s with heap := h2.push { cls := .type "list_iterator", data := .fields #[.ref l, .int 0 0] }, toks := tk2 } 0 rfl (Nat.zero_le _) (hl2.push _) ⟨_, Heap.get?_push_size _ rfl, rfl, rfl⟩ hD2
    (hp.mono fun u p q => q.kept fun a vs t => kall.tup t)
    fun h3 k3 hd3 hk3 => ⟨rfl, h h3 k3 hd3 fun b o e => hk3 b o (by
        rintro rfl
        exact absurd (Heap.lt_size e) (Nat.not_lt.mpr (Nat.le_of_lt hDlt))) (Nat.ne_of_lt (Heap.lt_size e)) (kall b o e)⟩
  first
    | exact wpAny_pure ⟨plainId_quiet plain_update_loop _, main⟩
    | exact wpAny_pure (wpAny_pure ⟨plainId_quiet plain_update_loop _, main⟩)
    | exact wpAny_bind (wpAny_pure (wpAny_pure ⟨plainId_quiet plain_update_loop _, main⟩))
end
end Mine

/-! SortT -/
namespace Mine
open PySem PySem.W PyProof.Rows PySem.SeqAt

noncomputable abbrev Cmp := Nat → Nat → (Bool → Shared → Prop) → Shared → Prop
noncomputable def IsIns (P : Array Nat) (n pos : Nat) : Prop := P.size = n ∧ ∀ k, k < n → P[k]? = some (if k < pos then k else if k = pos then n - 1 else k - 1)
noncomputable def rng (n : Nat) : Array Nat := List.toArray (List.range n)
theorem rng_size (n : Nat) : (rng n).size = n := by simp [rng]
theorem rng_get {n i : Nat} (h : i < n) : (rng n)[i]? = some i := by simp [rng, h]
theorem rng_getD {n i : Nat} (h : i < n) : (rng n).getD i 0 = i := by simp [rng, Array.getD, h]

section
variable {cmp : Cmp} {key : Nat → Int} {n pos : Nat} {s : Shared}

theorem asc_all (hcmp : ∀ i j, i < n → j < n → i ≠ j → ∀ (C : Bool → Shared → Prop), C (decide (key i < key j)) s → cmp i j C s) (asc : ∀ i j, i < j → j < n → key i < key j) {G : Nat → Shared → Prop} :
    ∀ f m, 1 ≤ m → m + f = n → G n s → (kas_asc (rng n) f m).kasWp cmp G s := by
  intro f
  induction f with
  | zero => intro m _ h g; simp only [Nat.add_zero] at h; subst h; exact g
  | succ f ih =>
    intro m h1 h g
    have hm : m < n := by lia
    show cmp _ _ _ s
    rw [rng_getD hm, rng_getD (by omega)]
    refine hcmp _ _ hm (by omega) (by omega) _ ?_
    have : ¬ key m < key (m - 1) := by have := asc (m - 1) m (by omega) hm; lia
    simp only [this, decide_false, Bool.false_eq_true, if_false]
    exact ih (m + 1) (by lia) (by lia) g
theorem asc_but (hcmp : ∀ i j, i < n → j < n → i ≠ j → ∀ (C : Bool → Shared → Prop), C (decide (key i < key j)) s → cmp i j C s) (asc : ∀ i j, i < j → j < n - 1 → key i < key j) (last : key (n - 1) < key (n - 2)) {G : Nat → Shared → Prop} :
    ∀ f m, 1 ≤ m → m + f = n → 1 ≤ f → G (n - 1) s → (kas_asc (rng n) f m).kasWp cmp G s := by
  intro f
  induction f with
  | zero => intro m _ _ h; omega
  | succ f ih =>
    intro m h1 h hf g
    have hm : m < n := by lia
    show cmp _ _ _ s
    rw [rng_getD hm, rng_getD (by omega)]
    refine hcmp _ _ hm (by omega) (by omega) _ ?_
    by_cases hl : m = n - 1
    · subst hl
      have e : n - 1 - 1 = n - 2 := by lia
      rw [e]
      simp only [last, decide_true, if_true]
      exact g
    · have : ¬ key m < key (m - 1) := by have := asc (m - 1) m (by omega) (by lia); lia
      simp only [this, decide_false, Bool.false_eq_true, if_false]
      exact ih (m + 1) (by lia) (by lia) (by lia) g
theorem place_at (hcmp : ∀ i j, i < n → j < n → i ≠ j → ∀ (C : Bool → Shared → Prop), C (decide (key i < key j)) s → cmp i j C s) (hn : 1 ≤ n) (lo : ∀ i, i < pos → key i < key (n - 1)) (hi : ∀ i, pos ≤ i → i < n - 1 → key (n - 1) < key i) {G : Nat → Shared → Prop} (g : G pos s) :
    ∀ f l r, l ≤ pos → pos ≤ r → r ≤ n - 1 → r - l ≤ f → (kas_place (rng n) (n - 1) f l r).kasWp cmp G s := by
  intro f
  induction f with
  | zero =>
    intro l r h1 h2 h3 h4
    have : l = pos := by lia
    subst this; exact g
  | succ f ih =>
    intro l r h1 h2 h3 h4
    unfold kas_place
    by_cases h : l ≥ r
    · rw [if_pos h]
      have : l = pos := by lia
      subst this; exact g
    · rw [if_neg h]
      show cmp _ _ _ s
      have hm : (l + r) / 2 < n - 1 := by lia
      rw [rng_getD (by omega), rng_getD (by omega)]
      refine hcmp _ _ (by omega) (by omega) (by lia) _ ?_
      by_cases hp : pos ≤ (l + r) / 2
      · have := hi _ hp hm
        simp only [this, decide_true, if_true]
        exact ih _ _ h1 hp (by lia) (by omega)
      · have h5 := lo ((l + r) / 2) (by lia)
        have : ¬ key (n - 1) < key ((l + r) / 2) := by lia
        simp only [this, decide_false, Bool.false_eq_true, if_false]
        exact ih _ _ (by lia) h2 h3 (by omega)

theorem tree_sound (h2 : 2 ≤ n) (hpos : pos ≤ n - 1) (asc : ∀ i j, i < j → j < n - 1 → key i < key j) (lo : ∀ i, i < pos → key i < key (n - 1)) (hi : ∀ i, pos ≤ i → i < n - 1 → key (n - 1) < key i)
    (hcmp : ∀ i j, i < n → j < n → i ≠ j → ∀ (C : Bool → Shared → Prop), C (decide (key i < key j)) s → cmp i j C s) {G : Array Nat → Shared → Prop} (hG : ∀ P, IsIns P n pos → G P s) : (kas_sort n).kasWp cmp G s := by
  unfold kas_sort
  rw [KasT.kasWp_bind]
  unfold kas_count
  rw [KasT.kasWp_bind]
  show (kas_asc (rng n) (n - 1) 1).kasWp cmp _ s
  by_cases hp : pos = n - 1
  · subst hp
    refine asc_all hcmp (fun i j hij hj => ?_) (n - 1) 1 (Nat.le_refl _) (by lia) ?_
    · by_cases h : j < n - 1
      · exact asc i j hij h
      · have : j = n - 1 := by lia
        subst this; exact lo i (by omega)
    · rw [if_pos (by simp)]
      show (if n < n then _ else _ : KasT (Array Nat)).kasWp cmp G s
      rw [if_neg (Nat.lt_irrefl n)]
      refine hG _ ⟨rng_size n, fun k hk => ?_⟩
      have e := rng_get hk
      rw [show List.toArray (List.range n) = rng n from rfl, e]
      congr 1
      by_cases h : k < n - 1
      · rw [if_pos h]
      · rw [if_neg h, if_pos (by omega)]; omega
  · have hlast : key (n - 1) < key (n - 2) := hi (n - 2) (by omega) (by omega)
    refine asc_but hcmp asc hlast (n - 1) 1 (Nat.le_refl _) (by lia) (by lia) ?_
    have hne : ¬ ((n - 1 == n) = true) := by rw [beq_iff_eq]; lia
    rw [if_neg hne]
    by_cases h1 : n - 1 > 1
    · rw [if_pos h1]
      show cmp _ _ _ s
      rw [show List.toArray (List.range n) = rng n from rfl, rng_getD (by omega), rng_getD (by omega)]
      refine hcmp _ _ (by omega) (by omega) (by omega) _ ?_
      have hc : key 0 < key (n - 1 - 1) := asc _ _ (by omega) (by omega)
      simp only [hc, decide_true, if_true]
      show (if n - 1 < n then kas_bin (n - max (n - 1) 1) (rng n) (max (n - 1) 1) else _ : KasT (Array Nat)).kasWp cmp G s
      rw [if_pos (by omega)]
      have e1 : max (n - 1) 1 = n - 1 := by grind
      have e2 : n - max (n - 1) 1 = 1 := by lia
      rw [e2, e1]
      unfold kas_bin
      rw [KasT.kasWp_bind]
      refine place_at hcmp (by lia) lo hi ?_ _ _ _ (Nat.zero_le _) hpos (Nat.le_refl _) (by lia)
      unfold kas_bin
      refine hG _ ⟨by rw [bubble_size, rng_size], fun k hk => ?_⟩
      rw [getElem?_bubble (by rw [rng_size]; grind) _ (by grind)]
      have e3 : n - 1 - (n - 1 - pos) = pos := by lia
      rw [e3]
      by_cases hk1 : k = pos
      · subst hk1
        rw [if_pos rfl, rng_get (by lia), if_neg (Nat.lt_irrefl _), if_pos rfl]
      · rw [if_neg hk1]
        by_cases hk2 : k < pos
        · rw [if_neg (by lia), rng_get hk, if_pos hk2]
        · rw [if_pos (by lia), rng_get (by omega), if_neg hk2, if_neg hk1]
    · rw [if_neg h1]
      have hn2 : n = 2 := by grind
      subst hn2
      have hp0 : pos = 0 := by lia
      subst hp0
      show KasT.kasWp cmp _ _ s
      refine hG (kas_rev (rng 2) 0 2) ⟨?_, fun k hk => ?_⟩
      · decide
      · have : k = 0 ∨ k = 1 := by lia
        rcases this with rfl | rfl <;> decide
end
end Mine

/-! SortU -/
namespace Mine
open PySem PySem.W PyProof.Rows PySem.SeqAt

noncomputable def HeadAt (h : Heap) (u : Value) (k : Int) : Prop := ∃ a t rest, u = .ref a ∧ TupAt h a (.int k t :: rest)
theorem heads_tups {h : Heap} {vs : List Value} {ks : List Int} (q : All2 (HeadAt h) vs ks) : ∃ fs, KatTups h vs fs ∧ fs.length = vs.length ∧ ∀ v ∈ fs, ∃ k t, v = Value.int k t := by
  induction q with
  | nil => exact ⟨[], .nil, rfl, fun _ h => nomatch h⟩
  | @cons x y xs ys hx _ ih =>
    refine el_EAA ih fun fs t hl hv => ?_; clear ih
    refine el_EEEAE hx fun a tk rest hq1 n e => ?_; clear hx; subst hq1
    refine ⟨.int y tk :: fs, .cons e rfl rfl (by simp) t, by simp [hl], fun v hm => ?_⟩
    rcases List.mem_cons.mp hm with rfl | hm
    · exact ⟨_, _, rfl⟩
    · exact hv v hm

theorem insAt_get {α : Type} [Inhabited α] {l : List α} {P : Array Nat} {pos : Nat} {d : α} (hp : IsIns P l.length pos) (hpos : pos ≤ l.length - 1) (hne : 1 ≤ l.length) : (P.toList.map fun i => l.getD i d) = insAt pos l := by
  refine el_A hp fun hs hg => ?_; clear hp
  apply List.ext_getElem?
  intro k
  unfold insAt
  have hdl : (l.drop (l.length - 1)).length = 1 := by rw [List.length_drop]; lia
  have htl : (l.take pos).length = pos := by rw [List.length_take]; lia
  rcases Nat.lt_or_ge k l.length with hk | hk
  · have h1 := hg k hk
    rw [List.getElem?_map, Array.getElem?_toList, h1, Option.map_some]
    rw [List.getElem?_append]
    by_cases h2 : k < pos
    · rw [if_pos h2, if_pos (by rw [List.length_append]; lia), List.getElem?_append_left (by lia), List.getElem?_take_of_lt h2]
      rw [List.getD_eq_getElem?_getD, List.getElem?_eq_getElem hk]; rfl
    · rw [if_neg h2]
      by_cases h3 : k = pos
      · subst h3
        rw [if_pos rfl, if_pos (by rw [List.length_append]; lia), List.getElem?_append_right (by lia), htl, Nat.sub_self, List.getElem?_drop, Nat.add_zero]
        rw [List.getD_eq_getElem?_getD, List.getElem?_eq_getElem (show l.length - 1 < l.length by lia)]; rfl
      · rw [if_neg h3, if_neg (by rw [List.length_append]; lia)]
        have e : (l.take pos ++ l.drop (l.length - 1)).length = pos + 1 := by rw [List.length_append, htl, hdl]
        rw [e, List.getElem?_drop, List.getElem?_take_of_lt (by lia)]
        have e2 : pos + (k - (pos + 1)) = k - 1 := by lia
        rw [e2, List.getD_eq_getElem?_getD, List.getElem?_eq_getElem (by omega)]; rfl
  · rw [List.getElem?_eq_none (by rw [List.length_map, Array.length_toList, hs]; exact hk), List.getElem?_eq_none]
    rw [List.length_append, List.length_append, htl, hdl, List.length_drop, List.length_take]; lia

section
variable {prog : Program} {w : World} {A : Around} {E : Value → Shared → Prop} {s : Shared}

theorem cmp_tups {vs : List Value} {ks : List Int} (q : All2 (HeadAt s.heap) vs ks) (nd : ∀ i j, i < ks.length → j < ks.length → i ≠ j → ks.getD i 0 ≠ ks.getD j 0) :
    ∀ i j, i < ks.length → j < ks.length → i ≠ j → ∀ (C : Bool → Shared → Prop), C (decide (ks.getD i 0 < ks.getD j 0)) s → kas_cmp prog w A (tuples' true) (pairsOf vs) i j C s := by
  intro i j hi hj hne C hC
  unfold kas_cmp
  rw [kas_item_eq, kas_item_eq]
  refine el_EAEEEAE (q.get i _ (List.getElem?_eq_getElem hi)) fun x hx a t rest hq2 n ea => ?_; subst hq2
  refine el_EAEEEAE (q.get j _ (List.getElem?_eq_getElem hj)) fun y hy b t' rest' hq3 n' eb => ?_; subst hq3
  have e1 : vs.getD i Value.none = .ref a := by rw [List.getD_eq_getElem?_getD, hx]; rfl
  have e2 : vs.getD j Value.none = .ref b := by rw [List.getD_eq_getElem?_getD, hy]; rfl
  have k1 : ks.getD i 0 = ks[i] := by rw [List.getD_eq_getElem?_getD, List.getElem?_eq_getElem hi]; rfl
  have k2 : ks.getD j 0 = ks[j] := by rw [List.getD_eq_getElem?_getD, List.getElem?_eq_getElem hj]; rfl
  have hn := nd i j hi hj hne
  rw [e1, e2]
  rw [k1, k2] at hC hn
  refine kat_lt ea rfl eb rfl ?_
  refine kat_cons (wpAny_eqBool_int ?_)
  rw [show (ks[i] == ks[j]) = false from beq_eq_false_iff_ne.mpr hn]
  exact kat_no (oneLt_int hC)

theorem list_sort_ins {a : Addr} {vs : List Value} {ks : List Int} {n pos : Nat} {P : Fin → Shared → Prop} (ho : s.heap.get? a = some (seqObj "list" vs.toArray n)) (q : All2 (HeadAt s.heap) vs ks) (h64 : vs.length < 64) (hne : 1 ≤ vs.length)
    (hpos : pos ≤ ks.length - 1) (asc : ∀ i j, i < j → j < ks.length - 1 → ks.getD i 0 < ks.getD j 0) (lo : ∀ i, i < pos → ks.getD i 0 < ks.getD (ks.length - 1) 0) (hi : ∀ i, pos ≤ i → i < ks.length - 1 → ks.getD (ks.length - 1) 0 < ks.getD i 0)
    (h : P (.done (.ret .none)) { s with heap := sortedHeap s.heap a vs (insAt pos vs).toArray }) :
    wpAny (model prog w) A (Builtin.«list.sort» ⟨[.ref a], []⟩) P E s := by
  have hl := q.length
  rw [list_sort_plain]
  have ha : a < s.heap.objs.size := Heap.lt_size ho
  refine wpAny_bind (listItems_at ho rfl ?_)
  refine wpAny_bind (listUpdate_at ho rfl ?_ (by rw [List.size_toArray, sizeLine_eq]; omega) (Nat.zero_le _))
  obtain ⟨e1, ho1⟩ : ∃ e1, (s.heap.update a (Obj.mapSeq fun _ => (#[] : Array Value))).get? a = some (seqObj "list" #[] e1) := ⟨_, get?_update_seq ho fun _ => #[]⟩
  refine wpAny_bind (seqEpoch_at ho1 rfl ?_)
  refine wpAny_bind (wpAny_newTuple ?_ (by show vs.length ≤ _; rw [sizeLine_eq]; omega))
  refine wpAny_bind (wpAny_newList ?_ (Nat.zero_le _))
  refine wpAny_holding ?_
  have ho6 : (((s.heap.update a (Obj.mapSeq fun _ => #[])).push (seqObj "tuple" vs.toArray 0)).push (seqObj "list" #[] 0)).get? a = some (seqObj "list" #[] e1) :=
    Heap.get?_push_of_some _ (Heap.get?_push_of_some _ ho1)
  have q6 : All2 (HeadAt (((s.heap.update a (Obj.mapSeq fun _ => #[])).push (seqObj "tuple" vs.toArray 0)).push (seqObj "list" #[] 0))) vs ks := q.mono fun u k hu => by
    refine el_EEEAE hu fun b t rest e nb hb => ?_; clear hu
    refine ⟨b, t, rest, e, nb, Heap.get?_push_of_some _ (Heap.get?_push_of_some _ ((Heap.get?_update_other _ _ ?_).trans hb))⟩
    rintro rfl
    rw [ho] at hb; simp at hb
  show wpAny (model prog w) A _ P E { s with heap := ((s.heap.update a (Obj.mapSeq fun _ => #[])).push (seqObj "tuple" vs.toArray 0)).push (seqObj "list" #[] 0) }
  dsimp only
  by_cases h2 : vs.toArray.size < 2
  · have hv1 : vs.length = 1 := by rw [List.size_toArray] at h2; lia
    refine el_E (List.length_eq_one_iff.mp hv1) fun v hq4 => ?_; subst hq4
    have hp0 : pos = 0 := by simp at hl; lia
    subst hp0
    rw [if_pos h2, if_pos h2]
    refine wpAny_bind (wpAny_pure ?_)
    rw [StateT.run_pure]
    refine wpAny_bind (wpAny_pure ?_)
    dsimp only
    refine wpAny_bind (seqEpoch_at ho6 rfl ?_)
    refine wpAny_bind (listUpdate_at ho6 rfl ?_ (Nat.zero_le _) (by show (Array.map _ _).size ≤ _; rw [sizeLine_eq]; simp [arrOf, SortSt.mk']))
    simp only [bne_self_eq_false, Bool.false_eq_true, if_false]
    refine wpAny_pure ?_
    have e : (insAt 0 [v]).toArray = #[v] := rfl
    rw [e] at h
    have e2 : Array.map (fun x => x.snd) (arrOf (SortSt.mk' general' (#[v].zip #[v]) #[] 7 none)) = #[v] := by
      show Array.map (fun x : Keyed => x.2) ((#[v] : Array Value).zip #[v]) = #[v]
      simp
    rw [e2]
    exact h
  · rw [if_neg h2, if_neg h2]
    rw [List.size_toArray] at h2
    refine el_EAA (heads_tups q6) fun fs ft hfl hfi => ?_
    refine wpAny_bind (kat_kind ft (by omega) (T := .type "int") (fun v hv => by refine el_EE (hfi v hv) fun k t hq5 => ?_; subst hq5; exact Looks.of_pure rfl) rfl ?_)
    have tree := tree_sound (cmp := kas_cmp prog w A (tuples' true) (pairsOf vs)) (key := fun i => ks.getD i 0) (n := ks.length) (pos := pos) (s := { s with heap := ((s.heap.update a (Obj.mapSeq fun _ => #[])).push (seqObj "tuple" vs.toArray 0)).push (seqObj "list" #[] 0) })
      (by omega) hpos asc lo hi (cmp_tups (s := { s with heap := ((s.heap.update a (Obj.mapSeq fun _ => #[])).push (seqObj "tuple" vs.toArray 0)).push (seqObj "list" #[] 0) }) q6 (fun i j hi' hj' hne' => by
        have key : ∀ i j, i < j → j < ks.length → ks.getD i 0 ≠ ks.getD j 0 := fun i j hij hj => by
          by_cases hjl : j < ks.length - 1
          · exact Int.ne_of_lt (asc i j hij hjl)
          · have : j = ks.length - 1 := by lia
            subst this
            by_cases hip : i < pos
            · exact Int.ne_of_lt (lo i hip)
            · exact Int.ne_of_gt (hi i (by lia) (by omega))
        rcases Nat.lt_or_ge i j with hij | hij
        · exact key i j hij hj'
        · exact (key j i (by lia) hi').symm))
      (G := fun P' s' => IsIns P' ks.length pos ∧ s' = { s with heap := ((s.heap.update a (Obj.mapSeq fun _ => #[])).push (seqObj "tuple" vs.toArray 0)).push (seqObj "list" #[] 0) }) (fun P' hP' => ⟨hP', rfl⟩)
    rw [← hl] at tree
    have tree2 : (kas_sort vs.length).kasWp (kas_ask prog w A (tuples' (Value.type "int" != Value.type "tuple")) vs) (fun P' s' => IsIns P' vs.length pos ∧ s' = { s with heap := ((s.heap.update a (Obj.mapSeq fun _ => #[])).push (seqObj "tuple" vs.toArray 0)).push (seqObj "list" #[] 0) }) { s with heap := ((s.heap.update a (Obj.mapSeq fun _ => #[])).push (seqObj "tuple" vs.toArray 0)).push (seqObj "list" #[] 0) } := by
      rw [kas_ask_eq]; exact tree
    refine wpAny_bind (wpAny_mono (kat_run (Q := fun st' s' => ∃ p : Array Nat, IsIns p vs.length pos ∧ arrOf st' = p.map (kas_item (vs.toArray.zip vs.toArray)) ∧ failedOf st' = none ∧ s' = { s with heap := ((s.heap.update a (Obj.mapSeq fun _ => #[])).push (seqObj "tuple" vs.toArray 0)).push (seqObj "list" #[] 0) })
      rfl (by omega) h64 (fun p' st' s' a1 a2 a3 a4 => ⟨p', a4.1, a2, a3, a4.2⟩) tree2) ?_ fun _ _ e => e)
    rintro ⟨⟨⟩, st'⟩ s' ⟨p, hp, har, hf, rfl⟩
    dsimp only
    have hout := kat_snds rfl har
    rw [insAt_get (d := Value.none) hp (by lia) hne] at hout
    refine wpAny_bind (seqEpoch_at ho6 rfl ?_)
    have hol : (insAt pos vs).length ≤ sizeLine := by
      unfold insAt
      rw [List.length_append, List.length_append, List.length_take, List.length_drop, List.length_drop, List.length_take, sizeLine_eq]; grind
    rw [hout]
    refine wpAny_bind (listUpdate_at ho6 rfl ?_ (Nat.zero_le _) (by rw [List.size_toArray]; lia))
    rw [hf]
    simp only [bne_self_eq_false, Bool.false_eq_true, if_false]
    exact wpAny_pure h

theorem call_sorted_ins {l : Addr} {vs : List Value} {ks : List Int} {pos : Nat} {Q : Value → Shared → Prop} (hl : s.heap.IsList l vs.toArray) (q : All2 (HeadAt s.heap) vs ks) (h64 : vs.length < 64) (hne : 1 ≤ vs.length)
    (hpos : pos ≤ ks.length - 1) (asc : ∀ i j, i < j → j < ks.length - 1 → ks.getD i 0 < ks.getD j 0) (lo : ∀ i, i < pos → ks.getD i 0 < ks.getD (ks.length - 1) 0) (hi : ∀ i, pos ≤ i → i < ks.length - 1 → ks.getD (ks.length - 1) 0 < ks.getD i 0)
    (h : Q (.ref (s.heap.objs.size + 1)) { s with heap := sortedAll s.heap vs (insAt pos vs).toArray }) :
    wpAny (model prog w) A (call (.builtin "sorted") [.ref l]) Q E s := by
  refine Calls.call_function_entry kind_sorted plain_sorted entry_sorted (args_sorted1 _) ?_
  unfold Builtin.«sorted»
  refine wpAny_bind (m := checkCount "sorted" 1 1 _) (wpAny_pure ?_)
  refine wpAny_bind (collect_list hl ?_ (by rw [sizeLine_eq]; omega))
  refine wpAny_bind (wpAny_newList ?_ (by rw [sizeLine_eq]; omega))
  have hsz : ((s.heap.push (seqObj "list" #[] 0)).update s.heap.objs.size (Obj.mapSeq (· ++ vs.toArray))).objs.size = s.heap.objs.size + 1 := by
    rw [Heap.size_update, size_push']
  have hoL : (((s.heap.push (seqObj "list" #[] 0)).update s.heap.objs.size (Obj.mapSeq (· ++ vs.toArray))).push (seqObj "list" vs.toArray 0)).get? (s.heap.objs.size + 1) = some (seqObj "list" vs.toArray 0) := by
    rw [← hsz]; exact Heap.get?_push_size _ rfl
  have q2 : All2 (HeadAt (((s.heap.push (seqObj "list" #[] 0)).update s.heap.objs.size (Obj.mapSeq (· ++ vs.toArray))).push (seqObj "list" vs.toArray 0))) vs ks := q.mono fun u k hu => by
    refine el_EEEAE hu fun b t rest e nb hb => ?_; clear hu
    have hlt := Heap.lt_size hb
    refine ⟨b, t, rest, e, nb, Heap.get?_push_of_some _ ((Heap.get?_update_other _ _ (Nat.ne_of_gt hlt)).trans (Heap.get?_push_of_some _ hb))⟩
  show wpAny _ _ _ _ _ { s with heap := ((s.heap.push (seqObj "list" #[] 0)).update s.heap.objs.size (Obj.mapSeq (· ++ vs.toArray))).push (seqObj "list" vs.toArray 0) }
  rw [hsz]
  refine wpAny_bind (wpAny_holding (wpAny_call_entry slot_list_sort ⟨_, hoL, rfl⟩ entry_list_sort (list_sort_ins hoL q2 h64 hne hpos asc lo hi ⟨_, rfl, ?_⟩) (args_list_sort _)))
  exact wpAny_pure ⟨_, rfl, h⟩
end
end Mine

/-! Ops4 -/
namespace Mine
open PySem PySem.W PyProof.Rows PySem.SeqAt

noncomputable def bfVal : Bf → Value
  | .len => .builtin "len" | .bytes => .type "bytes" | .list => .type "list" | .sorted => .builtin "sorted"
  | .min => .builtin "min" | .max => .builtin "max" | .sum => .builtin "sum" | .dict => .type "dict"

theorem maxI_mem : ∀ (r : List Int) (m : Int), maxI m r ∈ m :: r
  | [], m => by simp [maxI]
  | i :: r, m => by
    unfold maxI
    have h := maxI_mem r (if m < i then i else m)
    rcases List.mem_cons.mp h with e | e
    · rw [e]; split <;> simp
    · exact List.mem_cons_of_mem _ (List.mem_cons_of_mem _ e)
theorem maxI_le : ∀ (r : List Int) (m : Int), ∀ a ∈ m :: r, a ≤ maxI m r
  | [], m => by intro a h; simp at h; subst h; simp [maxI]
  | i :: r, m => by
    intro a h
    unfold maxI
    have k := maxI_le r (if m < i then i else m)
    have k0 := k _ (List.mem_cons_self ..)
    rcases List.mem_cons.mp h with rfl | h
    · split at k0 <;> rename_i hc <;> simp only [hc, if_true, if_false] <;> omega
    · rcases List.mem_cons.mp h with rfl | h
      · split at k0 <;> rename_i hc <;> simp only [hc, if_true, if_false] <;> omega
      · exact k a (List.mem_cons_of_mem _ h)

theorem insI_mem (i : Int) : ∀ (l : List Int), ∀ a, a ∈ insI i l ↔ a = i ∨ a ∈ l
  | [], a => by simp [insI]
  | j :: r, a => by
    unfold insI
    split
    · simp
    · simp only [List.mem_cons, insI_mem i r a]
      constructor
      · rintro (h | h | h) <;> simp [h]
      · rintro (h | h | h) <;> simp [h]
theorem insI_perm (i : Int) : ∀ (l : List Int), (insI i l).Perm (i :: l)
  | [] => by simp [insI]
  | j :: r => by
    unfold insI
    split
    · exact List.Perm.refl _
    · exact ((insI_perm i r).cons j).trans (List.Perm.swap i j r)
theorem insI_sorted (i : Int) : ∀ (l : List Int), l.Pairwise (· ≤ ·) → (insI i l).Pairwise (· ≤ ·)
  | [], _ => by simp [insI]
  | j :: r, h => by
    unfold insI
    refine el_A (List.pairwise_cons.mp h) fun h1 h2 => ?_
    split
    · rename_i hc
      refine List.pairwise_cons.mpr ⟨fun a ha => ?_, h⟩
      rcases List.mem_cons.mp ha with rfl | ha
      · exact hc
      · exact Int.le_trans hc (h1 a ha)
    · rename_i hc
      refine List.pairwise_cons.mpr ⟨fun a ha => ?_, insI_sorted i r h2⟩
      rcases (insI_mem i r a).mp ha with rfl | ha
      · omega
      · exact h1 a ha
theorem sortI_perm (l : List Int) : (sortI l).Perm l := by
  induction l with
  | nil => exact List.Perm.refl _
  | cons i r ih => exact (insI_perm i _).trans (ih.cons i)
theorem sortI_sorted (l : List Int) : (sortI l).Pairwise (· ≤ ·) := by
  induction l with
  | nil => exact List.Pairwise.nil
  | cons i r ih => exact insI_sorted i _ ih
theorem sorted_unique : ∀ {l l' : List Int}, l.Perm l' → l.Pairwise (· ≤ ·) → l'.Pairwise (· ≤ ·) → l = l'
  | [], l', p, _, _ => (List.Perm.nil_eq p)
  | a :: l, [], p, _, _ => by have := p.length_eq; simp at this
  | a :: l, b :: l', p, h, h' => by
    refine el_A (List.pairwise_cons.mp h) fun h1 h2 => ?_
    refine el_A (List.pairwise_cons.mp h') fun h1' h2' => ?_
    have hab : a = b := by
      have ha : a ∈ b :: l' := p.mem_iff.mp (List.mem_cons_self ..)
      have hb : b ∈ a :: l := p.mem_iff.mpr (List.mem_cons_self ..)
      rcases List.mem_cons.mp ha with e | ha
      · exact e
      · rcases List.mem_cons.mp hb with e | hb
        · exact e.symm
        · exact Int.le_antisymm (h1 b hb) (h1' a ha)
    subst hab
    rw [sorted_unique (p.cons_inv) h2 h2']

section
variable {prog : Program} {w : World} {h₀ h : Heap} {as : Nat → Addr} {σ σ' : St} {s : Shared} {u u' : Value} {v v' r : AV} {A : Around} {n N : Nat} {E : Value → Shared → Prop}

theorem ints_are' {xs : List AV} {us : List Value} (q : All2 (Rep h as N) us xs) : ∀ {is : List Int}, intsOf xs = some is → IntsAre us is := by
  induction q with
  | nil => intro is e; cases e; exact .nil
  | @cons u x us xs hx q ih =>
    intro is e
    refine int_elim (P := fun x => Rep h as N u x → IntsAre (u :: us) is) e (fun i e hx => ?_) hx
    refine el_E hx fun t hq1 => ?_; clear hx; subst hq1
    exact map_elim (P := IntsAre _) e fun js ej => .cons i t (ih ej)
theorem ints_are {xs : List AV} {is : List Int} {us : List Value} (e : intsOf xs = some is) (q : All2 (Rep h as N) us xs) : IntsAre us is := ints_are' q e

theorem sum_sound {l : Addr} {vs : List Value} {ns : List Int} {Q : Value → Shared → Prop} (hh : A.handled = none) (hl : s.heap.IsList l vs.toArray) (hi : IntsAre vs ns)
    (h : ∀ h' tk t', Kept s.heap h' → Q (.int ns.sum t') { s with heap := h', toks := tk }) : wpAny (model prog w) A (call (.builtin "sum") [.ref l]) Q E s := by
  refine el_E hi.allInts.items fun xs e => ?_
  have hns : ns = xs.toList.map (·.1) := by
    rw [← hi.numsOf, ← nums_intItems, ← e]
  rw [e] at hl
  refine call_sum_walkG (iter_intList hl fun s₂ e st hfp hlI => ?_)
  subst e
  refine ⟨_, _, _, _, _, _, numAt xs, rfl, Walks.list (A := A.in1) hh _ l hlI (intItems xs), st, hfp, (fun _ _ => intItems_at), fun h' tk t' hk => ?_⟩
  have := h h' tk t' (old_kept hk)
  have e2 : preSum (numAt xs) (intItems xs).size = ns.sum := by
    rw [preSum_eq, hns]
    congr 1
    rw [List.take_of_length_le (by simp [intItems])]
  rw [e2]
  exact this

theorem max_sound {l : Addr} {vs : List Value} {i : Int} {r : List Int} {Q : Value → Shared → Prop} (hh : A.handled = none) (hl : s.heap.IsList l vs.toArray) (hi : IntsAre vs (i :: r))
    (h : ∀ h' tk t', Kept s.heap h' → Q (.int (maxI i r) t') { s with heap := h', toks := tk }) : wpAny (model prog w) A (call (.builtin "max") [.ref l]) Q E s := by
  refine el_E hi.allInts.items fun xs e => ?_
  have hns : i :: r = xs.toList.map (·.1) := by
    rw [← hi.numsOf, ← nums_intItems, ← e]
  have hsz : 0 < xs.size := by
    have h3 : (i :: r).length = xs.size := by rw [hns, List.length_map, Array.length_toList]
    simp at h3; omega
  rw [e] at hl
  refine max_intList hh hl hsz fun v h' tk hv hk => ?_
  refine el_E (intItems_at hv) fun t hq2 => ?_; subst hq2
  refine el_A (argBest_gt (numAt xs) (xs.size - 1)) fun h1 h2 => ?_
  have hmem : numAt xs (argBest (fun i j => decide (numAt xs i > numAt xs j)) (xs.size - 1)) ∈ i :: r := by
    rw [hns, numAt_eq]; exact getD_mem (by rw [List.length_map, Array.length_toList]; omega)
  have hle : ∀ a ∈ i :: r, a ≤ numAt xs (argBest (fun i j => decide (numAt xs i > numAt xs j)) (xs.size - 1)) := fun a ha => by
    rw [hns] at ha
    refine el_EA (mem_getD ha) fun j hj hq3 => ?_; subst hq3
    rw [List.length_map, Array.length_toList] at hj
    rw [← numAt_eq]; exact h2 j (by omega)
  have e2 : numAt xs (argBest (fun i j => decide (numAt xs i > numAt xs j)) (xs.size - 1)) = maxI i r :=
    Int.le_antisymm (maxI_le r i _ hmem) (hle _ (maxI_mem r i))
  rw [e2]
  exact h h' tk t hk
end
end Mine

/-! Ops5 -/
namespace Mine
open PySem PySem.W PyProof.Rows PySem.SeqAt

section
variable {prog : Program} {w : World} {h₀ h h' : Heap} {as : Nat → Addr} {σ σ' : St} {s : Shared} {u u' : Value} {v v' r : AV} {A : Around} {n N : Nat} {E : Value → Shared → Prop}

theorem octs_arr : ∀ {is : List Int} {bs : List UInt8}, octs is = some bs → bs.toArray = byteArr is ∧ bs.length = is.length ∧ ∀ i ∈ is, 0 ≤ i ∧ i < 256
  | [], bs, e => by simp [octs] at e; subst e; exact ⟨rfl, rfl, fun _ h => nomatch h⟩
  | i :: r, bs, e => by
    unfold octs at e
    split at e
    · rename_i hi
      simp only [Option.map_eq_some_iff] at e
      refine el_EA e fun cs ec hq1 => ?_; clear e; subst hq1
      refine el_AA (octs_arr ec) fun a b c => ?_
      refine ⟨?_, by simp [b], fun j hj => ?_⟩
      · have : cs = (r.map fun n => n.toNat.toUInt8) := by
          have := congrArg Array.toList a
          simpa [byteArr] using this
        rw [this]; rfl
      · rcases List.mem_cons.mp hj with rfl | hj
        · exact hi
        · exact c j hj
    · cases e

theorem pr_rel {x : AV} {p : Int × At} (e : prOf x = some p) : ∃ y, x = .tup [.int p.1, y] ∧ p.2 = y := by
  unfold prOf at e
  rcases by_some e with ⟨_, _, e⟩ | ⟨_, _, e⟩ | ⟨_, _, e⟩ | ⟨l, rfl, e⟩
  · exact nope e
  · exact nope e
  · exact nope e
  · rcases l with _ | ⟨a, _ | ⟨b, _ | ⟨_, _⟩⟩⟩
    · exact nope e
    · exact nope e
    · refine int_elim (P := fun v => (AV.a a = v) → ∃ y, AV.tup [a, b] = .tup [.int p.1, y] ∧ p.2 = y) e (fun i e h => ?_) rfl
      cases h; cases e; exact ⟨b, rfl, rfl⟩
    · exact nope e
theorem prs_rel {xs : List AV} {us : List Value} (q : All2 (Rep h as N) us xs) : ∀ {ps : List (Int × At)}, prsOf xs = some ps → ∃ ws : List (Int × Value), All2 (PairAt h) us ws ∧ All2 (fun (p : Int × Value) (q : Int × At) => p.1 = q.1 ∧ RepA as N p.2 q.2) ws ps := by
  induction q with
  | nil => exact fun e => some_elim (P := fun ps => ∃ ws : List (Int × Value), All2 (PairAt h) [] ws ∧ All2 (fun (p : Int × Value) (q : Int × At) => p.1 = q.1 ∧ RepA as N p.2 q.2) ws ps) e ⟨[], .nil, .nil⟩
  | cons hx q ih =>
    intro ps e
    refine bind_elim e fun p ep e => map_elim (P := fun ps => ∃ ws : List (Int × Value), All2 (PairAt h) _ ws ∧ All2 (fun (p : Int × Value) (q : Int × At) => p.1 = q.1 ∧ RepA as N p.2 q.2) ws ps) e fun js ej => ?_
    refine el_EA (ih ej) fun ws w1 w2 => ?_
    refine el_EA (pr_rel ep) fun y hq2 hq3 => ?_; subst hq2; subst hq3
    refine el_EEAAA hx fun a vs hq4 t qa z => ?_; clear hx; subst hq4
    cases qa with
    | cons r1 q1 => cases q1 with
      | cons r2 q2 => cases q2 with
        | nil =>
          refine el_E r1 fun tk hq5 => ?_; subst hq5
          exact ⟨(p.1, _) :: ws, .cons ⟨a, tk, rfl, t⟩ w1, .cons ⟨rfl, r2⟩ w2⟩

noncomputable abbrev DRel (h : Heap) (as : Nat → Addr) (N : Nat) : List (Int × Value) → List (Int × AV) → Prop := All2 (fun p q => p.1 = q.1 ∧ Rep h as N p.2 q.2)
theorem any_rel {ws : List (Int × Value)} {kvs : List (Int × AV)} (q : DRel h as N ws kvs) (k : Int) : (ws.any fun kv => decide (kv.1 = k)) = kvs.any fun kv => decide (kv.1 = k) := by
  induction q with
  | nil => rfl
  | cons hx _ ih => simp only [List.any_cons, ih, hx.1]
theorem stored_rel {ws : List (Int × Value)} {kvs : List (Int × AV)} (q : DRel h as N ws kvs) (k : Int) (r : Rep h as N u v) : DRel h as N (stored ws k u) (dput kvs k v) := by
  unfold stored dput
  rw [any_rel q k]
  split
  · refine q.map2 fun x y hxy => ?_
    rw [hxy.1]
    split
    · exact ⟨rfl, r⟩
    · exact hxy
  · exact q.append (.cons ⟨rfl, r⟩ .nil)
theorem without_rel {ws : List (Int × Value)} {kvs : List (Int × AV)} (q : DRel h as N ws kvs) (k : Int) : DRel h as N (without ws k) (ddel kvs k) := by
  unfold without ddel
  induction q with
  | nil => exact .nil
  | @cons x y xs ys hx _ ih =>
    simp only [List.filter_cons, ← hx.1]
    split
    · exact .cons hx ih
    · exact ih
theorem dfold_rel {ws : List (Int × Value)} {ps : List (Int × At)} (q : All2 (fun (p : Int × Value) (q : Int × At) => p.1 = q.1 ∧ RepA as N p.2 q.2) ws ps) : ∀ {d : List (Int × Value)} {d' : List (Int × AV)}, DRel h as N d d' →
    DRel h as N (ws.foldl (fun d p => stored d p.1 p.2) d) (ps.foldl (fun d p => dput d p.1 (.a p.2)) d') := by
  induction q with
  | nil => exact fun q => q
  | cons hx _ ih =>
    intro d d' q
    refine ih ?_
    show DRel h as N (stored d _ _) (dput d' _ _)
    rw [hx.1]
    exact stored_rel q _ hx.2
theorem dput_len (kvs : List (Int × AV)) (k : Int) (v : AV) : (dput kvs k v).length ≤ kvs.length + 1 := by
  unfold dput; split <;> simp
theorem ddel_len (kvs : List (Int × AV)) (k : Int) : (ddel kvs k).length ≤ kvs.length := List.length_filter_le _ _
theorem dputs_len : ∀ (ps : List (Int × At)) (d : List (Int × AV)), (ps.foldl (fun d p => dput d p.1 (.a p.2)) d).length ≤ d.length + ps.length
  | [], d => Nat.le_refl _
  | p :: r, d => by
    rw [List.foldl_cons, List.length_cons]
    have := dputs_len r (dput d p.1 (.a p.2))
    have := dput_len d p.1 (.a p.2)
    omega

theorem Post.dict (S : SRel prog w h₀ s.heap as σ) (k : Kept s.heap h') (tk : Tok) {a : Addr} {kvs : List (Int × AV)} {ws : List (Int × Value)} (hf : New s.heap a) (hl : h'.DictOf (intKind prog w) a ws)
    (hr : DRel s.heap as σ.next ws kvs) (hz : kvs.length ≤ lim) : Post prog w h₀ s as σ (.loc σ.next) (σ.alloc (.dict kvs)) (.ref a) { s with heap := h', toks := tk } := by
  have A := alloc_rel S k tk (d := .dict kvs) hf ⟨hz, ws, hl, hr.mono fun _ _ r => ⟨r.1, r.2.keeps (Nat.le_succ _) (fun l hl => upd_ne _ _ (Nat.ne_of_lt hl)) fun _ _ _ t => k.tup t⟩⟩
  exact ⟨_, A.1, A.2, ⟨Nat.lt_succ_self _, by rw [upd_eq]⟩⟩

theorem sortedHeap_keeps {a : Addr} {vs : List Value} {out : Array Value} (ha : a < h.objs.size) : ∀ b o, b ≠ a → h.get? b = some o → (sortedHeap h a vs out).get? b = some o := fun b o hb e => by
  rw [sortedHeap_old hb (Heap.lt_size e)]; exact e

theorem sorted_dict {d : Addr} {ws : List (Int × Value)} {Q : Value → Shared → Prop} (hh : A.handled = none) (lo : (d == sysModules) = false) (hd : s.heap.DictOf (intKind prog w) d ws) (h64 : ws.length < 64)
    (h : ∀ h' tk D (out : List Value) (ns : List Int), Kept s.heap h' → New s.heap D → h'.PlainList D out.toArray → IntsAre out ns → ns.Perm (ws.map (·.1)) → ns.Pairwise (· ≤ ·) → Q (.ref D) { s with heap := h', toks := tk }) :
    wpAny (model prog w) A (call (.builtin "sorted") [.ref d]) Q E s := by
  refine el_E hd.dictAt fun ep hat => ?_
  refine Calls.call_function_entry kind_sorted plain_sorted entry_sorted (args_sorted1 _) ?_
  unfold Builtin.«sorted»
  refine wpAny_bind (m := checkCount "sorted" 1 1 _) (wpAny_pure ?_)
  refine wpAny_bind (kdu_collect (A := A.in1) (kdl_dict (knd := intKind prog w) (kvs := ws) (ep := ep) lo) hh hat (by rw [sizeLine_eq]; omega) fun h1 tk acc hk hacc => ?_)
  have hl : acc.toList.length = ws.length := by rw [Array.length_toList]; exact hacc.1
  have hi : IntsAre acc.toList (ws.map (·.1)) := by
    have key : ∀ (l : List Value) (m : List (Int × Value)), l.length = m.length → (∀ (j : Nat) v, l[j]? = some v → ∃ k x, m[j]? = some (k, x) ∧ (intKind prog w).is k v = true) → IntsAre l (m.map (·.1)) := by
      intro l
      induction l with
      | nil => intro m hm _; cases m with
        | nil => exact .nil
        | cons _ _ => simp at hm
      | cons v l ih => intro m hm hp; cases m with
        | nil => simp at hm
        | cons y m =>
          refine el_EEA (hp 0 v (by simp)) fun k x e1 e2 => ?_
          simp at e1; subst e1
          refine el_E (Value.isInt_shape e2) fun t hq6 => ?_; subst hq6
          exact .cons k t (ih m (by simpa using hm) fun j v hv => hp (j + 1) v (by simpa using hv))
    refine key _ _ hl fun j v hv => ?_
    exact hacc.2 j v (by rw [← Array.getElem?_toList]; exact hv)
  refine wpAny_bind (wpAny_newList ?_ (by rw [hl, sizeLine_eq]; omega))
  have hnew : (h1.push { cls := .type "list", data := .seq acc.toList.toArray }).get? h1.objs.size = some (seqObj "list" acc.toList.toArray 0) := Heap.get?_push_size _ rfl
  have hlt : h1.objs.size < (h1.push { cls := .type "list", data := .seq acc.toList.toArray }).objs.size := by rw [Heap.size_push]; exact Nat.lt_succ_self _
  have hsz : New s.heap h1.objs.size := ⟨h1, hk, Nat.le_refl _⟩
  refine wpAny_bind (wpAny_holding (wpAny_call_entry slot_list_sort (s := { s with heap := h1.push { cls := .type "list", data := .seq acc.toList.toArray }, toks := tk }) ⟨_, hnew, rfl⟩ entry_list_sort (list_sort_tree (s := { s with heap := h1.push { cls := .type "list", data := .seq acc.toList.toArray }, toks := tk }) hnew hi (by rw [hl]; exact h64) fun out ns' a1 a2 a3 => ⟨_, rfl, ?_⟩) (args_list_sort _)))
  refine wpAny_pure ⟨_, rfl, h _ _ h1.objs.size out.toList ns' ?_ hsz ?_ a1 a2 a3⟩
  · exact fun b o e => sortedHeap_keeps hlt b o (Nat.ne_of_lt (Heap.lt_size (hk b o e))) (Heap.get?_push_of_some _ (hk b o e))
  · refine el_E (sortedHeap_at (vs := acc.toList) (out := out) hnew) fun e he => ?_
    exact ⟨e, by rw [Array.toArray_toList]; exact he⟩
end
end Mine

/-! Ops6 -/
namespace Mine
open PySem PySem.W PyProof.Rows PySem.SeqAt

theorem All2.one {α β : Type} {R : α → β → Prop} {us : List α} {v : β} (q : All2 R us [v]) : ∃ u, us = [u] ∧ R u v := by
  cases q with
  | cons r q1 => cases q1 with
    | nil => exact ⟨_, rfl, r⟩
theorem All2.two {α β : Type} {R : α → β → Prop} {us : List α} {v v' : β} (q : All2 R us [v, v']) : ∃ u u', us = [u, u'] ∧ R u v ∧ R u' v' := by
  cases q with
  | cons r q1 =>
    refine el_EA q1.one fun u' hq1 r' => ?_; subst hq1
    exact ⟨_, _, rfl, r, r'⟩
theorem heads_len : ∀ {xs : List AV} {ks : List Int}, heads xs = some ks → ks.length = xs.length
  | [], ks, e => by simp [heads] at e; subst e; rfl
  | x :: xs, ks, e => by
    simp only [heads, Option.bind_eq_some_iff, Option.map_eq_some_iff] at e
    refine el_EAEA e fun i _ js ej hq2 => ?_; clear e; subst hq2
    simp [heads_len ej]
theorem insPos_spec (k : Int) : ∀ (l : List Int), l.Pairwise (· < ·) → insPos k l ≤ l.length ∧ (∀ i, i < insPos k l → l.getD i 0 < k) ∧ (∀ i, insPos k l ≤ i → i < l.length → k ≤ l.getD i 0)
  | [], _ => ⟨Nat.le_refl _, fun i h => absurd h (Nat.not_lt_zero i), fun i _ h => absurd h (Nat.not_lt_zero i)⟩
  | j :: r, h => by
    refine el_A (List.pairwise_cons.mp h) fun h1 h2 => ?_
    refine el_AA (insPos_spec k r h2) fun a b c => ?_
    unfold insPos
    split
    · rename_i hj
      refine ⟨by simp; exact a, fun i hi => ?_, fun i hi hl => ?_⟩
      · cases i with
        | zero => simpa using hj
        | succ i => have := b i (by omega); simpa using this
      · cases i with
        | zero => lia
        | succ i => have := c i (by omega) (by simp at hl; omega); simpa using this
    · rename_i hj
      refine ⟨Nat.zero_le _, fun i hi => absurd hi (Nat.not_lt_zero i), fun i hi hl => ?_⟩
      cases i with
      | zero => simp; omega
      | succ i =>
        have hi' : i < r.length := by simpa using hl
        have : r[i] ∈ r := List.getElem_mem hi'
        have := h1 _ this
        have e : (j :: r).getD (i + 1) 0 = r[i] := by simp [hi']
        rw [e]; omega

section
variable {prog : Program} {w : World} {h₀ h h' : Heap} {as : Nat → Addr} {σ σ' : St} {s : Shared} {u u' : Value} {v v' r : AV} {A : Around} {n N : Nat} {E : Value → Shared → Prop}

theorem drel_keys {ws : List (Int × Value)} {kvs : List (Int × AV)} (q : DRel h as N ws kvs) : ws.map (·.1) = kvs.map (·.1) := by
  induction q with
  | nil => rfl
  | cons hx _ ih => simp only [List.map_cons, hx.1, ih]
theorem ints_rep {out : List Value} {ns : List Int} (k : IntsAre out ns) : All2 (Rep h as N) out (ns.map .int) := by
  induction k with
  | nil => exact .nil
  | cons i t _ ih => exact .cons ⟨t, rfl⟩ ih
theorem heads_rel {xs : List AV} {us : List Value} (q : All2 (Rep h as N) us xs) : ∀ {ks : List Int}, heads xs = some ks → All2 (HeadAt h) us ks := by
  induction q with
  | nil => intro ks e; cases e; exact .nil
  | @cons u x us xs hx q ih =>
    intro ks e
    refine bind_elim e fun i ei e => map_elim (P := All2 (HeadAt h) _) e fun js ej => .cons ?_ (ih ej)
    cases x with
    | a _ => exact nope ei
    | tup l => cases l with
      | nil => exact nope ei
      | cons y l => cases y with
        | int j =>
          refine el_EEAAA hx fun a vs hq3 t qa z => ?_; clear hx; subst hq3
          cases ei
          cases qa with
          | cons r1 q1 =>
            refine el_E r1 fun tk hq4 => ?_; subst hq4
            exact ⟨a, tk, _, rfl, t⟩
        | _ => exact nope ei
theorem insAt_rel {xs : List AV} {us : List Value} (q : All2 (Rep h as N) us xs) (pos : Nat) : All2 (Rep h as N) (insAt pos us) (insAt pos xs) := by
  unfold insAt
  rw [q.length]
  exact ((q.take pos).append (q.drop _)).append ((q.take _).drop pos)
theorem insAt_len {α : Type} (pos : Nat) (l : List α) (hl : 1 ≤ l.length) (hp : pos ≤ l.length - 1) : (insAt pos l).length = l.length := by
  unfold insAt
  simp only [List.length_append, List.length_take, List.length_drop]
  omega

theorem sortedAll_keep {vs : List Value} {out : Array Value} : Kept h (sortedAll h vs out) := fun _ _ e => sortedAll_old e

theorem sortT_sound (S : SRel prog w h₀ s.heap as σ) {l : Addr} {xs ys : List AV} {vs : List Value} (hl : s.heap.PlainList l vs.toArray) (q : All2 (Rep s.heap as σ.next) vs xs) (e : sortT xs = some ys) (en : newL ys σ = some (r, σ')) :
    wpAny (model prog w) A (call (.builtin "sorted") [.ref l]) (Post prog w h₀ s as σ r σ') E s := by
  simp only [sortT, Option.bind_eq_some_iff] at e
  refine el_EA e fun ks ek e => ?_
  split at e
  · rename_i hc
    cases e
    refine el_AAA hc fun c1 c2 c3 c4 => ?_; clear hc
    refine el_AA (newL_some en) fun hy hq5 hq6 => ?_; subst hq5; subst hq6
    have hq := heads_rel q ek
    have hlen : ks.length = xs.length := heads_len ek
    have hvl := q.length
    have hpl : (ks.take (ks.length - 1)).length = ks.length - 1 := by rw [List.length_take]; lia
    refine el_AA (insPos_spec (ks.getD (ks.length - 1) 0) _ c3) fun p1 p2 p3 => ?_
    rw [hpl] at p1 p3
    have hg : ∀ i, i < ks.length - 1 → (ks.take (ks.length - 1)).getD i 0 = ks.getD i 0 := fun i hi => by
      rw [List.getD_eq_getElem?_getD, List.getD_eq_getElem?_getD, List.getElem?_take_of_lt hi]
    have hlow : ∀ i, i < insPos (ks.getD (ks.length - 1) 0) (ks.take (ks.length - 1)) → ks.getD i 0 < ks.getD (ks.length - 1) 0 := fun i hi => by
      have := p2 i hi; rwa [hg i (by lia)] at this
    have hhigh : ∀ i, insPos (ks.getD (ks.length - 1) 0) (ks.take (ks.length - 1)) ≤ i → i < ks.length - 1 → ks.getD (ks.length - 1) 0 < ks.getD i 0 := fun i hi hil => by
      have h1 := p3 i hi hil
      rw [hg i hil] at h1
      have hm : ks.getD i 0 ∈ ks.take (ks.length - 1) := by
        rw [← hg i hil, List.getD_eq_getElem?_getD, List.getElem?_eq_getElem (by rw [hpl]; exact hil)]
        exact List.getElem_mem _
      have : ks.getD (ks.length - 1) 0 ≠ ks.getD i 0 := fun e => c4 (by rw [e]; exact hm)
      lia
    have hasc : ∀ i j, i < j → j < ks.length - 1 → ks.getD i 0 < ks.getD j 0 := fun i j hij hj => by
      rw [← hg i (by omega), ← hg j hj]
      have := List.pairwise_iff_getElem.mp c3 i j (by rw [hpl]; omega) (by rw [hpl]; exact hj) hij
      rw [List.getD_eq_getElem?_getD, List.getD_eq_getElem?_getD, List.getElem?_eq_getElem (by rw [hpl]; lia), List.getElem?_eq_getElem (by rw [hpl]; omega)]
      exact this
    refine call_sorted_ins hl.isList hq (by omega) (by omega) p1 hasc hlow hhigh ?_
    refine el_E (sortedAll_at s.heap vs (insAt (insPos (ks.getD (ks.length - 1) 0) (ks.take (ks.length - 1))) vs).toArray) fun ep he => ?_
    exact Post.list S sortedAll_keep s.toks (New.of (Nat.le_succ _)) ⟨ep, he⟩ (insAt_rel q _) hy
  · cases e

theorem call_len_plain {l : Addr} {vs : List Value} {Q : Value → Shared → Prop} (hl : s.heap.PlainList l vs.toArray) (hz : vs.length ≤ lim) (h : Q (.int vs.length (s.toks + 1)) { s with toks := s.toks + 1 + 1 }) :
    wpAny (model prog w) A (call (.builtin "len") [.ref l]) Q E s :=
  Calls.call_len_list hl.isList (by simp only [List.size_toArray]; exact fits63 hz) (by simpa using h)

inductive BifI (σ : St) : Bf → List AV → AV → St → Prop
  | lenB (b : List UInt8) : BifI σ .len [.bytes b] (.int b.length) σ
  | lenL (l : Nat) (xs : List AV) (eg : σ.get l = some (.list xs)) : BifI σ .len [.loc l] (.int xs.length) σ
  | lenD (l : Nat) (kvs : List (Int × AV)) (eg : σ.get l = some (.dict kvs)) : BifI σ .len [.loc l] (.int kvs.length) σ
  | bytesB (b : List UInt8) : BifI σ .bytes [.bytes b] (.bytes b) σ
  | bytesL (l : Nat) (xs : List AV) (eg : σ.get l = some (.list xs)) (is : List Int) (ei : intsOf xs = some is) (bs : List UInt8) (eo : octs is = some bs) : BifI σ .bytes [.loc l] (.bytes bs) σ
  | list (l : Nat) (xs : List AV) (eg : σ.get l = some (.list xs)) (hz : xs.length ≤ lim) : BifI σ .list [.loc l] (.loc σ.next) (σ.alloc (.list xs))
  | sortL (l : Nat) (xs : List AV) (eg : σ.get l = some (.list xs)) (ys : List AV) (ey : sortT xs = some ys) (r : AV) (σ' : St) (en : newL ys σ = some (r, σ')) : BifI σ .sorted [.loc l] r σ'
  | sortD (l : Nat) (kvs : List (Int × AV)) (eg : σ.get l = some (.dict kvs)) (h64 : kvs.length < 64) (hz : ((sortI (kvs.map (·.1))).map AV.int).length ≤ lim) : BifI σ .sorted [.loc l] (.loc σ.next) (σ.alloc (.list ((sortI (kvs.map (·.1))).map .int)))
  | min (a b : Int) : BifI σ .min [.int a, .int b] (.int (min a b)) σ
  | max (a b : Int) : BifI σ .max [.int a, .int b] (.int (max a b)) σ
  | maxL (l : Nat) (xs : List AV) (eg : σ.get l = some (.list xs)) (i : Int) (rr : List Int) (ei : intsOf xs = some (i :: rr)) : BifI σ .max [.loc l] (.int (maxI i rr)) σ
  | sum (l : Nat) (xs : List AV) (eg : σ.get l = some (.list xs)) (is : List Int) (ei : intsOf xs = some is) : BifI σ .sum [.loc l] (.int is.sum) σ
  | dict (l : Nat) (xs : List AV) (eg : σ.get l = some (.list xs)) (ps : List (Int × At)) (ep : prsOf xs = some ps) : BifI σ .dict [.loc l] (.loc σ.next) (σ.alloc (.dict (ps.foldl (fun d p => dput d p.1 (.a p.2)) [])))
theorem max_inv {is : List Int} {m : Int} {P : List Int → Int → Prop} (e : Mine.maxL is = some m) (h : ∀ i rr, P (i :: rr) (maxI i rr)) : P is m := by
  cases is with
  | nil => exact nope e
  | cons i rr => cases e; exact h i rr
theorem bif_inv {f : Bf} {vs : List AV} (e : abif f vs σ = some (r, σ')) : BifI σ f vs r σ' := by
  cases f with
  | len =>
    exact one_elim (P := fun vs => BifI σ .len vs r σ') e fun v e => by_elim (P := fun v => BifI σ .len [v] r σ') e (fun _ e => nope e) (fun b e => pair_elim (P := BifI σ _ _) e (.lenB b))
      (fun l e => on_elim e (fun xs eg e => pair_elim (P := BifI σ _ _) e (.lenL l xs eg)) fun kvs eg e => pair_elim (P := BifI σ _ _) e (.lenD l kvs eg)) fun _ e => nope e
  | bytes =>
    exact one_elim (P := fun vs => BifI σ .bytes vs r σ') e fun v e => by_elim (P := fun v => BifI σ .bytes [v] r σ') e (fun _ e => nope e) (fun b e => pair_elim (P := BifI σ _ _) e (.bytesB b))
      (fun l e => onl_elim e fun xs eg e => mapP_elim (P := BifI σ _ _) e fun bs eb => bind_elim eb fun is ei eo => .bytesL l xs eg is ei bs eo) fun _ e => nope e
  | list =>
    exact one_elim (P := fun vs => BifI σ .list vs r σ') e fun v e => loc_elim (P := fun v => BifI σ .list [v] r σ') e fun l e => onl_elim e fun xs eg e => newL_elim (P := BifI σ _ _) e (.list l xs eg)
  | sorted =>
    exact one_elim (P := fun vs => BifI σ .sorted vs r σ') e fun v e => loc_elim (P := fun v => BifI σ .sorted [v] r σ') e fun l e => on_elim e (fun xs eg e => bind_elim e fun ys ey en => .sortL l xs eg ys ey r σ' en)
      fun kvs eg e => ite_elim e fun h64 e => newL_elim (P := BifI σ _ _) e (.sortD l kvs eg h64)
  | min =>
    exact two_elim (P := fun vs => BifI σ .min vs r σ') e fun v w e => int2_elim (P := fun v w => BifI σ .min [v, w] r σ') e fun a b e => pair_elim (P := BifI σ _ _) e (.min a b)
  | max =>
    exact args_elim (P := fun vs => BifI σ .max vs r σ') e (fun v e => loc_elim (P := fun v => BifI σ .max [v] r σ') e fun l e => onl_elim e fun xs eg e => mapP_elim (P := BifI σ _ _) e fun m em => bind_elim em fun is ei em =>
        max_inv (P := fun is m => intsOf xs = some is → BifI σ .max [.loc l] (.int m) σ) em (fun i rr ei => .maxL l xs eg i rr ei) ei)
      fun v w e => int2_elim (P := fun v w => BifI σ .max [v, w] r σ') e fun a b e => pair_elim (P := BifI σ _ _) e (.max a b)
  | sum =>
    exact one_elim (P := fun vs => BifI σ .sum vs r σ') e fun v e => loc_elim (P := fun v => BifI σ .sum [v] r σ') e fun l e => onl_elim e fun xs eg e => mapP_elim (P := BifI σ _ _) e fun is ei => .sum l xs eg is ei
  | dict =>
    exact one_elim (P := fun vs => BifI σ .dict vs r σ') e fun v e => loc_elim (P := fun v => BifI σ .dict [v] r σ') e fun l e => onl_elim e fun xs eg e => mapP_elim (P := BifI σ _ _) e fun ps ep => .dict l xs eg ps ep

theorem bif_go (hA : AOk A n) (S : SRel prog w h₀ s.heap as σ) {f : Bf} {vs : List AV} (e : BifI σ f vs r σ') : ∀ {us : List Value}, All2 (Rep s.heap as σ.next) us vs →
    wpAny (model prog w) A (call (bfVal f) us) (Post prog w h₀ s as σ r σ') E s := by
  induction e with
  | lenB b =>
    intro us q
    refine one_bytes (Q := fun us => wpAny _ _ (call _ us) _ _ _) q fun z t => ?_
    refine PySem.W.len_bytes (by simp only [List.size_toArray]; unfold lim at z; lia) (Post.toks S _ ?_)
    exact ⟨s.toks + 1, by simp⟩
  | lenL l xs eg =>
    intro us q
    refine one_loc (Q := fun us => wpAny _ _ (call _ us) _ _ _) q ?_
    refine el_AAEA (S.get eg) fun hl z ws hp qa => ?_
    refine call_len_plain hp (by rw [qa.length]; exact z) (Post.toks S _ ?_)
    exact ⟨_, by rw [qa.length]⟩
  | lenD l kvs eg =>
    intro us q
    refine one_loc (Q := fun us => wpAny _ _ (call _ us) _ _ _) q ?_
    refine el_AAEA (S.get eg) fun hl z ws hd qa => ?_
    refine call_len_dict (S.high l hl) hd (by rw [qa.length]; exact fits63 z) (Post.toks S _ ?_)
    exact ⟨_, by rw [qa.length]⟩
  | bytesB b =>
    intro us q
    refine one_bytes (Q := fun us => wpAny _ _ (call _ us) _ _ _) q fun z t => ?_
    exact call_bytes_bytes (Post.here S ⟨z, t, rfl⟩)
  | bytesL l xs eg is ei bs eo =>
    intro us q
    refine one_loc (Q := fun us => wpAny _ _ (call _ us) _ _ _) q ?_
    refine el_AAEA (S.get eg) fun hl z ws hp qa => ?_
    have hi := ints_are ei qa
    refine el_AA (octs_arr eo) fun o1 o2 o3 => ?_
    refine call_bytes_ints hp.isList hi o3 (by rw [qa.length]; exact Nat.le_trans z lim_size) hA.hd fun h' t k hk => ?_
    rw [← o1]
    exact Post.kept S hk k ⟨by rw [o2, ← hi.length, qa.length]; exact z, t, rfl⟩
  | list l xs eg hz =>
    intro us q
    refine one_loc (Q := fun us => wpAny _ _ (call _ us) _ _ _) q ?_
    refine el_AAEA (S.get eg) fun hl z ws hq7 qa => ?_; refine el_E hq7 fun nn hp => ?_
    refine call_list_seq _ (.inl rfl) hp rfl rfl (fun h' c' hk hD => ?_) (by simp only [List.size_toArray]; rw [qa.length]; exact Nat.le_trans z lim_size)
    exact Post.list S hk s.toks (New.of (Nat.le_refl _)) ⟨c', hD⟩ qa hz
  | sortL l xs eg ys ey r σ' en =>
    intro us q
    refine one_loc (Q := fun us => wpAny _ _ (call _ us) _ _ _) q ?_
    refine el_AAEA (S.get eg) fun hl z ws hp qa => ?_
    exact sortT_sound S hp qa ey en
  | sortD l kvs eg h64 hz =>
    intro us q
    refine one_loc (Q := fun us => wpAny _ _ (call _ us) _ _ _) q ?_
    refine el_AAEA (S.get eg) fun hl z ws hd qa => ?_
    refine sorted_dict hA.hd (S.high l hl) hd (by rw [qa.length]; exact h64) fun h' tk D out ns k1 k2 k3 k4 k5 k6 => ?_
    have hns : ns = sortI (kvs.map (·.1)) := by
      rw [drel_keys qa] at k5
      exact sorted_unique (k5.trans (sortI_perm _).symm) k6 (sortI_sorted _)
    refine Post.list S k1 tk k2 k3 ?_ hz
    rw [← hns]
    exact ints_rep k4
  | min a b =>
    intro us q
    refine two_ints (Q := fun us => wpAny _ _ (call _ us) _ _ _) q fun t1 t2 => ?_
    refine min_two_ints hA.hd fun h' tk hk => Post.kept S hk tk ?_
    by_cases hc : b < a
    · rw [if_pos hc]; exact ⟨t2, by rw [Int.min_eq_right (by omega)]⟩
    · rw [if_neg hc]; exact ⟨t1, by rw [Int.min_eq_left (by omega)]⟩
  | max a b =>
    intro us q
    refine two_ints (Q := fun us => wpAny _ _ (call _ us) _ _ _) q fun t1 t2 => ?_
    refine max_two_ints hA.hd fun h' tk hk => Post.kept S hk tk ?_
    by_cases hc : b > a
    · rw [if_pos hc]; exact ⟨t2, by rw [Int.max_eq_right (by omega)]⟩
    · rw [if_neg hc]; exact ⟨t1, by rw [Int.max_eq_left (by omega)]⟩
  | maxL l xs eg i rr ei =>
    intro us q
    refine one_loc (Q := fun us => wpAny _ _ (call _ us) _ _ _) q ?_
    refine el_AAEA (S.get eg) fun hl z ws hp qa => ?_
    exact max_sound hA.hd hp.isList (ints_are ei qa) fun h' tk t' hk => Post.kept S hk tk ⟨t', rfl⟩
  | sum l xs eg is ei =>
    intro us q
    refine one_loc (Q := fun us => wpAny _ _ (call _ us) _ _ _) q ?_
    refine el_AAEA (S.get eg) fun hl z ws hp qa => ?_
    exact sum_sound hA.hd hp.isList (ints_are ei qa) fun h' tk t' hk => Post.kept S hk tk ⟨t', rfl⟩
  | dict l xs eg ps ep =>
    intro us q
    refine one_loc (Q := fun us => wpAny _ _ (call _ us) _ _ _) q ?_
    refine el_AAEA (S.get eg) fun hl z ws hp qa => ?_
    refine el_EA (prs_rel qa ep) fun wps w1 w2 => ?_
    refine call_dict_list hA.hd hp w1 (by rw [← w1.length, qa.length]; exact Nat.le_trans z lim_size) fun h' tk hd hk => ?_
    have hlen : ps.length ≤ lim := by rw [← w2.length, ← w1.length, qa.length]; exact z
    refine Post.dict S hk tk (New.of (Nat.le_refl _)) hd (dfold_rel w2 .nil) ?_
    exact Nat.le_trans (dputs_len ps []) (by rw [List.length_nil, Nat.zero_add]; exact hlen)
theorem bif_sound (hA : AOk A n) (S : SRel prog w h₀ s.heap as σ) {us : List Value} {vs : List AV} (q : All2 (Rep s.heap as σ.next) us vs) {f : Bf} (e : abif f vs σ = some (r, σ')) :
    wpAny (model prog w) A (call (bfVal f) us) (Post prog w h₀ s as σ r σ') E s := bif_go hA S (bif_inv e) q
end
end Mine

/-! Ops7 -/
namespace Mine
open PySem PySem.W PyProof.Rows PySem.SeqAt

noncomputable abbrev NoE : Value → Shared → Prop := fun _ _ => False
noncomputable def mtName : Mt → Str
  | .append => Str.ofString "append" | .pop => Str.ofString "pop" | .get => Str.ofString "get"

section
variable {prog : Program} {w : World} {h₀ h h' : Heap} {as : Nat → Addr} {σ σ' : St} {s : Shared} {u u' : Value} {v v' r : AV} {A : Around} {n N : Nat} {E : Value → Shared → Prop}

theorem put_list (S : SRel prog w h₀ s.heap as σ) {l : Nat} {xs ys : List AV} {vs : List Value} {c : Nat} (eg : σ.get l = some (.list xs)) (hl : l < σ.next) (hp : IsL s.heap (as l) vs.toArray c) (f : Array Value → Array Value)
    (hq : All2 (Rep s.heap as σ.next) (f vs.toArray).toList ys) (hz : ys.length ≤ lim) (e : σ.put l (.list ys) = some σ') (tk : Tok) :
    Step s as σ { s with heap := s.heap.update (as l) (Obj.mapSeq f), toks := tk } as σ' ∧ SRel prog w h₀ (s.heap.update (as l) (Obj.mapSeq f)) as σ' ∧ σ'.next = σ.next ∧
      (∀ {u : Value} {v : AV}, Rep s.heap as σ.next u v → Rep (s.heap.update (as l) (Obj.mapSeq f)) as σ'.next u v) := by
  have hk : ∀ b o, b ≠ as l → s.heap.get? b = some o → (s.heap.update (as l) (Obj.mapSeq f)).get? b = some o := fun b o hb e => (Heap.get?_update_other _ _ (Ne.symm hb)).trans e
  have kt : ∀ a vs, TupAt s.heap a vs → TupAt (s.heap.update (as l) (Obj.mapSeq f)) a vs := fun a vs t => by
    refine el_E (id t) fun m e => ?_
    exact ⟨m, hk _ _ (S.tupApart t l hl) e⟩
  have P := put_rel S e hl (fun d' hd => by rw [eg] at hd; cases hd; rfl) tk hk
    ⟨hz, (f vs.toArray).toList, ⟨_, by rw [Array.toArray_toList]; exact hp.update f⟩, hq.mono fun _ _ r => r.keeps (Nat.le_refl _) (fun _ _ => rfl) fun a vs _ => kt a vs⟩
  exact ⟨P.1, P.2.1, P.2.2, fun r => by rw [P.2.2]; exact r.keeps (Nat.le_refl _) (fun _ _ => rfl) fun a vs _ => kt a vs⟩

theorem put_dict (S : SRel prog w h₀ s.heap as σ) {l : Nat} {kvs kvs' : List (Int × AV)} {ws : List (Int × Value)} (eg : σ.get l = some (.dict kvs)) (hl : l < σ.next) (hd : h'.DictOf (intKind prog w) (as l) ws)
    (hs : Heap.SameBut (as l) s.heap h') (hq : DRel s.heap as σ.next ws kvs') (hz : kvs'.length ≤ lim) (e : σ.put l (.dict kvs') = some σ') (tk : Tok) :
    Step s as σ { s with heap := h', toks := tk } as σ' ∧ SRel prog w h₀ h' as σ' ∧ σ'.next = σ.next ∧ (∀ {u : Value} {v : AV}, Rep s.heap as σ.next u v → Rep h' as σ'.next u v) := by
  have hk : ∀ b o, b ≠ as l → s.heap.get? b = some o → h'.get? b = some o := fun b o hb e => (hs.2 b hb).trans e
  have kt : ∀ a vs, TupAt s.heap a vs → TupAt h' a vs := fun a vs t => by
    refine el_E (id t) fun m e => ?_
    exact ⟨m, hk _ _ (S.tupApart t l hl) e⟩
  have P := put_rel S e hl (fun d' hd => by rw [eg] at hd; cases hd; rfl) tk hk
    ⟨hz, ws, hd, hq.mono fun _ _ r => ⟨r.1, r.2.keeps (Nat.le_refl _) (fun _ _ => rfl) fun a vs _ => kt a vs⟩⟩
  exact ⟨P.1, P.2.1, P.2.2, fun r => by rw [P.2.2]; exact r.keeps (Nat.le_refl _) (fun _ _ => rfl) fun a vs _ => kt a vs⟩

theorem set_list {l : Addr} {vs : List Value} {k : Int} {j : Nat} {t : Tok} {c : Nat} {x : Value} {Q : Unit → Shared → Prop} (hp : IsL s.heap l vs.toArray c) (hfit : Builtin.List.listFitsIndex k = true) (hk : seqIndex? k vs.length = some j) (hj : j < vs.length)
    (hQ : Q () { s with heap := s.heap.update l (Obj.mapSeq (·.setIfInBounds j x)) }) : wpAny (model prog w) A (setItem (.ref l) (.int k t) x) Q E s := by
  have hT : s.TypeIs (.ref l) "list" := hp.isList.typeIs
  unfold setItem
  try with_reducible refine wpAny_holding ?_
  first | refine wpAny_bind (wpAny_pure ?_) | skip
  refine wpAny_bind (wpAny_sequenceKey hT (by decide) ?_)
  refine wpAny_bind (wpAny_callSpecial?_slot (name := Str.ofString "__setitem__") hT slot_list_setitem
    (wpAny_call_entry slot_list_setitem hT entry_list_setitem ?_ (args_list_setitem _ _ _)))
  show wpAny _ _ (Builtin.List.listSubscript? (.int k t) >>= _) _ _ s
  refine wpAny_bind (wpAny_listSubscript_int hfit ?_)
  have fin : ∀ {P : Fin → Shared → Prop}, P (.done (.ret .none)) { s with heap := s.heap.update l (Obj.mapSeq (·.setIfInBounds j x)) } → wpAny (model prog w) A.in1 (do setSeqItemAt l j x; ret .none) P E s := fun h =>
    wpAny_bind (wpAny_setSeqItemAt hp rfl (wpAny_pure h))
  have hx' : vs.toArray[j]? = some vs[j] := by simp [hj]
  cases k with
  | ofNat i =>
    have hij : i = j := by
      unfold seqIndex? at hk
      have h0 : ¬ (Int.ofNat i < 0) := by simp
      simp only [h0, if_false] at hk
      split at hk
      · have := Option.some.inj hk; simpa using this
      · cases hk
    subst hij
    show wpAny _ _ ((seqItemAt l i >>= fun r => pure (r.map (i, ·))) >>= _) _ _ s
    refine wpAny_bind (wpAny_bind (wpAny_seqItemAt hp rfl (wpAny_pure ?_)))
    rw [hx']
    show wpAny _ _ (setSeqItemAt l i x >>= _) _ _ s
    refine wpAny_bind (wpAny_setSeqItemAt hp rfl ?_)
    first
      | exact wpAny_bind (wpAny_pure (wpAny_pure ⟨.none, rfl, wpAny_pure hQ⟩))
      | exact wpAny_pure ⟨.none, rfl, wpAny_pure hQ⟩
  | negSucc i =>
    show wpAny _ _ ((Builtin.List.listItems (.ref l) >>= fun xs => pure ((seqIndex? (Int.negSucc i) xs.size).bind fun i => xs[i]?.map (i, ·))) >>= _) _ _ s
    refine wpAny_bind (wpAny_bind ?_)
    show wpAny _ _ (seqItems? (.ref l) >>= _) _ _ s
    refine wpAny_bind (wpAny_seqItems hp rfl (wpAny_pure (wpAny_pure ?_)))
    rw [List.size_toArray, hk]
    simp only [Option.bind_some, hx', Option.map_some]
    show wpAny _ _ (setSeqItemAt l j x >>= _) _ _ s
    refine wpAny_bind (wpAny_setSeqItemAt hp rfl ?_)
    first
      | exact wpAny_bind (wpAny_pure (wpAny_pure ⟨.none, rfl, wpAny_pure hQ⟩))
      | exact wpAny_pure ⟨.none, rfl, wpAny_pure hQ⟩

theorem setI_list (S : SRel prog w h₀ s.heap as σ) {l : Nat} {xs : List AV} {x : AV} {ux : Value} {k : Int} {t : Tok} (rx : Rep s.heap as σ.next ux x) (eg : σ.get l = some (.list xs))
    (e : (if 0 ≤ k ∧ k.toNat < xs.length then σ.put l (.list (xs.set k.toNat x)) else if k = -1 ∧ 0 < xs.length then σ.put l (.list (xs.set (xs.length - 1) x)) else none) = some σ') :
    wpAny (model prog w) A (setItem (.ref (as l)) (.int k t) ux) (fun _ => PostS prog w h₀ s as σ σ') E s := by
  refine el_AAEA (S.get eg) fun hl z vs hq5 q => ?_; refine el_E hq5 fun c hp => ?_
  by_cases hk : 0 ≤ k ∧ k.toNat < xs.length
  · rw [if_pos hk] at e
    refine set_list (j := k.toNat) hp ?_ ?_ (by rw [q.length]; exact hk.2) ?_
    · exact fitsIndex_of hk.1 (by have := fits63 z; omega)
    · unfold seqIndex?
      have hn : ¬ k < 0 := by omega
      simp only [hn, if_false]
      rw [if_pos (by simp only [Bool.and_eq_true, decide_eq_true_eq]; rw [q.length]; omega)]
    · have P := put_list S eg hl hp (·.setIfInBounds k.toNat ux) (by simpa using q.set rx k.toNat) (by simpa using z) e s.toks
      exact ⟨as, P.1, P.2.1⟩
  · rw [if_neg hk] at e
    replace e := ite_some e
    obtain ⟨⟨rfl, hk⟩, e⟩ := e
    refine set_list (j := xs.length - 1) hp (by decide) ?_ (by rw [q.length]; omega) ?_
    · rw [seqIndex_neg (by decide) (by rw [q.length]; omega), q.length]
      congr 1; omega
    · have P := put_list S eg hl hp (·.setIfInBounds (xs.length - 1) ux) (by simpa using q.set rx (xs.length - 1)) (by simpa using z) e s.toks
      exact ⟨as, P.1, P.2.1⟩
theorem setI_dict (S : SRel prog w h₀ s.heap as σ) {l : Nat} {kvs : List (Int × AV)} {x : AV} {ux : Value} {k : Int} {t : Tok} (rx : Rep s.heap as σ.next ux x) (eg : σ.get l = some (.dict kvs)) (hz : kvs.length < lim)
    (e : σ.put l (.dict (dput kvs k x)) = some σ') : wpAny (model prog w) A (setItem (.ref (as l)) (.int k t) ux) (fun _ => PostS prog w h₀ s as σ σ') E s := by
  refine el_AAEA (S.get eg) fun hl z ws hd q => ?_
  refine wpAny_setItem_pairs (isInt_is k t) hd (fun h' hm hs => ?_) (by rw [q.length]; exact Nat.le_trans z lim_size)
  have := dput_len kvs k x
  have P := put_dict S eg hl hm hs (stored_rel q k rx) (by lia) e (s.toks + 1)
  exact ⟨as, P.1, P.2.1⟩
theorem set_sound (S : SRel prog w h₀ s.heap as σ) {o i x : AV} {uo ui ux : Value} (ro : Rep s.heap as σ.next uo o) (ri : Rep s.heap as σ.next ui i) (rx : Rep s.heap as σ.next ux x) (e : aset o i x σ = some σ') :
    wpAny (model prog w) A (setItem uo ui ux) (fun _ => PostS prog w h₀ s as σ σ') E s := by
  refine loc_elim (P := fun o => Rep s.heap as σ.next uo o → wpAny (model prog w) A (setItem uo ui ux) (fun _ => PostS prog w h₀ s as σ σ') E s) e (fun l e ro => ?_) ro
  refine rep_loc (P := fun uo => wpAny _ _ (setItem uo ui ux) _ _ _) ro ?_
  refine int_elim (P := fun i => Rep s.heap as σ.next ui i → wpAny (model prog w) A (setItem (.ref (as l)) ui ux) (fun _ => PostS prog w h₀ s as σ σ') E s) e (fun k e ri => ?_) ri
  refine rep_int (P := fun ui => wpAny _ _ (setItem _ ui ux) _ _ _) ri fun t => ?_
  exact on_elim e (fun xs eg e => setI_list S rx eg e) fun kvs eg e => ite_elim e fun hz e => setI_dict S rx eg hz e
end
end Mine

/-! Ops8 -/
namespace Mine
open PySem PySem.W PyProof.Rows PySem.SeqAt

section
variable {prog : Program} {w : World} {h₀ h h' : Heap} {as as₁ : Nat → Addr} {σ σ₁ σ₂ σ' : St} {s s₁ : Shared} {u u' : Value} {v v' r : AV} {A : Around} {n N : Nat} {E : Value → Shared → Prop}

theorem Post.trans (S : SRel prog w h₀ s.heap as σ) (T : Step s as σ s₁ as₁ σ₁) (S₁ : SRel prog w h₀ s₁.heap as₁ σ₁) {s' : Shared} (p : Post prog w h₀ s₁ as₁ σ₁ r σ' u s') : Post prog w h₀ s as σ r σ' u s' := by
  refine el_EAA p fun as' T' S' R => ?_; clear p
  exact ⟨as', T.trans S S₁ T', S', R⟩
theorem PostS.trans (S : SRel prog w h₀ s.heap as σ) (T : Step s as σ s₁ as₁ σ₁) (S₁ : SRel prog w h₀ s₁.heap as₁ σ₁) {s' : Shared} (p : PostS prog w h₀ s₁ as₁ σ₁ σ' s') : PostS prog w h₀ s as σ σ' s' := by
  refine el_EA p fun as' T' S' => ?_; clear p
  exact ⟨as', T.trans S S₁ T', S'⟩

theorem intPart (k : Int) (t : Tok) : (PySem.keyPart (.int k t)).isSome = true := by rfl

theorem met_append (S : SRel prog w h₀ s.heap as σ) {l : Nat} (hl : l < σ.next) {x : Sem Value} {pos : Pos} {xs : List AV} (hx : wpAny (model prog w) A x (Post prog w h₀ s as σ v σ₁) E s) (eg : σ₁.get l = some (.list xs)) (hz : xs.length < lim)
    (ep : σ₁.put l (.list (xs ++ [v])) = some σ') : wpAny (model prog w) A (callWith pos (.builtin "list.append") [.ref (as l)] [(false, x)] []) (Post prog w h₀ s as σ .none σ') E s := by
  refine P.append_list (wpAny_mono hx (fun u s₁ hp => ?_) fun _ _ z => z)
  refine el_EAA hp fun as' T S' R => ?_; clear hp
  refine el_AAEA (S'.get eg) fun hl' z vs hq1 q => ?_; refine el_E hq1 fun c hp => ?_
  have hp2 := hp
  rw [T.ext l hl] at hp2
  refine ⟨vs.toArray, c, by simp only [List.size_toArray]; rw [q.length]; exact Nat.le_trans z lim_size, hp2, ?_⟩
  rw [← T.ext l hl]
  have P := put_list S' eg hl' hp (fun a => a.push u) (ys := xs ++ [v]) (by simpa using q.append (.cons R .nil)) (by simp; omega) ep s₁.toks
  exact Post.trans S T S' ⟨as', P.1, P.2.1, rfl⟩

theorem met_pop0 (S : SRel prog w h₀ s.heap as σ) {l : Nat} (hl : l < σ.next) {x : Sem Value} {pos : Pos} {y : AV} {rest : List AV} (hx : wpAny (model prog w) A x (Post prog w h₀ s as σ (.int 0) σ₁) E s) (eg : σ₁.get l = some (.list (y :: rest)))
    (ep : σ₁.put l (.list rest) = some σ') : wpAny (model prog w) A (callWith pos (.builtin "list.pop") [.ref (as l)] [(false, x)] []) (Post prog w h₀ s as σ y σ') E s := by
  refine P.pop_at_list (wpAny_mono hx (fun u s₁ hp => ?_) fun _ _ z => z)
  refine el_EAAE hp fun as' T S' t hq2 => ?_; clear hp; subst hq2
  refine el_AAEA (S'.get eg) fun hl' z vs hq3 q => ?_; refine el_E hq3 fun c hp => ?_
  cases q with
  | @cons u0 _ us _ r0 q0 =>
    have hp2 := hp
    rw [T.ext l hl] at hp2
    refine ⟨(u0 :: us).toArray, c, 0, t, 0, u0, ?_, rfl, hp2, by decide, ?_, by simp, ?_⟩
    · simp only [List.size_toArray, List.length_cons]; rw [q0.length]; exact Nat.le_trans z lim_size
    · simp [seqIndex?]
    · rw [← T.ext l hl]
      have P := put_list S' eg hl' hp (fun xs => xs.eraseIdxIfInBounds 0) (ys := rest) (by simpa [Array.eraseIdxIfInBounds] using q0) (by simp at z; omega) ep s₁.toks
      exact Post.trans S T S' ⟨as', P.1, P.2.1, P.2.2.2 r0⟩

theorem met_get1 (S : SRel prog w h₀ s.heap as σ) {l : Nat} (hl : l < σ.next) {x : Sem Value} {pos : Pos} {k : Int} {kvs : List (Int × AV)} (hx : wpAny (model prog w) A x (Post prog w h₀ s as σ (.int k) σ₁) E s) (eg : σ₁.get l = some (.dict kvs)) :
    wpAny (model prog w) A (callWith pos (.builtin "dict.get") [.ref (as l)] [(false, x)] []) (Post prog w h₀ s as σ ((dget kvs k).getD .none) σ₁) E s := by
  refine wpAny_dict_get1 (knd := intKind prog w) (S.high l hl) (wpAny_mono hx (fun u s₁ hp => ?_) fun _ _ z => z)
  refine el_EAAE hp fun as' T S' t hq4 => ?_; clear hp; subst hq4
  refine el_AAEA (S'.get eg) fun hl' z ws hd' q => ?_
  rw [T.ext l hl] at hd'
  refine ⟨k, valueAt ws, isInt_is k t, hd'.mapOf, ?_⟩
  refine Post.trans S T S' (Post.toks S' _ ?_)
  rcases dict_find q k with ⟨a, b⟩ | ⟨x, y, a, b, rx⟩
  · rw [a, b]; exact rfl
  · rw [a, b]; exact rx

theorem met_get2 (S : SRel prog w h₀ s.heap as σ) {l : Nat} (hl : l < σ.next) {x y : Sem Value} {pos : Pos} {k : Int} {kvs : List (Int × AV)}
    (hx : wpAny (model prog w) A x (fun u s₁ => ∃ as₁, Step s as σ s₁ as₁ σ₁ ∧ SRel prog w h₀ s₁.heap as₁ σ₁ ∧ Rep s₁.heap as₁ σ₁.next u (.int k) ∧ wpAny (model prog w) A y (Post prog w h₀ s₁ as₁ σ₁ v σ₂) E s₁) E s) (eg : σ₂.get l = some (.dict kvs)) :
    wpAny (model prog w) A (callWith pos (.builtin "dict.get") [.ref (as l)] [(false, x), (false, y)] []) (Post prog w h₀ s as σ ((dget kvs k).getD v) σ₂) E s := by
  refine wpAny_dict_get2 (knd := intKind prog w) (S.high l hl) (wpAny_mono hx (fun u s₁ hp => ?_) fun _ _ z => z)
  refine el_EAAA hp fun as₁ T S₁ hq5 hy => ?_; clear hp; refine el_E hq5 fun t hq7 => ?_; subst hq7
  refine wpAny_mono hy (fun u' s₂ hp => ?_) fun _ _ z => z
  refine el_EAA hp fun as₂ T₂ S₂ R => ?_; clear hp
  refine el_AAEA (S₂.get eg) fun hl' z ws hd' q => ?_
  rw [T₂.ext l (Nat.lt_of_lt_of_le hl T.le), T.ext l hl] at hd'
  refine ⟨k, valueAt ws, isInt_is k t, hd'.mapOf, ?_⟩
  refine Post.trans S (T.trans S S₁ T₂) S₂ (Post.toks S₂ _ ?_)
  rcases dict_find q k with ⟨a, b⟩ | ⟨x, y, a, b, rx⟩
  · rw [a, b]; exact R
  · rw [a, b]; exact rx

theorem met_dpop (S : SRel prog w h₀ s.heap as σ) {l : Nat} (hl : l < σ.next) {x y : Sem Value} {pos : Pos} {k : Int} {kvs : List (Int × AV)}
    (hx : wpAny (model prog w) A x (fun u s₁ => ∃ as₁, Step s as σ s₁ as₁ σ₁ ∧ SRel prog w h₀ s₁.heap as₁ σ₁ ∧ Rep s₁.heap as₁ σ₁.next u (.int k) ∧ wpAny (model prog w) A y (Post prog w h₀ s₁ as₁ σ₁ v σ₂) E s₁) E s) (eg : σ₂.get l = some (.dict kvs))
    (e : dpop σ₂ l kvs k v = some (r, σ')) :
    wpAny (model prog w) A (callWith pos (.builtin "dict.pop") [.ref (as l)] [(false, x), (false, y)] []) (Post prog w h₀ s as σ r σ') E s := by
  refine method2_meetsIn F.slot_dict_pop F.entry_dict_pop (wpAny_mono hx (fun u s₁ hp => ?_) fun _ _ z => z)
  refine el_EAAA hp fun as₁ T S₁ hq6 hy => ?_; clear hp; refine el_E hq6 fun t hq8 => ?_; subst hq8
  refine wpAny_mono hy (fun u' s₂ hp => ?_) fun _ _ z => z
  refine el_EAA hp fun as₂ T₂ S₂ R => ?_; clear hp
  refine el_AAEA (S₂.get eg) fun hl' z ws hd' q => ?_
  have hd2 := hd'
  have el : as₂ l = as l := by rw [T₂.ext l (Nat.lt_of_lt_of_le hl T.le), T.ext l hl]
  rw [el] at hd2
  refine ⟨hd2.typeIs, F.args_dict_pop_3 _ _ _, ?_⟩
  rcases dict_find q k with ⟨a, b⟩ | ⟨x, y, a, b, rx⟩
  · unfold dpop at e; rw [b] at e; cases e
    exact ⟨_, meets_dict_pop_default (intKind prog w) (as l) (isInt_is k t) (S.high l hl) (intPart k t) u', ws, hd2, a, Post.trans S (T.trans S S₁ T₂) S₂ (Post.toks S₂ _ R)⟩
  · unfold dpop at e; rw [b] at e
    refine el_EA (Option.map_eq_some_iff.mp e) fun σ₃ ep he => ?_
    cases he
    refine ⟨_, meets_dict_pop_there (intKind prog w) (as l) (isInt_is k t) [u'] (.inr ⟨u', rfl⟩) (intPart k t), ws, x, hd2, by rw [q.length]; exact Nat.le_trans z lim_size, a, fun h' hm hs => ?_⟩
    rw [← el] at hm hs
    have P := put_dict S₂ eg hl' hm hs (without_rel q k) (Nat.le_trans (ddel_len kvs k) z) ep (s₂.toks + 1)
    exact Post.trans S (T.trans S S₁ T₂) S₂ ⟨as₂, P.1, P.2.1, P.2.2.2 rx⟩
end
end Mine

/-! Match -/
namespace Mine
open PySem PySem.W PyProof.Rows PySem.SeqAt

noncomputable def bfName : Bf → String
  | .len => "len" | .bytes => "bytes" | .list => "list" | .sorted => "sorted" | .min => "min" | .max => "max" | .sum => "sum" | .dict => "dict"
noncomputable def has (sc : Scope) (x : Str) (k : NameKind) : Bool := sc.names.lookup x == some k
theorem ff {P : Prop} (h : false = true) : P := (Bool.false_ne_true h).elim
theorem tf {P : Prop} (h : true = false) : P := ff h.symm
theorem nn : ∀ {a : Bool}, (!a) = true → a = false
  | false, _ => rfl
  | true, h => ff h
theorem and2 {a b : Bool} (h : (a && b) = true) : a = true ∧ b = true := Bool.and_eq_true_iff.mp h
theorem an {a b : Bool} {P : Prop} (m : (a && b) = true) (h : a = true → b = true → P) : P := h (and2 m).1 (and2 m).2
/-- the number of a form -/
noncomputable def isE (e : Expr) (n : Nat) : Bool := Nat.beq e.ctorIdx n
noncomputable def isBase (e : Expr) : Bool := isE e 23 || isE e 21
noncomputable def l1 {α : Type} (l : List α) (f : α → Bool) : Bool := match l with
  | [] => false
  | a :: r => (match r with | [] => f a | _ :: _ => false)
noncomputable def l2 {α : Type} (l : List α) (f : α → α → Bool) : Bool := match l with
  | [] => false
  | a :: r => l1 r (f a)
theorem l1_e {α : Type} {l : List α} {f : α → Bool} {P : List α → Prop} (m : l1 l f = true) (h : ∀ a, f a = true → P [a]) : P l := by
  cases l with
  | nil => exact ff m
  | cons a r => cases r with
    | nil => exact h a m
    | cons _ _ => exact ff m
theorem l2_e {α : Type} {l : List α} {f : α → α → Bool} {P : List α → Prop} (m : l2 l f = true) (h : ∀ a b, f a b = true → P [a, b]) : P l := by
  cases l with
  | nil => exact ff m
  | cons a r => exact l1_e (P := fun r => P (a :: r)) m (h a)
noncomputable def l0 {α : Type} (l : List α) : Bool := match l with | [] => true | _ :: _ => false
theorem l0_e {α : Type} {l : List α} {P : List α → Prop} (m : l0 l = true) (h : P []) : P l := by
  cases l with
  | nil => exact h
  | cons _ _ => exact ff m
noncomputable def onSome {α : Type} (o : Option α) (f : α → Bool) : Bool := match o with | none => false | some a => f a
theorem onSome_e {α : Type} {o : Option α} {f : α → Bool} {P : Option α → Prop} (m : onSome o f = true) (h : ∀ a, f a = true → P (some a)) : P o := by
  cases o with
  | none => exact ff m
  | some a => exact h a m
noncomputable def o0 {α : Type} (o : Option α) : Bool := match o with | none => true | some _ => false
theorem o0_e {α : Type} {o : Option α} {P : Option α → Prop} (m : o0 o = true) (h : P none) : P o := by
  cases o with
  | none => exact h
  | some _ => exact ff m
theorem dite_e {c : Prop} [Decidable c] {f : c → Bool} {P : Prop} (m : (if h : c then f h else false) = true) (k : ∀ h, f h = true → P) : P := by
  by_cases h : c
  · rw [dif_pos h] at m; exact k h m
  · rw [dif_neg h] at m; exact ff m
theorem be {α : Type} [BEq α] [LawfulBEq α] {a b : α} {P : α → Prop} (m : (a == b) = true) (h : P b) : P a := (beq_iff_eq.mp m) ▸ h
noncomputable def onName (e : Expr) (f : Str → Pos → Bool) : Bool := if h : e.ctorIdx = 23 then @Expr.Name.elim (fun _ => Bool) e h f else false
theorem onName_e {e : Expr} {f : Str → Pos → Bool} {P : Expr → Prop} (m : onName e f = true) (kk : ∀ id p, f id p = true → P (.Name id p)) : P e :=
  dite_e m fun h m => @Expr.Name.elim (fun e => ∀ h : e.ctorIdx = 23, @Expr.Name.elim (fun _ => Bool) e h f = true → P e) e h (fun id p _ m => kk id p m) h m
noncomputable def onConst (e : Expr) (f : Const → Nat → Pos → Bool) : Bool := if h : e.ctorIdx = 19 then @Expr.Constant.elim (fun _ => Bool) e h f else false
theorem onConst_e {e : Expr} {f : Const → Nat → Pos → Bool} {P : Expr → Prop} (m : onConst e f = true) (kk : ∀ c k p, f c k p = true → P (.Constant c k p)) : P e :=
  dite_e m fun h m => @Expr.Constant.elim (fun e => ∀ h : e.ctorIdx = 19, @Expr.Constant.elim (fun _ => Bool) e h f = true → P e) e h (fun c k p _ m => kk c k p m) h m
noncomputable def onUn (e : Expr) (f : UnaryOp → Expr → Pos → Bool) : Bool := if h : e.ctorIdx = 3 then @Expr.UnaryOp.elim (fun _ => Bool) e h f else false
theorem onUn_e {e : Expr} {f : UnaryOp → Expr → Pos → Bool} {P : Expr → Prop} (m : onUn e f = true) (kk : ∀ o a p, f o a p = true → P (.UnaryOp o a p)) : P e :=
  dite_e m fun h m => @Expr.UnaryOp.elim (fun e => ∀ h : e.ctorIdx = 3, @Expr.UnaryOp.elim (fun _ => Bool) e h f = true → P e) e h (fun o a p _ m => kk o a p m) h m
noncomputable def onBin (e : Expr) (f : Expr → Operator → Expr → Pos → Bool) : Bool := if h : e.ctorIdx = 2 then @Expr.BinOp.elim (fun _ => Bool) e h f else false
theorem onBin_e {e : Expr} {f : Expr → Operator → Expr → Pos → Bool} {P : Expr → Prop} (m : onBin e f = true) (kk : ∀ a o b p, f a o b p = true → P (.BinOp a o b p)) : P e :=
  dite_e m fun h m => @Expr.BinOp.elim (fun e => ∀ h : e.ctorIdx = 2, @Expr.BinOp.elim (fun _ => Bool) e h f = true → P e) e h (fun a o b p _ m => kk a o b p m) h m
noncomputable def onBool (e : Expr) (f : BoolOp → List Expr → Pos → Bool) : Bool := if h : e.ctorIdx = 0 then @Expr.BoolOp.elim (fun _ => Bool) e h f else false
theorem onBool_e {e : Expr} {f : BoolOp → List Expr → Pos → Bool} {P : Expr → Prop} (m : onBool e f = true) (kk : ∀ o vs p, f o vs p = true → P (.BoolOp o vs p)) : P e :=
  dite_e m fun h m => @Expr.BoolOp.elim (fun e => ∀ h : e.ctorIdx = 0, @Expr.BoolOp.elim (fun _ => Bool) e h f = true → P e) e h (fun o vs p _ m => kk o vs p m) h m
noncomputable def onIf (e : Expr) (f : Expr → Expr → Expr → Pos → Bool) : Bool := if h : e.ctorIdx = 5 then @Expr.IfExp.elim (fun _ => Bool) e h f else false
theorem onIf_e {e : Expr} {f : Expr → Expr → Expr → Pos → Bool} {P : Expr → Prop} (m : onIf e f = true) (kk : ∀ a b c p, f a b c p = true → P (.IfExp a b c p)) : P e :=
  dite_e m fun h m => @Expr.IfExp.elim (fun e => ∀ h : e.ctorIdx = 5, @Expr.IfExp.elim (fun _ => Bool) e h f = true → P e) e h (fun a b c p _ m => kk a b c p m) h m
noncomputable def onCmp (e : Expr) (f : Expr → List CmpOp → List Expr → Pos → Bool) : Bool := if h : e.ctorIdx = 15 then @Expr.Compare.elim (fun _ => Bool) e h f else false
theorem onCmp_e {e : Expr} {f : Expr → List CmpOp → List Expr → Pos → Bool} {P : Expr → Prop} (m : onCmp e f = true) (kk : ∀ a os bs p, f a os bs p = true → P (.Compare a os bs p)) : P e :=
  dite_e m fun h m => @Expr.Compare.elim (fun e => ∀ h : e.ctorIdx = 15, @Expr.Compare.elim (fun _ => Bool) e h f = true → P e) e h (fun a os bs p _ m => kk a os bs p m) h m
noncomputable def onTup (e : Expr) (f : List Expr → Nat → Pos → Bool) : Bool := if h : e.ctorIdx = 25 then @Expr.Tuple.elim (fun _ => Bool) e h f else false
theorem onTup_e {e : Expr} {f : List Expr → Nat → Pos → Bool} {P : Expr → Prop} (m : onTup e f = true) (kk : ∀ es k p, f es k p = true → P (.Tuple es k p)) : P e :=
  dite_e m fun h m => @Expr.Tuple.elim (fun e => ∀ h : e.ctorIdx = 25, @Expr.Tuple.elim (fun _ => Bool) e h f = true → P e) e h (fun es k p _ m => kk es k p m) h m
noncomputable def onList (e : Expr) (f : List Expr → Pos → Bool) : Bool := if h : e.ctorIdx = 24 then @Expr.List.elim (fun _ => Bool) e h f else false
theorem onList_e {e : Expr} {f : List Expr → Pos → Bool} {P : Expr → Prop} (m : onList e f = true) (kk : ∀ es p, f es p = true → P (.List es p)) : P e :=
  dite_e m fun h m => @Expr.List.elim (fun e => ∀ h : e.ctorIdx = 24, @Expr.List.elim (fun _ => Bool) e h f = true → P e) e h (fun es p _ m => kk es p m) h m
noncomputable def onDict (e : Expr) (f : List (Option Expr) → List Expr → Pos → Bool) : Bool := if h : e.ctorIdx = 6 then @Expr.Dict.elim (fun _ => Bool) e h f else false
theorem onDict_e {e : Expr} {f : List (Option Expr) → List Expr → Pos → Bool} {P : Expr → Prop} (m : onDict e f = true) (kk : ∀ ks vs p, f ks vs p = true → P (.Dict ks vs p)) : P e :=
  dite_e m fun h m => @Expr.Dict.elim (fun e => ∀ h : e.ctorIdx = 6, @Expr.Dict.elim (fun _ => Bool) e h f = true → P e) e h (fun ks vs p _ m => kk ks vs p m) h m
noncomputable def onSub (e : Expr) (f : Expr → Expr → Pos → Bool) : Bool := if h : e.ctorIdx = 21 then @Expr.Subscript.elim (fun _ => Bool) e h f else false
theorem onSub_e {e : Expr} {f : Expr → Expr → Pos → Bool} {P : Expr → Prop} (m : onSub e f = true) (kk : ∀ a b p, f a b p = true → P (.Subscript a b p)) : P e :=
  dite_e m fun h m => @Expr.Subscript.elim (fun e => ∀ h : e.ctorIdx = 21, @Expr.Subscript.elim (fun _ => Bool) e h f = true → P e) e h (fun a b p _ m => kk a b p m) h m
noncomputable def onSlice (e : Expr) (f : Option Expr → Option Expr → Option Expr → Pos → Bool) : Bool := if h : e.ctorIdx = 26 then @Expr.Slice.elim (fun _ => Bool) e h f else false
theorem onSlice_e {e : Expr} {f : Option Expr → Option Expr → Option Expr → Pos → Bool} {P : Expr → Prop} (m : onSlice e f = true) (kk : ∀ lo hi st p, f lo hi st p = true → P (.Slice lo hi st p)) : P e :=
  dite_e m fun h m => @Expr.Slice.elim (fun e => ∀ h : e.ctorIdx = 26, @Expr.Slice.elim (fun _ => Bool) e h f = true → P e) e h (fun lo hi st p _ m => kk lo hi st p m) h m
noncomputable def onCall (e : Expr) (f : Expr → List Expr → List Keyword → Pos → Bool) : Bool := if h : e.ctorIdx = 16 then @Expr.Call.elim (fun _ => Bool) e h f else false
theorem onCall_e {e : Expr} {f : Expr → List Expr → List Keyword → Pos → Bool} {P : Expr → Prop} (m : onCall e f = true) (kk : ∀ g as ks p, f g as ks p = true → P (.Call g as ks p)) : P e :=
  dite_e m fun h m => @Expr.Call.elim (fun e => ∀ h : e.ctorIdx = 16, @Expr.Call.elim (fun _ => Bool) e h f = true → P e) e h (fun g as ks p _ m => kk g as ks p m) h m
noncomputable def onAttr (e : Expr) (f : Expr → Str → Pos → Bool) : Bool := if h : e.ctorIdx = 20 then @Expr.Attribute.elim (fun _ => Bool) e h f else false
theorem onAttr_e {e : Expr} {f : Expr → Str → Pos → Bool} {P : Expr → Prop} (m : onAttr e f = true) (kk : ∀ b n p, f b n p = true → P (.Attribute b n p)) : P e :=
  dite_e m fun h m => @Expr.Attribute.elim (fun e => ∀ h : e.ctorIdx = 20, @Expr.Attribute.elim (fun _ => Bool) e h f = true → P e) e h (fun b n p _ m => kk b n p m) h m
noncomputable def onComp (e : Expr) (f : Expr → List Comprehension → Scope → Pos → Bool) : Bool := if h : e.ctorIdx = 8 then @Expr.ListComp.elim (fun _ => Bool) e h f else false
theorem onComp_e {e : Expr} {f : Expr → List Comprehension → Scope → Pos → Bool} {P : Expr → Prop} (m : onComp e f = true) (kk : ∀ e gs sc p, f e gs sc p = true → P (.ListComp e gs sc p)) : P e :=
  dite_e m fun h m => @Expr.ListComp.elim (fun e => ∀ h : e.ctorIdx = 8, @Expr.ListComp.elim (fun _ => Bool) e h f = true → P e) e h (fun e gs sc p _ m => kk e gs sc p m) h m
noncomputable def onAssign (e : Stmt) (f : List Expr → Expr → Pos → Bool) : Bool := if h : e.ctorIdx = 5 then @Stmt.Assign.elim (fun _ => Bool) e h f else false
theorem onAssign_e {e : Stmt} {f : List Expr → Expr → Pos → Bool} {P : Stmt → Prop} (m : onAssign e f = true) (kk : ∀ ts v p, f ts v p = true → P (.Assign ts v p)) : P e :=
  dite_e m fun h m => @Stmt.Assign.elim (fun e => ∀ h : e.ctorIdx = 5, @Stmt.Assign.elim (fun _ => Bool) e h f = true → P e) e h (fun ts v p _ m => kk ts v p m) h m
noncomputable def onExp (e : Stmt) (f : Expr → Pos → Bool) : Bool := if h : e.ctorIdx = 24 then @Stmt.Expr.elim (fun _ => Bool) e h f else false
theorem onExp_e {e : Stmt} {f : Expr → Pos → Bool} {P : Stmt → Prop} (m : onExp e f = true) (kk : ∀ v p, f v p = true → P (.Expr v p)) : P e :=
  dite_e m fun h m => @Stmt.Expr.elim (fun e => ∀ h : e.ctorIdx = 24, @Stmt.Expr.elim (fun _ => Bool) e h f = true → P e) e h (fun v p _ m => kk v p m) h m
noncomputable def onIte (e : Stmt) (f : Expr → List Stmt → List Stmt → Pos → Bool) : Bool := if h : e.ctorIdx = 12 then @Stmt.If.elim (fun _ => Bool) e h f else false
theorem onIte_e {e : Stmt} {f : Expr → List Stmt → List Stmt → Pos → Bool} {P : Stmt → Prop} (m : onIte e f = true) (kk : ∀ c a b p, f c a b p = true → P (.If c a b p)) : P e :=
  dite_e m fun h m => @Stmt.If.elim (fun e => ∀ h : e.ctorIdx = 12, @Stmt.If.elim (fun _ => Bool) e h f = true → P e) e h (fun c a b p _ m => kk c a b p m) h m
noncomputable def onFor (e : Stmt) (f : Expr → Expr → List Stmt → List Stmt → Pos → Bool) : Bool := if h : e.ctorIdx = 9 then @Stmt.For.elim (fun _ => Bool) e h f else false
theorem onFor_e {e : Stmt} {f : Expr → Expr → List Stmt → List Stmt → Pos → Bool} {P : Stmt → Prop} (m : onFor e f = true) (kk : ∀ t i b o p, f t i b o p = true → P (.For t i b o p)) : P e :=
  dite_e m fun h m => @Stmt.For.elim (fun e => ∀ h : e.ctorIdx = 9, @Stmt.For.elim (fun _ => Bool) e h f = true → P e) e h (fun t i b o p _ m => kk t i b o p m) h m
noncomputable def onWhl (e : Stmt) (f : Expr → List Stmt → List Stmt → Pos → Bool) : Bool := if h : e.ctorIdx = 11 then @Stmt.While.elim (fun _ => Bool) e h f else false
theorem onWhl_e {e : Stmt} {f : Expr → List Stmt → List Stmt → Pos → Bool} {P : Stmt → Prop} (m : onWhl e f = true) (kk : ∀ c b o p, f c b o p = true → P (.While c b o p)) : P e :=
  dite_e m fun h m => @Stmt.While.elim (fun e => ∀ h : e.ctorIdx = 11, @Stmt.While.elim (fun _ => Bool) e h f = true → P e) e h (fun c b o p _ m => kk c b o p m) h m
noncomputable def onRet (e : Stmt) (f : Option Expr → Pos → Bool) : Bool := if h : e.ctorIdx = 3 then @Stmt.Return.elim (fun _ => Bool) e h f else false
theorem onRet_e {e : Stmt} {f : Option Expr → Pos → Bool} {P : Stmt → Prop} (m : onRet e f = true) (kk : ∀ v p, f v p = true → P (.Return v p)) : P e :=
  dite_e m fun h m => @Stmt.Return.elim (fun e => ∀ h : e.ctorIdx = 3, @Stmt.Return.elim (fun _ => Bool) e h f = true → P e) e h (fun v p _ m => kk v p m) h m
noncomputable def cInt (c : Const) (f : Int → Bool) : Bool := by
  cases c with
  | int x => exact f x
  | _ => exact false
theorem cInt_e {c : Const} {f : Int → Bool} {P : Const → Prop} (m : cInt c f = true) (h : ∀ x, f x = true → P (.int x)) : P c := by
  cases c with
  | int x => exact h x m
  | _ => exact ff m
noncomputable def cBool (c : Const) (f : Bool → Bool) : Bool := by
  cases c with
  | bool x => exact f x
  | _ => exact false
theorem cBool_e {c : Const} {f : Bool → Bool} {P : Const → Prop} (m : cBool c f = true) (h : ∀ x, f x = true → P (.bool x)) : P c := by
  cases c with
  | bool x => exact h x m
  | _ => exact ff m
noncomputable def cBytes (c : Const) (f : List UInt8 → Bool) : Bool := by
  cases c with
  | bytes x => exact f x
  | _ => exact false
theorem cBytes_e {c : Const} {f : List UInt8 → Bool} {P : Const → Prop} (m : cBytes c f = true) (h : ∀ x, f x = true → P (.bytes x)) : P c := by
  cases c with
  | bytes x => exact h x m
  | _ => exact ff m
noncomputable def cNone (c : Const) : Bool := by
  cases c with
  | none => exact true
  | _ => exact false
theorem cNone_e {c : Const} {P : Const → Prop} (m : cNone c = true) (h : P .none) : P c := by
  cases c with
  | none => exact h
  | _ => exact ff m
theorem onName_Name {id : Str} {p : Pos} {f : Str → Pos → Bool} : onName (.Name id p) f = f id p := rfl
theorem onTup_Tuple {es : List Expr} {k : Nat} {p : Pos} {f : List Expr → Nat → Pos → Bool} : onTup (.Tuple es k p) f = f es k p := rfl
noncomputable def mXs (f : X → Expr → Bool) : List X → List Expr → Bool
  | [], [] => true
  | x :: xs, e :: es => f x e && mXs f xs es
  | _, _ => false
noncomputable def mXo (f : X → Expr → Bool) : Option X → Option Expr → Bool
  | none, none => true
  | some x, some e => f x e
  | _, _ => false
noncomputable def mIf (f : X → Expr → Bool) : Option X → List Expr → Bool
  | none, [] => true
  | some x, [e] => f x e
  | _, _ => false
noncomputable def okv (x : Nat) : Bool := decide (x < vnames.length)
noncomputable def mNs (sc : Scope) (k : Bool) : List Nat → List Expr → Bool
  | [], [] => true
  | x :: xs, e :: es => (onName e fun id _ => id == vn x && okv x && (has sc id .local || (k && has sc id .cell))) && mNs sc k xs es
  | _, _ => false
noncomputable def mTg (sc : Scope) (tg : Tg) (e : Expr) : Bool := match tg with
  | .one x => onName e fun id _ => id == vn x && okv x && has sc id .local
  | .many xs => onTup e fun es _ _ => mNs sc false xs es
/-- an enumerate is unpacked at once -/
noncomputable def enumOk : Tg → X → Bool
  | .one _, .enum _ => false
  | _, _ => true
noncomputable def debugN : Str := "__debug__"
noncomputable def isList (e : Expr) : Bool := isE e 8 || isE e 9 || isE e 10
noncomputable def tagX (x : X) : Nat := match x with
  | .var _ => 23
  | .int _ => 19
  | .none => 19
  | .bool _ => 19
  | .bytes0 => 19
  | .neg1 => 3
  | .not _ => 3
  | .bin _ _ _ => 2
  | .and _ _ => 0
  | .or _ _ => 0
  | .ife _ _ _ => 5
  | .cmp _ _ _ => 15
  | .cmp2 _ _ _ _ _ => 15
  | .tup _ => 25
  | .list _ => 24
  | .dict0 => 6
  | .idx _ _ => 21
  | .cut _ _ _ => 21
  | .call _ _ => 16
  | .«bif» _ _ => 16
  | .met _ _ _ => 16
  | .range _ => 16
  | .enum _ => 16
  | .comp _ _ _ _ _ => 8
noncomputable def mComp (f : Scope → X → Expr → Bool) (sc : Scope) (el : X) (tg : Tg) (s : X) (c : Option X) (free : List Nat) (pe : Expr) (g : Comprehension) (scope : Scope) : Bool :=
  g.is_async == 0 && scope.kind == .function && decide (scope.names.map (·.1)).Nodup && scope.names.all (fun y => y.2 != .cell) && scope.names.all (fun y => y.2 != .local || has scope y.1 .local) && scope.names.all (fun y => y.2 != .free || has sc y.1 .cell) &&
  free.all (fun x => has scope (vn x) .free) && mTg scope tg g.target && enumOk tg s && f sc s g.iter && mIf (f scope) c g.ifs && f scope el pe
noncomputable def mCall (sc : Scope) (e : Expr) (nm : Str) (f : List Expr → Bool) : Bool :=
  onCall e fun g ps kws _ => l0 kws && onName g fun id _ => id == nm && has sc nm .globalImplicit && f ps
noncomputable def mStep (f : Scope → X → Expr → Bool) (sc : Scope) (x : X) (e : Expr) : Bool := match x with
  | .var x => onName e fun id _ => id == vn x && vn x != debugN
  | .int i => onConst e fun c _ _ => cInt c fun j => j == i
  | .none => onConst e fun c _ _ => cNone c
  | .bool b => onConst e fun c _ _ => cBool c fun d => d == b
  | .bytes0 => onConst e fun c _ _ => cBytes c fun l => l0 l
  | .neg1 => onUn e fun op a _ => op == .USub && onConst a fun c _ _ => cInt c fun j => j == 1
  | .not x => onUn e fun op a _ => op == .Not && f sc x a
  | .bin op l r => onBin e fun a o b _ => o == bopOf op && f sc l a && f sc r b
  | .and l r => onBool e fun o vs _ => o == .And && l2 vs fun a b => f sc l a && f sc r b
  | .or l r => onBool e fun o vs _ => o == .Or && l2 vs fun a b => f sc l a && f sc r b
  | .ife c a b => onIf e fun pc pa pb _ => f sc c pc && f sc a pa && f sc b pb
  | .cmp l op r => onCmp e fun a os bs _ => l1 os fun o => l1 bs fun b => o == copOf op && f sc l a && f sc r b && !behindInMarks (copOf op) b
  | .cmp2 l o1 m o2 r => onCmp e fun a os bs _ => l2 os fun p1 p2 => l2 bs fun b c => p1 == copOf o1 && p2 == copOf o2 && f sc l a && f sc m b && f sc r c && !behindInMarks (copOf o2) c
  | .tup es => onTup e fun ps _ _ => mXs (f sc) es ps
  | .list es => onList e fun ps _ => mXs (f sc) es ps
  | .dict0 => onDict e fun ks vs _ => l0 ks && l0 vs
  | .idx x i => onSub e fun a j _ => f sc x a && f sc i j
  | .cut x lo hi => onSub e fun a j _ => onSlice j fun pl ph st _ => o0 st && f sc x a && mXo (f sc) lo pl && mXo (f sc) hi ph
  | .call g args => mCall sc e (fnm g) fun ps => mXs (f sc) args ps
  | .bif g args => mCall sc e (Str.ofString (bfName g)) fun ps => mXs (f sc) args ps
  | .met m o args => onCall e fun g ps kws pos => l0 kws && onAttr g fun b name apos => name == mtName m && isBase b && apos.endLine == pos.line && f sc o b && mXs (f sc) args ps && decide (args.length ≤ 2)
  | .range args => mCall sc e (Str.ofString "range") fun ps => mXs (f sc) args ps
  | .enum x => mCall sc e (Str.ofString "enumerate") fun ps => l1 ps fun a => f sc x a
  | .comp el tg s c free => onComp e fun pe gs scope _ => l1 gs fun g => mComp f sc el tg s c free pe g scope
noncomputable def mX : Nat → Scope → X → Expr → Bool
  | 0, _, _, _ => false
  | n + 1, sc, x, e => mStep (mX n) sc x e

noncomputable def isCons (e : Expr) : Bool := isE e 22
/-- the stores of a tuple of values to a tuple of names: swapped or not, but never given up -/
noncomputable def swapOk (ts : List Expr) (v : Expr) : Bool := match v with
  | .Tuple vs _ _ => vs.all (fun e => !isCons e) && (vs.all (foldedForSure 8) || !vs.all (constantsAlone 8))
  | _ => true
noncomputable def mYs (f : Y → Stmt → Bool) : List Y → List Stmt → Bool
  | [], [] => true
  | y :: ys, t :: ts => f y t && mYs f ys ts
  | _, _ => false
noncomputable def mYt (g : X → Expr → Bool) (f : Y → Stmt → Bool) (sc : Scope) (y : Y) (t : Stmt) : Bool := match y with
  | .set x e => onAssign t fun ts v _ => l1 ts fun a => onName a fun id _ => id == vn x && okv x && (has sc (vn x) .local || has sc (vn x) .cell) && !isList v && g e v
  | .setT xs e => onAssign t fun ts v _ => l1 ts fun a => onTup a fun ts _ _ => mNs sc true xs ts && !isList v && swapOk ts v && g e v && decide xs.Nodup
  | .setI o i e => onAssign t fun ts v _ => l1 ts fun a => onSub a fun po pi _ => !isList v && g e v && g o po && g i pi
  | .exp e => onExp t fun v _ => !isList v && g e v
  | .ite c a b => onIte t fun pc pa pb _ => g c pc && mYs f a pa && mYs f b pb
  | .forT tg s b => onFor t fun pt pi pb po _ => l0 po && mTg sc tg pt && enumOk tg s && g s pi && mYs f b pb
  | .whl c b => onWhl t fun pc pb po _ => l0 po && g c pc && mYs f b pb
  | .ret e => onRet t fun v _ => onSome v fun v => g e v
noncomputable def mY : Nat → Scope → Y → Stmt → Bool
  | 0, _, _, _ => false
  | n + 1, sc, y, t => mYt (mX n sc) (mY n sc) sc y t

noncomputable def mFuel : Nat := 40
/-- a def that is the mini function -/
noncomputable def mFn (d : Fn) (params : Arguments) (body : List Stmt) (sc : Scope) : Bool :=
  params.posonlyargs.isEmpty && params.vararg.isNone && params.kwonlyargs.isEmpty && params.kw_defaults.isEmpty && params.kwarg.isNone && params.defaults.isEmpty &&
  (params.args.map (·.arg) == d.ps.map vn) && sc.kind == .function && !sc.isGenerator && !sc.isCoroutine && d.ps.all (fun x => okv x && (has sc (vn x) .local || has sc (vn x) .cell)) && decide d.ps.Nodup &&
  sc.names.all (fun y => y.2 != .free) && decide (sc.names.map (·.1)).Nodup && mYs (mY mFuel sc) d.body body
noncomputable def defOf : Stmt → Option (Str × Arguments × List Stmt × Scope)
  | .FunctionDef name args body _ _ _ scope _ _ _ => some (name, args, body, scope)
  | _ => none
noncomputable def pyDefs : List (Str × Arguments × List Stmt × Scope) := PySem.Challenge.pw_no0061_01.main.body.filterMap defOf
noncomputable def allMatch : Bool := (List.range 19).all fun i => match fns[i]?, pyDefs[i]? with
  | some d, some p => p.1 == fnm i && mFn d p.2.1 p.2.2.1 p.2.2.2
  | _, _ => false
theorem all_match : allMatch = true := by decide +kernel
theorem names_inj : ∀ x y, x < vnames.length → y < vnames.length → vn x = vn y → x = y := by
  have : ((List.range vnames.length).all fun x => (List.range vnames.length).all fun y => !(vn x == vn y) || x == y) = true := by decide +kernel
  intro x y hx hy e
  have h := List.all_eq_true.mp (List.all_eq_true.mp this x (List.mem_range.mpr hx)) y (List.mem_range.mpr hy)
  simpa [e] using h
end Mine

/-! Inv -/
namespace Mine
open PySem PySem.W PyProof.Rows PySem.SeqAt

section
variable {k : Nat} {sc : Scope} {e : Expr} {x y z l r mm : X} {es : List X}
theorem mCall_e {nm : Str} {f : List Expr → Bool} {P : Expr → Prop} (m : mCall sc e nm f = true) (h : ∀ q ps p, has sc nm .globalImplicit = true → f ps = true → P (.Call (.Name nm q) ps [] p)) : P e :=
  onCall_e m fun g ps kws p m => an m fun m0 m => l0_e (P := fun kws => P (.Call g ps kws p)) m0 (onName_e (P := fun g => P (.Call g ps [] p)) m fun id q m => an m fun m h2 => an m fun m h1 => be (P := fun id => P (.Call (.Name id q) ps [] p)) m (h q ps p h1 h2))
theorem mX_tag (m : mX (k + 1) sc x e = true) : isE e (tagX x) = true := by
  cases x with
  | var _ => exact onName_e (P := fun e => isE e 23 = true) m fun _ _ _ => rfl
  | neg1 => exact onUn_e (P := fun e => isE e 3 = true) m fun _ _ _ _ => rfl
  | not _ => exact onUn_e (P := fun e => isE e 3 = true) m fun _ _ _ _ => rfl
  | bin _ _ _ => exact onBin_e (P := fun e => isE e 2 = true) m fun _ _ _ _ _ => rfl
  | and _ _ => exact onBool_e (P := fun e => isE e 0 = true) m fun _ _ _ _ => rfl
  | or _ _ => exact onBool_e (P := fun e => isE e 0 = true) m fun _ _ _ _ => rfl
  | ife _ _ _ => exact onIf_e (P := fun e => isE e 5 = true) m fun _ _ _ _ _ => rfl
  | cmp _ _ _ => exact onCmp_e (P := fun e => isE e 15 = true) m fun _ _ _ _ _ => rfl
  | cmp2 _ _ _ _ _ => exact onCmp_e (P := fun e => isE e 15 = true) m fun _ _ _ _ _ => rfl
  | tup _ => exact onTup_e (P := fun e => isE e 25 = true) m fun _ _ _ _ => rfl
  | list _ => exact onList_e (P := fun e => isE e 24 = true) m fun _ _ _ => rfl
  | dict0 => exact onDict_e (P := fun e => isE e 6 = true) m fun _ _ _ _ => rfl
  | idx _ _ => exact onSub_e (P := fun e => isE e 21 = true) m fun _ _ _ _ => rfl
  | cut _ _ _ => exact onSub_e (P := fun e => isE e 21 = true) m fun _ _ _ _ => rfl
  | met _ _ _ => exact onCall_e (P := fun e => isE e 16 = true) m fun _ _ _ _ _ => rfl
  | comp _ _ _ _ _ => exact onComp_e (P := fun e => isE e 8 = true) m fun _ _ _ _ _ => rfl
  | call _ _ => exact mCall_e (P := fun e => isE e 16 = true) m fun _ _ _ _ _ => rfl
  | «bif» _ _ => exact mCall_e (P := fun e => isE e 16 = true) m fun _ _ _ _ _ => rfl
  | range _ => exact mCall_e (P := fun e => isE e 16 = true) m fun _ _ _ _ _ => rfl
  | enum _ => exact mCall_e (P := fun e => isE e 16 = true) m fun _ _ _ _ _ => rfl
  | int _ => exact onConst_e (P := fun e => isE e 19 = true) m fun _ _ _ _ => rfl
  | none => exact onConst_e (P := fun e => isE e 19 = true) m fun _ _ _ _ => rfl
  | bool _ => exact onConst_e (P := fun e => isE e 19 = true) m fun _ _ _ _ => rfl
  | bytes0 => exact onConst_e (P := fun e => isE e 19 = true) m fun _ _ _ _ => rfl

theorem iv_var {n : Nat} {P : Expr → Prop} (m : mX (k + 1) sc (.var n) e = true) (go : ∀ p, (vn n != debugN) = true → P (.Name (vn n) p)) : P e :=
  onName_e (P := P) m fun id p m => an m fun h h2 => by cases beq_iff_eq.mp h; exact (go p h2)
theorem iv_int {i : Int} {P : Expr → Prop} (m : mX (k + 1) sc (.int i) e = true) (go : ∀ kk p, P (.Constant (.int i) kk p)) : P e :=
  onConst_e (P := P) m fun c kk p m => by
    refine cInt_e (P := fun c => P (Expr.Constant c kk p)) m fun j m => ?_
    cases beq_iff_eq.mp m; exact (go kk p)
theorem iv_bool {b : Bool} {P : Expr → Prop} (m : mX (k + 1) sc (.bool b) e = true) (go : ∀ kk p, P (.Constant (.bool b) kk p)) : P e :=
  onConst_e (P := P) m fun c kk p m => by
    refine cBool_e (P := fun c => P (Expr.Constant c kk p)) m fun j m => ?_
    cases beq_iff_eq.mp m; exact (go kk p)
theorem iv_none {P : Expr → Prop} (m : mX (k + 1) sc .none e = true) (go : ∀ kk p, P (.Constant .none kk p)) : P e :=
  onConst_e (P := P) m fun c kk p m => cNone_e (P := fun c => P (Expr.Constant c kk p)) m (go kk p)
theorem iv_bytes0 {P : Expr → Prop} (m : mX (k + 1) sc .bytes0 e = true) (go : ∀ kk p, P (.Constant (.bytes []) kk p)) : P e :=
  onConst_e (P := P) m fun c kk p m => cBytes_e (P := fun c => P (Expr.Constant c kk p)) m fun l m => l0_e (P := fun l => P (Expr.Constant (.bytes l) kk p)) m (go kk p)
theorem iv_neg1 {P : Expr → Prop} (m : mX (k + 1) sc .neg1 e = true) (go : ∀ kk p p', P (.UnaryOp .USub (.Constant (.int 1) kk p) p')) : P e :=
  onUn_e (P := P) m fun op a p m => an m fun h m => by
    cases beq_iff_eq.mp h
    refine onConst_e (P := fun a => P (Expr.UnaryOp .USub a p)) m fun c kk q m => ?_
    refine cInt_e (P := fun c => P (Expr.UnaryOp .USub (.Constant c kk q) p)) m fun j m => ?_
    cases beq_iff_eq.mp m; exact (go kk q p)
theorem iv_not {P : Expr → Prop} (m : mX (k + 1) sc (.not x) e = true) (go : ∀ a p, mX k sc x a = true → P (.UnaryOp .Not a p)) : P e :=
  onUn_e (P := P) m fun op a p m => an m fun h m => by cases beq_iff_eq.mp h; exact (go a p m)
theorem iv_bin {op : Bop} {P : Expr → Prop} (m : mX (k + 1) sc (.bin op l r) e = true) (go : ∀ a b p, mX k sc l a = true → mX k sc r b = true → P (.BinOp a (bopOf op) b p)) : P e :=
  onBin_e (P := P) m fun a o b p m => an m fun m h2 => an m fun h h1 => by cases beq_iff_eq.mp h; exact (go a b p h1 h2)
theorem iv_and {P : Expr → Prop} (m : mX (k + 1) sc (.and l r) e = true) (go : ∀ a b p, mX k sc l a = true → mX k sc r b = true → P (.BoolOp .And [a, b] p)) : P e :=
  onBool_e (P := P) m fun o vs p m => an m fun h m => by
    cases beq_iff_eq.mp h
    exact l2_e (P := fun vs => P (Expr.BoolOp .And vs p)) m fun a b m => (go a b p (and2 m).1 (and2 m).2)
theorem iv_or {P : Expr → Prop} (m : mX (k + 1) sc (.or l r) e = true) (go : ∀ a b p, mX k sc l a = true → mX k sc r b = true → P (.BoolOp .Or [a, b] p)) : P e :=
  onBool_e (P := P) m fun o vs p m => an m fun h m => by
    cases beq_iff_eq.mp h
    exact l2_e (P := fun vs => P (Expr.BoolOp .Or vs p)) m fun a b m => (go a b p (and2 m).1 (and2 m).2)
theorem iv_ife {P : Expr → Prop} (m : mX (k + 1) sc (.ife x y z) e = true) (go : ∀ a b c p, mX k sc x a = true → mX k sc y b = true → mX k sc z c = true → P (.IfExp a b c p)) : P e :=
  onIf_e (P := P) m fun a b c p m => an m fun m h3 => an m fun h1 h2 => (go a b c p h1 h2 h3)
theorem iv_cmp {op : Cop} {P : Expr → Prop} (m : mX (k + 1) sc (.cmp l op r) e = true) (go : ∀ a b p, mX k sc l a = true → mX k sc r b = true → behindInMarks (copOf op) b = false → P (.Compare a [copOf op] [b] p)) : P e :=
  onCmp_e (P := P) m fun a os bs p m => by
    refine l1_e (P := fun os => P (Expr.Compare a os bs p)) m fun o m => ?_
    refine l1_e (P := fun bs => P (Expr.Compare a [o] bs p)) m fun b m => ?_
    refine an m fun m h3 => an m fun m h2 => an m fun h h1 => ?_
    cases beq_iff_eq.mp h; exact (go a b p h1 h2 (nn h3))
theorem iv_cmp2 {o₁ o₂ : Cop} {P : Expr → Prop} (m : mX (k + 1) sc (.cmp2 l o₁ mm o₂ r) e = true) (go : ∀ a b d p, mX k sc l a = true → mX k sc mm b = true → mX k sc r d = true → behindInMarks (copOf o₂) d = false → P (.Compare a [copOf o₁, copOf o₂] [b, d] p)) : P e :=
  onCmp_e (P := P) m fun a os bs p m => by
    refine l2_e (P := fun os => P (Expr.Compare a os bs p)) m fun o o' m => ?_
    refine l2_e (P := fun bs => P (Expr.Compare a [o, o'] bs p)) m fun b d m => ?_
    refine an m fun m h6 => an m fun m h5 => an m fun m h4 => an m fun m h3 => an m fun h h2 => ?_
    cases beq_iff_eq.mp h; cases beq_iff_eq.mp h2; exact (go a b d p h3 h4 h5 (nn h6))
theorem iv_tup {P : Expr → Prop} (m : mX (k + 1) sc (.tup es) e = true) (go : ∀ ps c p, mXs (mX k sc) es ps = true → P (.Tuple ps c p)) : P e :=
  onTup_e (P := P) m fun ps c p m => (go ps c p m)
theorem iv_list {P : Expr → Prop} (m : mX (k + 1) sc (.list es) e = true) (go : ∀ ps p, mXs (mX k sc) es ps = true → P (.List ps p)) : P e :=
  onList_e (P := P) m fun ps p m => (go ps p m)
theorem iv_dict0 {P : Expr → Prop} (m : mX (k + 1) sc .dict0 e = true) (go : ∀ p, P (.Dict [] [] p)) : P e :=
  onDict_e (P := P) m fun ks vs p m => an m fun h h2 => l0_e (P := fun ks => P (Expr.Dict ks vs p)) h (l0_e (P := fun vs => P (Expr.Dict [] vs p)) h2 (go p))
theorem iv_idx {P : Expr → Prop} (m : mX (k + 1) sc (.idx x y) e = true) (go : ∀ a b p, mX k sc x a = true → mX k sc y b = true → P (.Subscript a b p)) : P e :=
  onSub_e (P := P) m fun a b p m => (go a b p (and2 m).1 (and2 m).2)
theorem iv_cut {lo hi : Option X} {P : Expr → Prop} (m : mX (k + 1) sc (.cut x lo hi) e = true) (go : ∀ a pl ph q p, mX k sc x a = true → mXo (mX k sc) lo pl = true → mXo (mX k sc) hi ph = true → P (.Subscript a (.Slice pl ph none q) p)) : P e :=
  onSub_e (P := P) m fun a b p m => by
    refine onSlice_e (P := fun b => P (Expr.Subscript a b p)) m fun pl ph s q m => an m fun m h3 => an m fun m h2 => an m fun h h1 => ?_
    exact o0_e (P := fun s => P (Expr.Subscript a (.Slice pl ph s q) p)) h (go a pl ph q p h1 h2 h3)
theorem iv_call {f : Nat} {P : Expr → Prop} (m : mX (k + 1) sc (.call f es) e = true) (go : ∀ np ps pos, has sc (fnm f) .globalImplicit = true → mXs (mX k sc) es ps = true → P (.Call (.Name (fnm f) np) ps [] pos)) : P e :=
  mCall_e (P := P) m fun q ps p h h2 => (go q ps p h h2)
theorem iv_bif {f : Bf} {P : Expr → Prop} (m : mX (k + 1) sc (.bif f es) e = true) (go : ∀ np ps pos, has sc (Str.ofString (bfName f)) .globalImplicit = true → mXs (mX k sc) es ps = true → P (.Call (.Name (Str.ofString (bfName f)) np) ps [] pos)) : P e :=
  mCall_e (P := P) m fun q ps p h h2 => (go q ps p h h2)
theorem iv_range {P : Expr → Prop} (m : mX (k + 1) sc (.range es) e = true) (go : ∀ np ps pos, has sc (Str.ofString "range") .globalImplicit = true → mXs (mX k sc) es ps = true → P (.Call (.Name (Str.ofString "range") np) ps [] pos)) : P e :=
  mCall_e (P := P) m fun q ps p h h2 => (go q ps p h h2)
theorem iv_enum {P : Expr → Prop} (m : mX (k + 1) sc (.enum x) e = true) (go : ∀ np a pos, has sc (Str.ofString "enumerate") .globalImplicit = true → mX k sc x a = true → P (.Call (.Name (Str.ofString "enumerate") np) [a] [] pos)) : P e :=
  mCall_e (P := P) m fun q ps p h m => l1_e (P := fun ps => P (Expr.Call (.Name (Str.ofString "enumerate") q) ps [] p)) m fun a m => (go q a p h m)
theorem iv_met {mt : Mt} {P : Expr → Prop} (m : mX (k + 1) sc (.met mt x es) e = true) (go : ∀ b q ps p, isBase b = true → (q.endLine == p.line) = true → mX k sc x b = true → mXs (mX k sc) es ps = true → es.length ≤ 2 → P (.Call (.Attribute b (mtName mt) q) ps [] p)) : P e :=
  onCall_e (P := P) m fun g ps kws p m => an m fun m0 m => by
    refine l0_e (P := fun kws => P (Expr.Call g ps kws p)) m0 ?_
    refine onAttr_e (P := fun g => P (Expr.Call g ps [] p)) m fun b id q m => an m fun m h6 => an m fun m h5 => an m fun m h4 => an m fun m h3 => an m fun h h2 => ?_
    cases beq_iff_eq.mp h; exact (go b q ps p h2 h3 h4 h5 (of_decide_eq_true h6))
structure CompOk (k : Nat) (sc : Scope) (el : X) (tg : Tg) (s : X) (c : Option X) (free : List Nat) (pe pt pi : Expr) (pc : List Expr) (scope : Scope) : Prop where
  h1 : (scope.kind == .function) = true
  h2 : decide (scope.names.map (·.1)).Nodup = true
  h3 : scope.names.all (fun y => y.2 != .cell) = true
  h4 : scope.names.all (fun y => y.2 != .local || has scope y.1 .local) = true
  h5 : scope.names.all (fun y => y.2 != .free || has sc y.1 .cell) = true
  h6 : free.all (fun x => has scope (vn x) .free) = true
  mt : mTg scope tg pt = true
  en : enumOk tg s = true
  mi : mX k sc s pi = true
  mc : mIf (mX k scope) c pc = true
  me : mX k scope el pe = true
theorem iv_comp {tg : Tg} {c : Option X} {free : List Nat} {P : Expr → Prop} (m : mX (k + 1) sc (.comp x tg y c free) e = true) (go : ∀ pe pt pi pc scope p, CompOk k sc x tg y c free pe pt pi pc scope → P (.ListComp pe [⟨pt, pi, pc, 0⟩] scope p)) : P e :=
  onComp_e (P := P) m fun pe gs scope p m => by
    refine l1_e (P := fun gs => P (Expr.ListComp pe gs scope p)) m fun g m => ?_
    obtain ⟨pt, pi, pc, isa⟩ := g
    refine an m fun m h11 => an m fun m h10 => an m fun m h9 => an m fun m h8 => an m fun m h7 => an m fun m h6 => an m fun m h5 => an m fun m h4 => an m fun m h3 => an m fun m h2 => an m fun h h1 => ?_
    cases beq_iff_eq.mp h; exact (go pe pt pi pc scope p (⟨h1, h2, h3, h4, h5, h6, h7, h8, h9, h10, h11⟩))

/-- the forms that a mini term may stand for -/
noncomputable def shape (e : Expr) : Bool := [0, 2, 3, 5, 6, 8, 15, 16, 19, 21, 23, 24, 25].any (isE e)
theorem isE_eq {n : Nat} (h : isE e n = true) : e.ctorIdx = n := Nat.eq_of_beq_eq_true h
theorem mX_shape (m : mX k sc x e = true) : shape e = true := by
  cases k with
  | zero => exact ff m
  | succ k =>
    have h := isE_eq (mX_tag m)
    have : ([0, 2, 3, 5, 6, 8, 15, 16, 19, 21, 23, 24, 25].any (Nat.beq (tagX x))) = true := by cases x <;> rfl
    unfold shape isE
    rw [h]
    exact this
/-- whether its truth is asked of its value -/
noncomputable def plainV (e : Expr) : Bool := [2, 6, 8, 16, 19, 21, 23, 24, 25].any (isE e)
theorem mX_plainV (m : mX (k + 1) sc x e = true) (hx : ([2, 6, 8, 16, 19, 21, 23, 24, 25].any (Nat.beq (tagX x))) = true) : plainV e = true := by
  have h := isE_eq (mX_tag m)
  unfold plainV isE
  rw [h]
  exact hx

/-! statements -/
variable {t : Stmt}
theorem iy_set {n : Nat} {P : Stmt → Prop} (m : mY (k + 1) sc (.set n x) t = true) (go : ∀ np v p, okv n = true → (has sc (vn n) .local || has sc (vn n) .cell) = true → isList v = false → mX k sc x v = true → P (.Assign [.Name (vn n) np] v p)) : P t :=
  onAssign_e (P := P) m fun ts v p m => by
    refine l1_e (P := fun ts => P (Stmt.Assign ts v p)) m fun a m => ?_
    refine onName_e (P := fun a => P (Stmt.Assign [a] v p)) m fun id np m => an m fun m h5 => an m fun m h4 => an m fun m h3 => an m fun h h2 => ?_
    cases beq_iff_eq.mp h; exact (go np v p h2 h3 (nn h4) h5)
theorem iy_setT {xs : List Nat} {P : Stmt → Prop} (m : mY (k + 1) sc (.setT xs x) t = true) (go : ∀ ts c q v p, mNs sc true xs ts = true → isList v = false → swapOk ts v = true → mX k sc x v = true → xs.Nodup → P (.Assign [.Tuple ts c q] v p)) : P t :=
  onAssign_e (P := P) m fun ts v p m => by
    refine l1_e (P := fun ts => P (Stmt.Assign ts v p)) m fun a m => ?_
    exact onTup_e (P := fun a => P (Stmt.Assign [a] v p)) m fun ts c q m => an m fun m h5 => an m fun m h4 => an m fun m h3 => an m fun h1 h2 => (go ts c q v p h1 (nn h2) h3 h4 (of_decide_eq_true h5))
theorem iy_setI {P : Stmt → Prop} (m : mY (k + 1) sc (.setI x y z) t = true) (go : ∀ po pi q v p, isList v = false → mX k sc z v = true → mX k sc x po = true → mX k sc y pi = true → P (.Assign [.Subscript po pi q] v p)) : P t :=
  onAssign_e (P := P) m fun ts v p m => by
    refine l1_e (P := fun ts => P (Stmt.Assign ts v p)) m fun a m => ?_
    exact onSub_e (P := fun a => P (Stmt.Assign [a] v p)) m fun po pi q m => an m fun m h4 => an m fun m h3 => an m fun h1 h2 => (go po pi q v p (nn h1) h2 h3 h4)
theorem iy_exp {P : Stmt → Prop} (m : mY (k + 1) sc (.exp x) t = true) (go : ∀ v p, isList v = false → mX k sc x v = true → P (.Expr v p)) : P t :=
  onExp_e (P := P) m fun v p m => an m fun h1 h2 => (go v p (nn h1) h2)
theorem iy_ite {a b : List Y} {P : Stmt → Prop} (m : mY (k + 1) sc (.ite x a b) t = true) (go : ∀ pc pa pb p, mX k sc x pc = true → mYs (mY k sc) a pa = true → mYs (mY k sc) b pb = true → P (.If pc pa pb p)) : P t :=
  onIte_e (P := P) m fun pc pa pb p m => an m fun m h3 => an m fun h1 h2 => (go pc pa pb p h1 h2 h3)
theorem iy_for {tg : Tg} {b : List Y} {P : Stmt → Prop} (m : mY (k + 1) sc (.forT tg x b) t = true) (go : ∀ pt pi pb p, mTg sc tg pt = true → enumOk tg x = true → mX k sc x pi = true → mYs (mY k sc) b pb = true → P (.For pt pi pb [] p)) : P t :=
  onFor_e (P := P) m fun pt pi pb po p m => an m fun m h4 => an m fun m h3 => an m fun m h2 => an m fun h h1 =>
    l0_e (P := fun po => P (Stmt.For pt pi pb po p)) h (go pt pi pb p h1 h2 h3 h4)
theorem iy_whl {b : List Y} {P : Stmt → Prop} (m : mY (k + 1) sc (.whl x b) t = true) (go : ∀ pc pb p, mX k sc x pc = true → mYs (mY k sc) b pb = true → P (.While pc pb [] p)) : P t :=
  onWhl_e (P := P) m fun pc pb po p m => an m fun m h2 => an m fun h h1 =>
    l0_e (P := fun po => P (Stmt.While pc pb po p)) h (go pc pb p h1 h2)
theorem iy_ret {P : Stmt → Prop} (m : mY (k + 1) sc (.ret x) t = true) (go : ∀ v p, mX k sc x v = true → P (.Return (some v) p)) : P t :=
  onRet_e (P := P) m fun v p m => onSome_e (P := fun v => P (Stmt.Return v p)) m fun v m => (go v p m)
end
end Mine

/-! Env -/
namespace Mine
open PySem PySem.W PyProof.Rows PySem.SeqAt

structure EnvOk (env : Env) (sc : Scope) : Prop where
  kind : env.scope.kind = .function
  globals : env.globals = mainGlobals
  builtins : env.builtins = builtinsNs
  imp : ∀ id, has sc id .globalImplicit = true → env.kindOf id = some .globalImplicit
  loc : ∀ id, has sc id .local = true → env.kindOf id = some .local
  cel : ∀ id, has sc id .cell = true → env.kindOf id = some .cell ∧ ∃ c, env.cells.lookup id = some c
noncomputable def WF (env : Env) : Addr → Prop := fun b => b = env.locals ∨ ∃ n, (n, b) ∈ env.cells

section
variable (prog : Program) (w : World)
structure FrRel (h₀ h : Heap) (as : Nat → Addr) (σ : St) (env : Env) (ρ : En) (m cm : Str → Option Value) : Prop where
  ns : h.Ns env.locals m
  cell : ∀ n c, env.cells.lookup n = some c → h.IsCell c (cm n)
  mem : ∀ n c, (n, c) ∈ env.cells → ∃ v, h.IsCell c v
  val : ∀ x v, ρ x = some v → x < vnames.length ∧ ∃ u, Rep h as σ.next u v ∧
    ((env.kindOf (vn x) = some .local ∧ m (vn x) = some u) ∨ (env.kindOf (vn x) = some .cell ∧ (∃ c, env.cells.lookup (vn x) = some c) ∧ cm (vn x) = some u))
  apL : ∀ l, l < σ.next → as l ≠ env.locals
  apC : ∀ n c, (n, c) ∈ env.cells → ∀ l, l < σ.next → as l ≠ c
  apLC : ∀ n c, (n, c) ∈ env.cells → c ≠ env.locals
  sep : env.cells.Pairwise fun x y => x.2 ≠ y.2
  baseL : h₀.get? env.locals = none
  baseC : ∀ n c, (n, c) ∈ env.cells → h₀.get? c = none
end

structure Base (prog : Program) (w : World) (h₀ : Heap) (mg mb : Str → Option Value) : Prop where
  g : h₀.Ns mainGlobals mg
  b : h₀.Ns builtinsNs mb
  nolimit : h₀.NoLimit
  fn : ∀ f d, fns[f]? = some d → ∃ a o pm code doc params body scope, mg (fnm f) = some (.ref a) ∧ h₀.get? a = some o ∧ o.data = .func (Calls.docDef (fnm f) params body scope pm code doc) ∧ h₀.CodeRec code (fnm f) ∧ mFn d params body scope = true
  bi : ∀ f : Bf, mg (Str.ofString (bfName f)) = none ∧ mb (Str.ofString (bfName f)) = some (bfVal f)
  rng : mg (Str.ofString "range") = none ∧ mb (Str.ofString "range") = some (.type "range")
  enu : mg (Str.ofString "enumerate") = none ∧ mb (Str.ofString "enumerate") = some (.type "enumerate")

section
variable {prog : Program} {w : World} {h₀ h h' : Heap} {as as' : Nat → Addr} {σ σ' : St} {s s' : Shared} {u u' : Value} {v v' r : AV} {A : Around} {n N : Nat} {E : Value → Shared → Prop} {env : Env} {sc : Scope} {ρ : En} {m cm : Str → Option Value} {mg mb : Str → Option Value}

theorem FrRel.notTup (F : FrRel h₀ h as σ env ρ m cm) {a : Addr} {vs : List Value} (t : TupAt h a vs) : ¬ WF env a := by
  refine el_E t fun k e => ?_; clear t
  rintro (rfl | ⟨nm, hm⟩)
  · refine el_EEEAA F.ns fun o es ep ho hd _ => ?_
    rw [e] at ho; cases ho; cases hd
  · refine el_EEA (F.mem nm a hm) fun v o ho hd => ?_
    rw [e] at ho; cases ho; cases hd

theorem FrRel.step (F : FrRel h₀ s.heap as σ env ρ m cm) (S : SRel prog w h₀ s.heap as σ) (S' : SRel prog w h₀ s'.heap as' σ') (T : Step s as σ s' as' σ') : FrRel h₀ s'.heap as' σ' env ρ m cm where
  ns := F.ns.at' fun o e => T.keep _ o e (fun f => f) fun l hl e => F.apL l hl e.symm
  cell := fun nm c hc => by
    refine el_EA (F.cell nm c hc) fun o ho hd => ?_
    exact ⟨o, T.keep _ o ho (fun f => f) fun l hl e => F.apC nm c (mem_of_lookup hc) l hl e.symm, hd⟩
  mem := fun nm c hc => by
    refine el_EEA (F.mem nm c hc) fun v o ho hd => ?_
    exact ⟨v, o, T.keep _ o ho (fun f => f) fun l hl e => F.apC nm c hc l hl e.symm, hd⟩
  val := fun x v hx => by
    refine el_AEA (F.val x v hx) fun hl u r k => ?_
    exact ⟨hl, u, r.step S T, k⟩
  apL := fun l hl e => by
    rcases Nat.lt_or_ge l σ.next with h | h
    · exact F.apL l h (by rw [← T.ext l h, e])
    · refine el_EEEA F.ns fun o _ _ ho _ => ?_
      rw [← e, T.fresh l h hl] at ho; cases ho
  apC := fun nm c hc l hl e => by
    rcases Nat.lt_or_ge l σ.next with h | h
    · exact F.apC nm c hc l h (by rw [← T.ext l h, e])
    · refine el_EEA (F.mem nm c hc) fun _ o ho _ => ?_
      rw [← e, T.fresh l h hl] at ho; cases ho
  apLC := F.apLC
  sep := F.sep
  baseL := F.baseL
  baseC := F.baseC

/-! names -/
theorem var_sound (E₀ : EnvOk env sc) (F : FrRel h₀ s.heap as σ env ρ m cm) {x : Nat} (hx : ρ x = some v) (hd : (vn x != debugN) = true) {pos : Pos} {Q : Value → Shared → Prop} (h : ∀ u, Rep s.heap as σ.next u v → Q u s) :
    wpAny (model prog w) A (eval (.Name (vn x) pos) env) Q E s := by
  have hd' : (vn x == ("__debug__" : Str)) = false := by
    have : (vn x == debugN) = false := by simpa [bne] using hd
    exact this
  refine el_AEA (F.val x v hx) fun _ u r k => ?_
  refine wpAny_Name ?_ hd'
  rcases k with ⟨k1, k2⟩ | ⟨k1, ⟨c, hc⟩, k2⟩
  · exact wpAny_loadName_local E₀.kind k1 F.ns k2 (h u r)
  · have := F.cell _ c hc
    rw [k2] at this
    exact wpAny_loadName_cell E₀.kind k1 hc this (h u r)

theorem glob_fn (B : Base prog w h₀ mg mb) (E₀ : EnvOk env sc) (S : SRel prog w h₀ s.heap as σ) {id : Str} (hi : has sc id .globalImplicit = true) {v : Value} (hv : mg id = some v) (hd : (id == ("__debug__" : Str)) = false) {pos : Pos} {Q : Value → Shared → Prop} (h : Q v s) :
    wpAny (model prog w) A (eval (.Name id pos) env) Q E s :=
  Calls.Name_function_global E₀.kind (E₀.imp id hi) (Calls.loadGlobal_global (by rw [E₀.globals]; exact B.g.keeps S.base) hv h) hd
theorem glob_bi (B : Base prog w h₀ mg mb) (E₀ : EnvOk env sc) (S : SRel prog w h₀ s.heap as σ) {id : Str} (hi : has sc id .globalImplicit = true) {v : Value} (hm : mg id = none) (hv : mb id = some v) (hd : (id == ("__debug__" : Str)) = false) {pos : Pos} {Q : Value → Shared → Prop} (h : Q v s) :
    wpAny (model prog w) A (eval (.Name id pos) env) Q E s :=
  Calls.Name_function_global E₀.kind (E₀.imp id hi) (Calls.loadGlobal_builtin (by rw [E₀.globals]; exact B.g.keeps S.base) hm (by rw [E₀.builtins]; exact B.b.keeps S.base) hv h) hd

/-! stores -/
theorem frame_rel (S : SRel prog w h₀ s.heap as σ) (F : FrRel h₀ s.heap as σ env ρ m cm) {b : Addr} (hb : WF env b) (hs : Heap.SameBut b s.heap h') (he : ∃ o, h'.get? b = some o) (tk : Tok) :
    StepW (WF env) s as σ { s with heap := h', toks := tk } as σ ∧ SRel prog w h₀ h' as σ ∧ ∀ {u : Value} {v : AV}, Rep s.heap as σ.next u v → Rep h' as σ.next u v := by
  have nb : ∀ l, l < σ.next → as l ≠ b := fun l hl e => by
    rcases hb with rfl | ⟨nm, hm⟩
    · exact F.apL l hl e
    · exact F.apC nm b hm l hl e
  have n0 : h₀.get? b = none := by
    rcases hb with rfl | ⟨nm, hm⟩
    · exact F.baseL
    · exact F.baseC nm b hm
  have kt : ∀ a vs, TupAt s.heap a vs → TupAt h' a vs := fun a vs t => by
    have hne : a ≠ b := fun e => F.notTup t (e ▸ hb)
    refine el_E t fun k e => ?_; clear t
    exact ⟨k, (hs.2 a hne).trans e⟩
  refine ⟨⟨fun c o e hw _ => (hs.2 c (fun hc => hw (hc ▸ hb))).trans e, fun c o hw e => ?_, Nat.le_refl _, fun _ _ => rfl, fun l o hl e => ⟨o, e, Nat.le_refl _, rfl, fun _ => ⟨rfl, hs.2 _ (nb l hl)⟩⟩, fun l a b => absurd b (Nat.not_lt.mpr a), rfl, rfl⟩,
    ⟨fun c o e => (hs.2 c (fun hc => by rw [hc, n0] at e; cases e)).trans (S.base c o e), fun l hl => ?_, S.dead, S.inj, S.apart, S.high, S.low⟩, fun r => r.keeps (Nat.le_refl _) (fun _ _ => rfl) fun a vs _ => kt a vs⟩
  · by_cases hc : c = b
    · subst hc; exact he
    · exact ⟨o, (hs.2 c hc).trans e⟩
  · refine el_EA (S.live l hl) fun ob e r => ?_
    exact ⟨ob, e, r.keeps (Nat.le_refl _) (fun _ _ => rfl) kt fun o e => (hs.2 _ (nb l hl)).trans e⟩

theorem vn_ne {x y : Nat} (hx : x < vnames.length) (hy : y < vnames.length) (h : y ≠ x) : vn y ≠ vn x := fun e => h (names_inj y x hy hx e)

noncomputable abbrev LF (env : Env) : Addr → Prop := fun b => b = env.locals
theorem StepW.wide {W W' : Addr → Prop} (S : SRel prog w h₀ s'.heap as' σ') (h : ∀ b, W b → W' b) (T : StepW W s as σ s' as' σ') : StepW W' s as σ s' as' σ' :=
  ⟨fun b o e hw hb => T.keep b o e (fun hw' => hw (h b hw')) hb, fun b o _ e => T.below S e, T.le, T.ext, T.mono, T.fresh, T.gens, T.os⟩
theorem StepW.narrow {W : Addr → Prop} (h : ∀ b, W b → s.heap.get? b = none) (T : StepW W s as σ s' as' σ') : StepW NoW s as σ s' as' σ' :=
  ⟨fun b o e _ hb => T.keep b o e (fun hw => by rw [h b hw] at e; cases e) hb, fun b o f _ => f.elim, T.le, T.ext, T.mono, T.fresh, T.gens, T.os⟩

theorem store_local (E₀ : EnvOk env sc) (S : SRel prog w h₀ s.heap as σ) (F : FrRel h₀ s.heap as σ env ρ m cm) {x : Nat} (hx : okv x = true) (hk : has sc (vn x) .local = true) (r : Rep s.heap as σ.next u v) :
    wpAny (model prog w) A (storeName env (vn x) u) (fun _ s' => ∃ m' cm', StepW (LF env) s as σ s' as σ ∧ SRel prog w h₀ s'.heap as σ ∧ FrRel h₀ s'.heap as σ env (upd ρ x (some v)) m' cm') E s := by
  have hxl : x < vnames.length := of_decide_eq_true hx
  have hl := E₀.loc _ hk
  refine wpAny_storeName_local hl F.ns (fun h' hn hs => ?_) (by rw [E₀.kind]; rfl)
  refine el_EEEA (id hn) fun oL _ _ hoL _ => ?_
  refine el_AA (frame_rel S F (b := env.locals) (.inl rfl) hs ⟨_, hoL⟩ (s.toks + 1)) fun T S' kr => ?_
  have TL : StepW (LF env) s as σ { s with heap := h', toks := s.toks + 1 } as σ :=
    ⟨fun b o e hw _ => (hs.2 b hw).trans e, fun b o hw _ => by obtain rfl := hw; exact ⟨_, hoL⟩, T.le, T.ext, T.mono, T.fresh, T.gens, T.os⟩
  refine ⟨_, cm, TL, S', hn, fun nm c hc => (F.cell nm c hc).sameBut hs (F.apLC nm c (mem_of_lookup hc)), fun nm c hc => ?_, fun y v' hy => ?_, F.apL, F.apC, F.apLC, F.sep, F.baseL, F.baseC⟩
  · refine el_E (F.mem nm c hc) fun v hv => ?_
    exact ⟨v, hv.sameBut hs (F.apLC nm c hc)⟩
  · by_cases hyx : y = x
    · subst hyx
      rw [upd_eq] at hy; cases hy
      exact ⟨hxl, u, kr r, .inl ⟨hl, if_pos rfl⟩⟩
    · rw [upd_ne _ _ hyx] at hy
      refine el_AEA (F.val y v' hy) fun hyl u' r' k => ?_
      refine ⟨hyl, u', kr r', ?_⟩
      rcases k with ⟨k1, k2⟩ | k
      · exact .inl ⟨k1, by rw [if_neg (vn_ne hxl hyl hyx)]; exact k2⟩
      · exact .inr k

theorem store_sound (E₀ : EnvOk env sc) (S : SRel prog w h₀ s.heap as σ) (F : FrRel h₀ s.heap as σ env ρ m cm) {x : Nat} (hx : okv x = true) (hk : (has sc (vn x) .local || has sc (vn x) .cell) = true) (r : Rep s.heap as σ.next u v) :
    wpAny (model prog w) A (storeName env (vn x) u) (fun _ s' => ∃ m' cm', StepW (WF env) s as σ s' as σ ∧ SRel prog w h₀ s'.heap as σ ∧ FrRel h₀ s'.heap as σ env (upd ρ x (some v)) m' cm') E s := by
  have hxl : x < vnames.length := of_decide_eq_true hx
  rw [Bool.or_eq_true] at hk
  rcases hk with hk | hk
  · refine wpAny_mono (store_local E₀ S F hx hk r) (fun _ s' hp => ?_) fun _ _ z => z
    refine el_EEAA hp fun m' cm' T S' F' => ?_; clear hp
    exact ⟨m', cm', T.wide S' (fun b hb => .inl hb), S', F'⟩
  · refine el_AE (E₀.cel _ hk) fun hl c hc => ?_
    have hcm := mem_of_lookup hc
    refine wpAny_storeName_cell E₀.kind hl hc (F.cell _ c hc) fun h' hc' hs => ?_
    refine el_EA (id hc') fun oc hoc _ => ?_
    refine el_AA (frame_rel S F (b := c) (.inr ⟨_, hcm⟩) hs ⟨_, hoc⟩ s.toks) fun T S' kr => ?_
    have other : ∀ nm c', env.cells.lookup nm = some c' → nm ≠ vn x → c' ≠ c := fun nm c' h1 h2 e => h2 (name_of_addr F.sep (mem_of_lookup h1) (e ▸ hcm))
    refine ⟨m, fun y => if y = vn x then some u else cm y, T, S', F.ns.sameBut hs (fun e => F.apLC _ c hcm e.symm), fun nm c' h1 => ?_, fun nm c' h1 => ?_, fun y v' hy => ?_, F.apL, F.apC, F.apLC, F.sep, F.baseL, F.baseC⟩
    · by_cases hnm : nm = vn x
      · subst hnm
        rw [hc] at h1; cases h1
        simpa using hc'
      · rw [if_neg hnm]
        exact (F.cell nm c' h1).sameBut hs (other nm c' h1 hnm)
    · by_cases hcc : c' = c
      · subst hcc; exact ⟨_, hc'⟩
      · refine el_E (F.mem nm c' h1) fun v hv => ?_
        exact ⟨v, hv.sameBut hs hcc⟩
    · by_cases hyx : y = x
      · subst hyx
        rw [upd_eq] at hy; cases hy
        exact ⟨hxl, u, kr r, .inr ⟨hl, ⟨c, hc⟩, if_pos rfl⟩⟩
      · rw [upd_ne _ _ hyx] at hy
        refine el_AEA (F.val y v' hy) fun hyl u' r' k => ?_
        refine ⟨hyl, u', kr r', ?_⟩
        rcases k with k | ⟨k1, k2, k3⟩
        · exact .inl k
        · exact .inr ⟨k1, k2, by rw [if_neg (vn_ne hxl hyl hyx)]; exact k3⟩
end
end Mine

/-! Ev1 -/
namespace Mine
open PySem PySem.W PyProof.Rows PySem.SeqAt

noncomputable abbrev Cx (prog : Program) (w : World) (h₀ : Heap) (env : Env) (ρ : En) (s : Shared) (as : Nat → Addr) (σ : St) : Prop :=
  SRel prog w h₀ s.heap as σ ∧ ∃ m cm, FrRel h₀ s.heap as σ env ρ m cm

noncomputable def EvS (prog : Program) (w : World) (h₀ : Heap) (n : Nat) : Prop := ∀ {A : Around} {env : Env} {sc : Scope} {ρ : En} {k : Nat} {x : X} {e : Expr} {v : AV} {s : Shared} {as : Nat → Addr} {σ σ' : St},
  mX k sc x e = true → ev n ρ x σ = some (v, σ') → EnvOk env sc → Cx prog w h₀ env ρ s as σ → AOk A n → wpAny (model prog w) A (eval e env) (Post prog w h₀ s as σ v σ') NoE s
noncomputable def TsS (prog : Program) (w : World) (h₀ : Heap) (n : Nat) : Prop := ∀ {A : Around} {env : Env} {sc : Scope} {ρ : En} {k : Nat} {x : X} {e : Expr} {b : Bool} {s : Shared} {as : Nat → Addr} {σ σ' : St},
  mX k sc x e = true → tst (ev n ρ) x σ = some (b, σ') → EnvOk env sc → Cx prog w h₀ env ρ s as σ → AOk A n → wpAny (model prog w) A (isTrue e env (eval e env)) (fun c s' => c = b ∧ PostS prog w h₀ s as σ σ' s') NoE s

section
variable {prog : Program} {w : World} {h₀ h h' : Heap} {as as' : Nat → Addr} {σ σ' σ₁ σ₂ : St} {s s' : Shared} {u u' : Value} {v v' v₁ v₂ r : AV} {A : Around} {n k : Nat} {env : Env} {sc : Scope} {ρ : En}

theorem Cx.step (c : Cx prog w h₀ env ρ s as σ) (T : Step s as σ s' as' σ') (S' : SRel prog w h₀ s'.heap as' σ') : Cx prog w h₀ env ρ s' as' σ' := by
  refine el_AEE c fun S m cm F => ?_; clear c
  exact ⟨S', m, cm, F.step S S' T⟩

theorem EvS.go (H : EvS prog w h₀ n) (E₀ : EnvOk env sc) (c : Cx prog w h₀ env ρ s as σ) (hA : AOk A n) {x : X} {e : Expr} (m : mX k sc x e = true) (ex : ev n ρ x σ = some (v, σ₁)) {K : Value → Shared → Prop}
    (hK : ∀ u s₁ as₁, Step s as σ s₁ as₁ σ₁ → Cx prog w h₀ env ρ s₁ as₁ σ₁ → Rep s₁.heap as₁ σ₁.next u v → K u s₁) : wpAny (model prog w) A (eval e env) K NoE s :=
  wpAny_mono (H m ex E₀ c hA) (fun u s₁ ⟨as₁, T, S, R⟩ => hK u s₁ as₁ T (c.step T S) R) fun _ _ z => z

theorem EvS.two (H : EvS prog w h₀ n) (E₀ : EnvOk env sc) (c : Cx prog w h₀ env ρ s as σ) (hA : AOk A n) {x y : X} {a b : Expr} (ma : mX k sc x a = true) (mb : mX k sc y b = true) (ex : ev n ρ x σ = some (v₁, σ₁)) (ey : ev n ρ y σ₁ = some (v₂, σ₂))
    {K : Value → Value → Shared → Prop} (hK : ∀ u₁ u₂ s₂ as₂, Step s as σ s₂ as₂ σ₂ → Cx prog w h₀ env ρ s₂ as₂ σ₂ → Rep s₂.heap as₂ σ₂.next u₁ v₁ → Rep s₂.heap as₂ σ₂.next u₂ v₂ → K u₁ u₂ s₂) :
    wpAny (model prog w) A (eval a env) (fun u₁ s₁ => wpAny (model prog w) A (eval b env) (fun u₂ s₂ => K u₁ u₂ s₂) NoE s₁) NoE s :=
  H.go E₀ c hA ma ex fun u₁ s₁ as₁ T₁ c₁ R₁ => H.go E₀ c₁ hA mb ey fun u₂ s₂ as₂ T₂ c₂ R₂ => hK u₁ u₂ s₂ as₂ (T₁.trans c.1 c₁.1 T₂) c₂ (R₁.step c₁.1 T₂) R₂

theorem PostS.of (T : Step s as σ s' as' σ') (S' : SRel prog w h₀ s'.heap as' σ') : PostS prog w h₀ s as σ σ' s' := ⟨as', T, S'⟩

/-! atoms -/
theorem e_bin (H : EvS prog w h₀ n) (E₀ : EnvOk env sc) (c : Cx prog w h₀ env ρ s as σ) (hA : AOk A n) {x y : X} {a b : Expr} {op : Bop} {pos : Pos} (ma : mX k sc x a = true) (mb : mX k sc y b = true)
    (e : ((ev n ρ x σ).bind fun p => (ev n ρ y p.2).bind fun q => abin op p.1 q.1 q.2) = some (v, σ')) : wpAny (model prog w) A (eval (.BinOp a (bopOf op) b pos) env) (Post prog w h₀ s as σ v σ') NoE s := by
  refine bind2_elim e fun v₁ σ₁ e₁ e => ?_
  refine bind2_elim e fun v₂ σ₂ e₂ e => ?_
  refine wpAny_BinOp (H.two E₀ c hA ma mb e₁ e₂ fun u₁ u₂ s₂ as₂ T c₂ R₁ R₂ => wpAny_mono (bin_sound hA c₂.1 R₁ R₂ e) (fun u s' p => p.trans c.1 T c₂.1) fun _ _ z => z)

theorem toks_rel (T : Step s as σ s' as' σ') (c : Cx prog w h₀ env ρ s as σ) (c' : Cx prog w h₀ env ρ s' as' σ') {tk : Tok} : Step s as σ { s' with toks := tk } as' σ' ∧ Cx prog w h₀ env ρ { s' with toks := tk } as' σ' :=
  ⟨T.trans c.1 c'.1 (StepW.kept c'.1 (Kept.refl _) tk), c'⟩

theorem e_cmp (H : EvS prog w h₀ n) (E₀ : EnvOk env sc) (c : Cx prog w h₀ env ρ s as σ) (hA : AOk A n) {x y : X} {a b : Expr} {op : Cop} {pos : Pos} (ma : mX k sc x a = true) (mb : mX k sc y b = true) (hm : behindInMarks (copOf op) b = false)
    {bb : Bool} (e : ((ev n ρ x σ).bind fun p => (ev n ρ y p.2).bind fun q => (acmp op p.1 q.1 q.2).bind fun b => some (AV.bool b, q.2)) = some (.bool bb, σ')) {K : Value → Shared → Prop}
    (hK : ∀ s' as', Step s as σ s' as' σ' → Cx prog w h₀ env ρ s' as' σ' → K (.bool bb) s') :
    wpAny (model prog w) A (eval a env) (fun u₁ s₁ => wpAny (model prog w) A (eval b env) (fun u₂ s₂ => wpAny (model prog w) A (compareOp (copOf op) u₁ u₂) K NoE s₂) NoE s₁) NoE s := by
  refine bind2_elim e fun v₁ σ₁ e₁ e => ?_
  refine bind2_elim e fun v₂ σ₂ e₂ e => ?_
  refine bind_elim e fun b' e₃ e => ?_
  cases e
  refine H.two E₀ c hA ma mb e₁ e₂ fun u₁ u₂ s₂ as₂ T c₂ R₁ R₂ => wpAny_mono (cmp_sound hA c₂.1 R₁ R₂ e₃) (fun u s' p => ?_) fun _ _ z => z
  refine el_AE p fun hq1 tk hq2 => ?_; clear p; subst hq1; subst hq2
  refine el_A (toks_rel (tk := tk) T c c₂) fun T' c' => ?_
  exact hK _ as₂ T' c'

theorem cmp_bool {x y : X} {op : Cop} (e : ((ev n ρ x σ).bind fun p => (ev n ρ y p.2).bind fun q => (acmp op p.1 q.1 q.2).bind fun b => some (AV.bool b, q.2)) = some (v, σ')) : ∃ b, v = .bool b := by
  refine bind_elim e fun _ _ e => ?_
  refine bind_elim e fun _ _ e => ?_
  refine bind_elim e fun b' _ e => ?_
  cases e; exact ⟨_, rfl⟩

theorem markedEach2 {env : Env} {p q : CmpOp} {b d : Expr} (hm : behindInMarks q d = false) : markedEach [p, q] [b, d] (evalEach [b, d] env) = [eval b env, eval d env] := by
  show eval b env :: markedEach [q] [d] [eval d env] = _
  show eval b env :: [markedBehindIn q d (eval d env)] = _
  rw [markedBehindIn_of_false hm]

noncomputable abbrev cmp2E (n : Nat) (ρ : En) (x y z : X) (o₁ o₂ : Cop) (σ : St) : Option (AV × St) :=
  (ev n ρ x σ).bind fun p => (ev n ρ y p.2).bind fun q => (acmp o₁ p.1 q.1 q.2).bind fun b =>
    if b then (ev n ρ z q.2).bind fun t => (acmp o₂ q.1 t.1 t.2).bind fun c => some (.bool c, t.2) else some (.bool false, q.2)
theorem cmp2_bool {x y z : X} {o₁ o₂ : Cop} (e : cmp2E n ρ x y z o₁ o₂ σ = some (v, σ')) : ∃ b, v = .bool b := by
  refine bind_elim e fun _ _ e => ?_
  refine bind_elim e fun _ _ e => ?_
  refine bind_elim e fun b' _ e => ?_
  split at e
  · refine bind_elim e fun _ _ e => ?_
    refine bind_elim e fun b' _ e => ?_
    cases e; exact ⟨_, rfl⟩
  · cases e; exact ⟨_, rfl⟩

theorem e_cmp2 (H : EvS prog w h₀ n) (E₀ : EnvOk env sc) (c : Cx prog w h₀ env ρ s as σ) (hA : AOk A n) {x y z : X} {a b d : Expr} {o₁ o₂ : Cop} {pos : Pos} (ma : mX k sc x a = true) (mb : mX k sc y b = true) (md : mX k sc z d = true)
    (hm : behindInMarks (copOf o₂) d = false) {bb : Bool} (e : cmp2E n ρ x y z o₁ o₂ σ = some (.bool bb, σ')) :
    wpAny (model prog w) A (eval (.Compare a [copOf o₁, copOf o₂] [b, d] pos) env) (fun u s' => u = .bool bb ∧ PostS prog w h₀ s as σ σ' s') NoE s ∧
    ∀ wh, wpAny (model prog w) A (isTrue (.Compare a [copOf o₁, copOf o₂] [b, d] pos) env wh) (fun u s' => u = bb ∧ PostS prog w h₀ s as σ σ' s') NoE s := by
  refine bind2_elim e fun v₁ σ₁ e₁ e => ?_
  refine bind2_elim e fun v₂ σ₂ e₂ e => ?_
  refine bind_elim e fun b' e₃ e => ?_
  constructor
  · show wpAny _ _ (eval a env >>= fun lv => compareChain pos lv [copOf o₁, copOf o₂] (markedEach [copOf o₁, copOf o₂] [b, d] (evalEach [b, d] env))) _ _ s
    rw [markedEach2 hm]
    refine wpAny_bind (H.go E₀ c hA ma e₁ fun u₁ s₁ as₁ T₁ c₁ R₁ => ?_)
    show wpAny _ _ (holding [u₁] (eval b env) >>= fun rv => standAt pos >>= fun _ => holding [u₁, rv] (compareOp (copOf o₁) u₁ rv) >>= fun c => release [u₁, rv] [c] >>= fun _ => holding [c, rv] (truthy c) >>= fun t => if t then compareChain pos rv [copOf o₂] [eval d env] else pure c) _ _ s₁
    refine wpAny_bind (wpAny_holding (H.go E₀ c₁ hA mb e₂ fun u₂ s₂ as₂ T₂ c₂ R₂ => wpAny_bind (wpAny_standAt ?_)))
    refine wpAny_bind (wpAny_holding (wpAny_mono (cmp_sound hA c₂.1 (R₁.step c₁.1 T₂) R₂ e₃) (fun cv s₃ hc => ?_) fun _ _ z => z))
    refine el_AE hc fun hq3 tk hq4 => ?_; clear hc; subst hq3; subst hq4
    have T₂' := T₁.trans c.1 c₁.1 T₂
    refine wpAny_bind (wpAny_release (wpAny_bind (wpAny_holding (wpAny_truthy_bool ?_))))
    cases b' with
    | false => cases e; exact wpAny_pure ⟨rfl, as₂, (toks_rel T₂' c c₂).1, c₂.1⟩
    | true =>
      simp only [if_true] at e ⊢
      refine bind2_elim e fun v₃ σ₃ e₄ e => ?_
      refine bind_elim e fun b'' e₅ e => ?_
      cases e
      have R₂' : Rep ({ s₂ with toks := tk } : Shared).heap as₂ σ₂.next u₂ v₂ := R₂
      refine el_A (toks_rel (tk := tk) T₂' c c₂) fun T₂'' c₂' => ?_
      show wpAny _ _ (holding [u₂] (eval d env) >>= fun rv => standAt pos >>= fun _ => operate [u₂, rv] (compareOp (copOf o₂) u₂ rv)) _ _ _
      refine wpAny_bind (wpAny_holding (H.go E₀ c₂' hA md e₄ fun u₃ s₃ as₃ T₃ c₃ R₃ => wpAny_bind (wpAny_standAt ?_)))
      refine wpAny_operating (wpAny_mono (cmp_sound hA c₃.1 (R₂'.step c₂'.1 T₃) R₃ e₅) (fun cv s₄ hc => ?_) fun _ _ z => z)
      refine el_AE hc fun hq5 tk' hq6 => ?_; clear hc; subst hq5; subst hq6
      have T₃' := T₂''.trans c.1 c₂'.1 T₃
      exact ⟨rfl, as₃, (toks_rel T₃' c c₃).1, c₃.1⟩
  · intro wh
    show wpAny _ _ (eval a env >>= fun lv => testChain pos lv [copOf o₁, copOf o₂] (markedEach [copOf o₁, copOf o₂] [b, d] (evalEach [b, d] env))) _ _ s
    rw [markedEach2 hm]
    refine wpAny_bind (H.go E₀ c hA ma e₁ fun u₁ s₁ as₁ T₁ c₁ R₁ => ?_)
    show wpAny _ _ (holding [u₁] (eval b env) >>= fun rv => standAt pos >>= fun _ => holding [u₁, rv] (compareOp (copOf o₁) u₁ rv) >>= fun c => release [u₁, rv] [c] >>= fun _ => holding [c, rv] (truthy c) >>= fun t => if t then testChain pos rv [copOf o₂] [eval d env] else pure false) _ _ s₁
    refine wpAny_bind (wpAny_holding (H.go E₀ c₁ hA mb e₂ fun u₂ s₂ as₂ T₂ c₂ R₂ => wpAny_bind (wpAny_standAt ?_)))
    refine wpAny_bind (wpAny_holding (wpAny_mono (cmp_sound hA c₂.1 (R₁.step c₁.1 T₂) R₂ e₃) (fun cv s₃ hc => ?_) fun _ _ z => z))
    refine el_AE hc fun hq7 tk hq8 => ?_; clear hc; subst hq7; subst hq8
    have T₂' := T₁.trans c.1 c₁.1 T₂
    refine wpAny_bind (wpAny_release (wpAny_bind (wpAny_holding (wpAny_truthy_bool ?_))))
    cases b' with
    | false => cases e; exact wpAny_pure ⟨rfl, as₂, (toks_rel T₂' c c₂).1, c₂.1⟩
    | true =>
      simp only [if_true] at e ⊢
      refine bind2_elim e fun v₃ σ₃ e₄ e => ?_
      refine bind_elim e fun b'' e₅ e => ?_
      cases e
      have R₂' : Rep ({ s₂ with toks := tk } : Shared).heap as₂ σ₂.next u₂ v₂ := R₂
      refine el_A (toks_rel (tk := tk) T₂' c c₂) fun T₂'' c₂' => ?_
      show wpAny _ _ (holding [u₂] (eval d env) >>= fun rv => standAt pos >>= fun _ => operate [u₂, rv] (compareOp (copOf o₂) u₂ rv) >>= fun c => holding [c] (truthy c)) _ _ _
      refine wpAny_bind (wpAny_holding (H.go E₀ c₂' hA md e₄ fun u₃ s₃ as₃ T₃ c₃ R₃ => wpAny_bind (wpAny_standAt ?_)))
      refine wpAny_bind (wpAny_operating (wpAny_mono (cmp_sound hA c₃.1 (R₂'.step c₂'.1 T₃) R₃ e₅) (fun cv s₄ hc => ?_) fun _ _ z => z))
      refine el_AE hc fun hq9 tk' hq10 => ?_; clear hc; subst hq9; subst hq10
      have T₃' := T₂''.trans c.1 c₂'.1 T₃
      exact wpAny_holding (wpAny_truthy_bool ⟨rfl, as₃, (toks_rel T₃' c c₃).1, c₃.1⟩)

theorem tru_some {b : Bool} (e : tru v = some b) : v = .bool b := by
  unfold tru at e
  split at e
  · cases e; rfl
  · cases e

theorem tst_some {f : X → St → Option (AV × St)} {x : X} {b : Bool} (e : tst f x σ = some (b, σ')) : f x σ = some (.bool b, σ') := by
  refine bind2_elim e fun v σ₁ e₁ e => ?_
  refine bind_elim e fun b' e₂ e => ?_
  cases e
  have hv : v = .bool b := tru_some e₂
  rw [e₁, hv]

theorem TsS.go (H : TsS prog w h₀ n) (E₀ : EnvOk env sc) (c : Cx prog w h₀ env ρ s as σ) (hA : AOk A n) {x : X} {e : Expr} {b : Bool} (m : mX k sc x e = true) (ex : tst (ev n ρ) x σ = some (b, σ₁)) {K : Bool → Shared → Prop}
    (hK : ∀ s₁ as₁, Step s as σ s₁ as₁ σ₁ → Cx prog w h₀ env ρ s₁ as₁ σ₁ → K b s₁) : wpAny (model prog w) A (isTrue e env (eval e env)) K NoE s :=
  wpAny_mono (H m ex E₀ c hA) (fun u s₁ ⟨hb, as₁, T, S⟩ => by subst hb; exact hK s₁ as₁ T (c.step T S)) fun _ _ z => z
end
end Mine

/-! Ev2 -/
namespace Mine
open PySem PySem.W PyProof.Rows PySem.SeqAt

section
variable {prog : Program} {w : World} {h₀ h h' : Heap} {as as' : Nat → Addr} {σ σ' σ₁ σ₂ : St} {s s' : Shared} {u u' : Value} {v v' v₁ v₂ r : AV} {A : Around} {n k : Nat} {env : Env} {sc : Scope} {ρ : En}

theorem mX_plain {x : X} {e : Expr} (m : mX k sc x e = true) : ∀ e' p, e ≠ .Starred e' p := by
  rintro e' p rfl
  exact ff (mX_shape m)

theorem star_cons {e : Expr} {es : List Expr} {pos : Pos} (h : ∀ e' p, e ≠ .Starred e' p) : backTo pos (starEach (e :: es) env) = (false, eval e env) :: backTo pos (starEach es env) := by
  cases e <;> first | rfl | exact absurd rfl (h _ _)

theorem star_plain {env : Env} {sc : Scope} {k : Nat} {pos : Pos} : ∀ {xs : List X} {es : List Expr}, mXs (mX k sc) xs es = true → (backTo pos (starEach es env)).any (·.1) = false ∧ (backTo pos (starEach es env)).all (fun x => !x.1) = true ∧ es.length = xs.length
  | [], [], _ => ⟨rfl, rfl, rfl⟩
  | [], _ :: _, m => ff m
  | _ :: _, [], m => ff m
  | x :: xs, e :: es, m => by
    have m := and2 m
    refine el_AA (star_plain (env := env) (pos := pos) m.2) fun a b c => ?_
    rw [star_cons (mX_plain m.1)]
    exact ⟨by simpa using a, by simpa using b, by simp [c]⟩

theorem All2.step {us : List Value} {vs : List AV} (q : All2 (Rep s.heap as σ.next) us vs) (S : SRel prog w h₀ s.heap as σ) (T : Step s as σ s' as' σ') : All2 (Rep s'.heap as' σ'.next) us vs := q.mono fun _ _ r => r.step S T

theorem spl_sound (H : EvS prog w h₀ n) (E₀ : EnvOk env sc) (hA : AOk A n) {pos : Pos} : ∀ {xs : List X} {es : List Expr} {vs : List AV} {s : Shared} {as : Nat → Addr} {σ σ' : St}, mXs (mX k sc) xs es = true → evs (ev n ρ) xs σ = some (vs, σ') → Cx prog w h₀ env ρ s as σ →
    wpAny (model prog w) A (spliced (backTo pos (starEach es env))) (fun us s' => ∃ as', Step s as σ s' as' σ' ∧ Cx prog w h₀ env ρ s' as' σ' ∧ All2 (Rep s'.heap as' σ'.next) us vs) NoE s
  | [], [], vs, s, as, σ, σ', _, e, c => by cases e; exact Calls.spliced_nil ⟨as, StepW.refl, c, .nil⟩
  | [], _ :: _, _, _, _, _, _, m, _, _ => ff m
  | _ :: _, [], _, _, _, _, _, m, _, _ => ff m
  | x :: xs, e :: es, vs, s, as, σ, σ', m, ee, c => by
    have m := and2 m
    rw [star_cons (mX_plain m.1)]
    refine bind2_elim ee fun v₁ σ₁ e₁ ee => ?_
    refine bind2_elim ee fun v₂ σ₂ e₂ ee => ?_
    cases ee
    refine Calls.spliced_cons (H.go E₀ c hA m.1 e₁ fun u₁ s₁ as₁ T₁ c₁ R₁ => wpAny_mono (spl_sound H E₀ hA m.2 e₂ c₁) (fun us s₂ hp => ?_) fun _ _ z => z)
    refine el_EAA hp fun as₂ T₂ c₂ q => ?_; clear hp
    exact ⟨as₂, T₁.trans c.1 c₁.1 T₂, c₂, .cons (R₁.step c₁.1 T₂) q⟩

theorem args_sound (H : EvS prog w h₀ n) (E₀ : EnvOk env sc) (hA : AOk A n) {pos : Pos} {f : Value} {xs : List X} {es : List Expr} {vs : List AV} (m : mXs (mX k sc) xs es = true) (e : evs (ev n ρ) xs σ = some (vs, σ')) (c : Cx prog w h₀ env ρ s as σ)
    {K : Args → Shared → Prop} (hK : ∀ us s' as', Step s as σ s' as' σ' → Cx prog w h₀ env ρ s' as' σ' → All2 (Rep s'.heap as' σ'.next) us vs → K ⟨us, []⟩ s') :
    wpAny (model prog w) A (evalArgs f true (backTo pos (starEach es env)) []) K NoE s := by
  have base := wpAny_mono (spl_sound H E₀ hA (pos := pos) m e c) (Q' := fun us s' => K ⟨us, []⟩ s') (fun us s' ⟨as', T, c', q⟩ => hK us s' as' T c' q) fun _ _ z => z
  cases xs with
  | nil => cases es with
    | nil => cases e; exact PySem.evalArgs_none (hK [] s as StepW.refl c .nil)
    | cons _ _ => exact ff m
  | cons x xs => cases es with
    | nil => exact ff m
    | cons e es =>
      have m := and2 m
      rw [star_cons (mX_plain m.1)] at base ⊢
      exact Calls.evalArgs_plain base

/-! short ways -/
theorem e_and (H : EvS prog w h₀ n) (E₀ : EnvOk env sc) (c : Cx prog w h₀ env ρ s as σ) (hA : AOk A n) {x y : X} {a b : Expr} {pos : Pos} (ma : mX k sc x a = true) (mb : mX k sc y b = true)
    (e : ((ev n ρ x σ).bind fun p => (tru p.1).bind fun b => if b then ev n ρ y p.2 else some (p.1, p.2)) = some (v, σ')) : wpAny (model prog w) A (eval (.BoolOp .And [a, b] pos) env) (Post prog w h₀ s as σ v σ') NoE s := by
  refine bind2_elim e fun v₁ σ₁ e₁ e => ?_
  refine bind_elim e fun t e₂ e => ?_
  have hv : v₁ = .bool t := tru_some e₂
  subst hv
  refine wpAny_And2 (H.go E₀ c hA ma e₁ fun u₁ s₁ as₁ T₁ c₁ R₁ => ?_)
  obtain rfl := R₁
  refine wpAny_truthy_bool ?_
  cases t with
  | false => cases e; exact ⟨as₁, T₁, c₁.1, rfl⟩
  | true => exact H.go E₀ c₁ hA mb e fun u₂ s₂ as₂ T₂ c₂ R₂ => ⟨as₂, T₁.trans c.1 c₁.1 T₂, c₂.1, R₂⟩
theorem e_or (H : EvS prog w h₀ n) (E₀ : EnvOk env sc) (c : Cx prog w h₀ env ρ s as σ) (hA : AOk A n) {x y : X} {a b : Expr} {pos : Pos} (ma : mX k sc x a = true) (mb : mX k sc y b = true)
    (e : ((ev n ρ x σ).bind fun p => (tru p.1).bind fun b => if b then some (p.1, p.2) else ev n ρ y p.2) = some (v, σ')) : wpAny (model prog w) A (eval (.BoolOp .Or [a, b] pos) env) (Post prog w h₀ s as σ v σ') NoE s := by
  refine bind2_elim e fun v₁ σ₁ e₁ e => ?_
  refine bind_elim e fun t e₂ e => ?_
  have hv : v₁ = .bool t := tru_some e₂
  subst hv
  refine wpAny_Or2 (H.go E₀ c hA ma e₁ fun u₁ s₁ as₁ T₁ c₁ R₁ => ?_)
  obtain rfl := R₁
  refine wpAny_truthy_bool ?_
  cases t with
  | true => cases e; exact ⟨as₁, T₁, c₁.1, rfl⟩
  | false => exact H.go E₀ c₁ hA mb e fun u₂ s₂ as₂ T₂ c₂ R₂ => ⟨as₂, T₁.trans c.1 c₁.1 T₂, c₂.1, R₂⟩
theorem e_ife (H : EvS prog w h₀ n) (H' : TsS prog w h₀ n) (E₀ : EnvOk env sc) (c : Cx prog w h₀ env ρ s as σ) (hA : AOk A n) {x y z : X} {a b d : Expr} {pos : Pos} (ma : mX k sc x a = true) (mb : mX k sc y b = true) (md : mX k sc z d = true)
    (e : ((tst (ev n ρ) x σ).bind fun p => if p.1 then ev n ρ y p.2 else ev n ρ z p.2) = some (v, σ')) : wpAny (model prog w) A (eval (.IfExp a b d pos) env) (Post prog w h₀ s as σ v σ') NoE s := by
  refine bind2_elim e fun t σ₁ e₁ e => ?_
  refine wpAny_IfExp (H'.go E₀ c hA ma e₁ fun s₁ as₁ T₁ c₁ => ?_)
  cases t with
  | true => exact H.go E₀ c₁ hA mb e fun u₂ s₂ as₂ T₂ c₂ R₂ => ⟨as₂, T₁.trans c.1 c₁.1 T₂, c₂.1, R₂⟩
  | false => exact H.go E₀ c₁ hA md e fun u₂ s₂ as₂ T₂ c₂ R₂ => ⟨as₂, T₁.trans c.1 c₁.1 T₂, c₂.1, R₂⟩
theorem e_not (H : EvS prog w h₀ n) (E₀ : EnvOk env sc) (c : Cx prog w h₀ env ρ s as σ) (hA : AOk A n) {x : X} {a : Expr} {pos : Pos} (ma : mX k sc x a = true)
    (e : ((tst (ev n ρ) x σ).bind fun p => some (AV.bool (!p.1), p.2)) = some (v, σ')) : wpAny (model prog w) A (eval (.UnaryOp .Not a pos) env) (Post prog w h₀ s as σ v σ') NoE s := by
  refine bind2_elim e fun t σ₁ e₁ e => ?_
  cases e
  refine wpAny_UnaryOp (H.go E₀ c hA ma (tst_some e₁) fun u₁ s₁ as₁ T₁ c₁ R₁ => ?_)
  obtain rfl := R₁
  exact not_value (wpAny_truthy_bool ⟨as₁, T₁, c₁.1, rfl⟩)

/-! displays -/
theorem atoms_rel' {N : Nat} {vs : List AV} {us : List Value} (q : All2 (Rep h as N) us vs) : ∀ {l : List At}, atomsOf vs = some l → All2 (RepA as N) us l := by
  induction q with
  | nil => intro l e; cases e; exact .nil
  | @cons u x us xs hx q ih =>
    intro l e
    cases x with
    | tup _ => exact nope e
    | a x => exact map_elim (P := All2 (RepA as N) _) e fun l' e => .cons hx (ih e)
theorem atoms_rel {N : Nat} {vs : List AV} {l : List At} {us : List Value} (e : atomsOf vs = some l) (q : All2 (Rep h as N) us vs) : All2 (RepA as N) us l := atoms_rel' q e

theorem e_tup (H : EvS prog w h₀ n) (E₀ : EnvOk env sc) (c : Cx prog w h₀ env ρ s as σ) (hA : AOk A n) {xs : List X} {es : List Expr} {ct} {pos : Pos} (m : mXs (mX k sc) xs es = true)
    (e : ((evs (ev n ρ) xs σ).bind fun p => (atomsOf p.1).bind fun l => if l.length ≤ lim then some (AV.tup l, p.2) else none) = some (v, σ')) : wpAny (model prog w) A (eval (.Tuple es ct pos) env) (Post prog w h₀ s as σ v σ') NoE s := by
  refine bind2_elim e fun vs σ₁ e₁ e => ?_
  refine bind_elim e fun l e₂ e => ?_
  split at e
  case isFalse => cases e
  rename_i hz
  cases e
  refine wpAny_Tuple_spliced (wpAny_mono (spl_sound H E₀ hA m e₁ c) (fun us s₁ hp => ?_) fun _ _ z => z)
  refine el_EAA hp fun as₁ T₁ c₁ q => ?_; clear hp
  have q' := atoms_rel e₂ q
  have hk : Kept s₁.heap (s₁.heap.push { cls := .type "tuple", data := .seq us.toArray }) := Kept.push _ _
  refine ⟨by rw [q'.length]; exact Nat.le_trans hz lim_size, ?_⟩
  exact Post.trans c.1 T₁ c₁.1 (Post.kept c₁.1 hk s₁.toks ⟨_, us, rfl, ⟨_, Heap.get?_push_size _ rfl⟩, q', hz⟩)

theorem e_list (H : EvS prog w h₀ n) (E₀ : EnvOk env sc) (c : Cx prog w h₀ env ρ s as σ) (hA : AOk A n) {xs : List X} {es : List Expr} {pos : Pos} (m : mXs (mX k sc) xs es = true)
    (e : ((evs (ev n ρ) xs σ).bind fun p => newL p.1 p.2) = some (v, σ')) : wpAny (model prog w) A (eval (.List es pos) env) (Post prog w h₀ s as σ v σ') NoE s := by
  refine bind2_elim e fun vs σ₁ e₁ e => ?_
  refine el_AA (newL_some e) fun hz hq1 hq2 => ?_; subst hq1; subst hq2
  refine wpAny_List_spliced (wpAny_mono (spl_sound H E₀ hA m e₁ c) (fun us s₁ hp => ?_) fun _ _ z => z)
  refine el_EAA hp fun as₁ T₁ c₁ q => ?_; clear hp
  refine ⟨by rw [q.length]; exact Nat.le_trans hz lim_size, ?_⟩
  exact Post.trans c.1 T₁ c₁.1 (Post.list c₁.1 (Kept.push _ _) s₁.toks (New.of (Nat.le_refl _)) ⟨_, Heap.get?_push_size _ rfl⟩ q hz)

theorem e_dict0 (c : Cx prog w h₀ env ρ s as σ) {pos : Pos} : wpAny (model prog w) A (eval (.Dict [] [] pos) env) (Post prog w h₀ s as σ (.loc σ.next) (σ.alloc (.dict []))) NoE s :=
  wpAny_Dict_empty (Post.dict c.1 (Kept.push _ _) s.toks (New.of (Nat.le_refl _)) (Heap.DictOf.new ..) .nil (Nat.zero_le _))

/-! items, slices -/
theorem mX_sub {x : X} {e : Expr} (m : mX k sc x e = true) (o i : Value) : subscripted e false o i = operate [o, i] (getItem o i) := by
  have h := mX_shape m
  revert h
  induction e using Expr.casesOn <;> first | exact fun _ => rfl | exact fun h => ff h

theorem e_idx (H : EvS prog w h₀ n) (E₀ : EnvOk env sc) (c : Cx prog w h₀ env ρ s as σ) (hA : AOk A n) {x y : X} {a b : Expr} {pos : Pos} (ma : mX k sc x a = true) (mb : mX k sc y b = true)
    (e : ((ev n ρ x σ).bind fun p => (ev n ρ y p.2).bind fun q => (aidx p.1 q.1 q.2).bind fun v => some (v, q.2)) = some (v, σ')) : wpAny (model prog w) A (eval (.Subscript a b pos) env) (Post prog w h₀ s as σ v σ') NoE s := by
  refine bind2_elim e fun v₁ σ₁ e₁ e => ?_
  refine bind2_elim e fun v₂ σ₂ e₂ e => ?_
  refine bind_elim e fun v₃ e₃ e => ?_
  cases e
  exact Subscript_ (H.two E₀ c hA ma mb e₁ e₂ fun u₁ u₂ s₂ as₂ T c₂ R₁ R₂ => wpAny_mono (item_sound c₂.1 R₁ R₂ e₃ (mX_sub mb)) (fun u s' p => p.trans c.1 T c₂.1) fun _ _ z => z)

theorem part_go (H : EvS prog w h₀ n) (E₀ : EnvOk env sc) (c : Cx prog w h₀ env ρ s as σ) (hA : AOk A n) {x : Option X} {e : Option Expr} {o : Option AV} (m : mXo (mX k sc) x e = true) (ex : evo (ev n ρ) x σ = some (o, σ₁)) {K : Value → Shared → Prop}
    (hK : ∀ u s₁ as₁, Step s as σ s₁ as₁ σ₁ → Cx prog w h₀ env ρ s₁ as₁ σ₁ → (∀ v, o = some v → Rep s₁.heap as₁ σ₁.next u v) → (o = none → u = .none) → K u s₁) : wpAny (model prog w) A (evalPart e env) K NoE s := by
  cases x with
  | none => cases e with
    | some _ => exact ff m
    | none => cases ex; rw [evalPart_none]; exact wpAny_pure (hK _ s as StepW.refl c (fun v h => by cases h) fun _ => rfl)
  | some x => cases e with
    | none => exact ff m
    | some e =>
      refine bind2_elim ex fun v₁ σ₁ e₁ ex => ?_
      cases ex
      rw [evalPart_some]
      exact H.go E₀ c hA m e₁ fun u s₁ as₁ T c₁ R => hK u s₁ as₁ T c₁ (fun v h => by cases h; exact R) fun h => by cases h

theorem e_cut (H : EvS prog w h₀ n) (E₀ : EnvOk env sc) (c : Cx prog w h₀ env ρ s as σ) (hA : AOk A n) {x : X} {lo hi : Option X} {a : Expr} {pl ph : Option Expr} {pos pp : Pos} (ma : mX k sc x a = true) (ml : mXo (mX k sc) lo pl = true) (mh : mXo (mX k sc) hi ph = true)
    (e : ((ev n ρ x σ).bind fun p => (evo (ev n ρ) lo p.2).bind fun q => (evo (ev n ρ) hi q.2).bind fun t => acut p.1 q.1 t.1 t.2) = some (v, σ')) : wpAny (model prog w) A (eval (.Subscript a (.Slice pl ph none pp) pos) env) (Post prog w h₀ s as σ v σ') NoE s := by
  refine bind2_elim e fun v₁ σ₁ e₁ e => ?_
  refine bind2_elim e fun v₂ σ₂ e₂ e => ?_
  refine bind2_elim e fun v₃ σ₃ e₃ e => ?_
  refine Subscript_ (H.go E₀ c hA ma e₁ fun u₁ s₁ as₁ T₁ c₁ R₁ => wpAny_Slice ?_)
  refine part_go H E₀ c₁ hA ml e₂ fun u₂ s₂ as₂ T₂ c₂ R₂ N₂ => ?_
  refine part_go H E₀ c₂ hA mh e₃ fun u₃ s₃ as₃ T₃ c₃ R₃ N₃ => ?_
  rw [evalPart_none]
  refine wpAny_pure ?_
  have T := T₁.trans c.1 c₁.1 (T₂.trans c₁.1 c₂.1 T₃)
  exact wpAny_mono (cut_sound c₃.1 ((R₁.step c₁.1 T₂).step c₂.1 T₃) (fun v h => (R₂ v h).step c₂.1 T₃) N₂ R₃ N₃ e) (fun u s' p => p.trans c.1 T c₃.1) fun _ _ z => z

/-! calls of builtins -/
theorem bf_debug (f : Bf) : (Str.ofString (bfName f) == ("__debug__" : Str)) = false := by cases f <;> decide +kernel
theorem bif_callWith {f : Bf} {pos : Pos} {args : List (Bool × Sem Value)} {Q E : Value → Shared → Prop} (hp : args.any (·.1) = false) (go : wpAny (model prog w) A (evalArgs (bfVal f) true args []) (fun a s₁ => wpAny (model prog w) A (call (bfVal f) ([] ++ a.pos) a.kw) Q E s₁) E s) :
    wpAny (model prog w) A (callWith pos (bfVal f) [] args []) Q E s := by
  cases f with
  | len => exact Calls.callWith_builtin (id := "len") hp go
  | sorted => exact Calls.callWith_builtin (id := "sorted") hp go
  | min => exact Calls.callWith_builtin (id := "min") hp go
  | max => exact Calls.callWith_builtin (id := "max") hp go
  | sum => exact Calls.callWith_builtin (id := "sum") hp go
  | bytes => exact PySem.callWith_type (T := "bytes") hp go
  | list => exact PySem.callWith_type (T := "list") hp go
  | dict => exact PySem.callWith_type (T := "dict") hp go
theorem e_bif {mg mb : Str → Option Value} (B : Base prog w h₀ mg mb) (H : EvS prog w h₀ n) (E₀ : EnvOk env sc) (c : Cx prog w h₀ env ρ s as σ) (hA : AOk A n) {xs : List X} {es : List Expr} {f : Bf} {np pos : Pos} (hi : has sc (Str.ofString (bfName f)) .globalImplicit = true) (m : mXs (mX k sc) xs es = true)
    (e : ((evs (ev n ρ) xs σ).bind fun p => abif f p.1 p.2) = some (v, σ')) : wpAny (model prog w) A (eval (.Call (.Name (Str.ofString (bfName f)) np) es [] pos) env) (Post prog w h₀ s as σ v σ') NoE s := by
  refine bind2_elim e fun vs σ₁ e₁ e => ?_
  refine wpAny_Call_NameR (glob_bi B E₀ c.1 hi (B.bi f).1 (B.bi f).2 (bf_debug f) ?_)
  have hp := (star_plain (env := env) (pos := pos) m).1
  have go : wpAny (model prog w) A (evalArgs (bfVal f) true (backTo pos (starEach es env)) []) (fun a s₁ => wpAny (model prog w) A (call (bfVal f) ([] ++ a.pos) a.kw) (Post prog w h₀ s as σ v σ') NoE s₁) NoE s :=
    args_sound H E₀ hA m e₁ c fun us s' as' T c' q => wpAny_mono (bif_sound hA c'.1 q e) (fun u s' p => p.trans c.1 T c'.1) fun _ _ z => z
  exact bif_callWith hp go

/-! methods -/
theorem base_plain {b : Expr} {name : Str} (h : isBase b = true) : attributeBase b name env (eval b env) = eval b env := by
  cases b <;> first | rfl | exact ff h

theorem kind_loc {k : Bool} (e : kindOf v σ = some k) : ∃ l d, v = .loc l ∧ σ.get l = some d ∧ d.isL = k := by
  refine el_EA (by_loc e) fun l hq3 e' => ?_; subst hq3
  refine el_EA (Option.map_eq_some_iff.mp e') fun d hd hq4 => ?_; subst hq4
  exact ⟨_, d, rfl, hd, rfl⟩

inductive MetI (σ : St) (l : Nat) : Mt → List AV → AV → St → Prop
  | append (xs : List AV) (eg : σ.get l = some (.list xs)) (v : AV) (hz : xs.length < lim) (σ' : St) (ep : σ.put l (.list (xs ++ [v])) = some σ') : MetI σ l .append [v] .none σ'
  | pop (x : AV) (r : List AV) (eg : σ.get l = some (.list (x :: r))) (σ' : St) (ep : σ.put l (.list r) = some σ') : MetI σ l .pop [.int 0] x σ'
  | dpop (kvs : List (Int × AV)) (eg : σ.get l = some (.dict kvs)) (k : Int) (d r : AV) (σ' : St) (ep : dpop σ l kvs k d = some (r, σ')) : MetI σ l .pop [.int k, d] r σ'
  | get1 (kvs : List (Int × AV)) (eg : σ.get l = some (.dict kvs)) (k : Int) : MetI σ l .get [.int k] ((dget kvs k).getD .none) σ
  | get2 (kvs : List (Int × AV)) (eg : σ.get l = some (.dict kvs)) (k : Int) (d : AV) : MetI σ l .get [.int k, d] ((dget kvs k).getD d) σ
theorem pop_inv {l : Nat} {xs : List AV} {r : AV} {P : List AV → AV → St → Prop} (e : popHead σ l xs = some (r, σ')) (h : ∀ x q σ', σ.put l (.list q) = some σ' → P (x :: q) x σ') : P xs r σ' := by
  cases xs with
  | nil => exact nope e
  | cons x q => exact mapP_elim (P := P (x :: q)) e fun τ ep => h x q τ ep
theorem met_inv {l : Nat} {m : Mt} {vs : List AV} (e : amet m (.loc l) vs σ = some (r, σ')) : MetI σ l m vs r σ' :=
  on_elim (P := MetI σ l m vs r σ') e
    (fun xs eg e => by
      cases m with
      | append => exact one_elim (P := fun vs => MetI σ l .append vs r σ') e fun v e => ite_elim e fun hz e => mapP_elim (P := MetI σ l _ _) e fun τ ep => .append xs eg v hz τ ep
      | pop => exact one_elim (P := fun vs => MetI σ l .pop vs r σ') e fun v e => int_elim (P := fun v => MetI σ l .pop [v] r σ') e fun i e => ite_elim e fun hi e => hi ▸ pop_inv (P := fun xs r σ' => σ.get l = some (.list xs) → MetI σ l .pop [.int 0] r σ') e (fun x q τ ep eg => .pop x q eg τ ep) eg
      | get => exact nope e)
    fun kvs eg e => by
      cases m with
      | append => exact nope e
      | pop => exact two_elim (P := fun vs => MetI σ l .pop vs r σ') e fun v d e => int_elim (P := fun v => MetI σ l .pop [v, d] r σ') e fun k e => .dpop kvs eg k d r σ' e
      | get => exact args_elim (P := fun vs => MetI σ l .get vs r σ') e (fun v e => int_elim (P := fun v => MetI σ l .get [v] r σ') e fun k e => pair_elim (P := MetI σ l _ _) e (.get1 kvs eg k)) fun v d e => int_elim (P := fun v => MetI σ l .get [v, d] r σ') e fun k e => pair_elim (P := MetI σ l _ _) e (.get2 kvs eg k d)

theorem ms_cons {f : X → Expr → Bool} {x : X} {xs : List X} {es : List Expr} {P : List Expr → Prop} (m : mXs f (x :: xs) es = true) (h : ∀ t ts, f x t = true → mXs f xs ts = true → P (t :: ts)) : P es := by
  cases es with
  | nil => exact ff m
  | cons t ts => exact h t ts (and2 m).1 (and2 m).2
theorem ms_nil {f : X → Expr → Bool} {es : List Expr} {P : List Expr → Prop} (m : mXs f [] es = true) (h : P []) : P es := by
  cases es with
  | nil => exact h
  | cons t ts => exact ff m
theorem evs_nil {f : X → St → Option (AV × St)} {xs : List X} (e : evs f xs σ = some ([], σ')) : xs = [] := by
  cases xs with
  | nil => rfl
  | cons x xs => exact bind2_elim e fun a b _ e => bind2_elim e fun a b _ e => nomatch e
theorem evs_cons {f : X → St → Option (AV × St)} {xs : List X} {vs : List AV} {P : List X → Prop} (e : evs f xs σ = some (v :: vs, σ')) (h : ∀ x q τ, f x σ = some (v, τ) → evs f q τ = some (vs, σ') → P (x :: q)) : P xs := by
  cases xs with
  | nil => exact nomatch e
  | cons x q => exact bind2_elim e fun a b e₁ e => bind2_elim e fun a' b' e₂ e => by cases e; exact h x q _ e₁ e₂
theorem evs_one (H : EvS prog w h₀ n) (E₀ : EnvOk env sc) (c : Cx prog w h₀ env ρ s as σ) (hA : AOk A n) {xs : List X} {es : List Expr} {pos : Pos} (ms : mXs (mX k sc) xs es = true) (e : evs (ev n ρ) xs σ = some ([v], σ')) {P : List (Bool × Sem Value) → Prop}
    (h : ∀ t, wpAny (model prog w) A (eval t env) (Post prog w h₀ s as σ v σ') NoE s → P [(false, eval t env)]) : P (backTo pos (starEach es env)) := by
  refine evs_cons (P := fun xs => mXs (mX k sc) xs es = true → P (backTo pos (starEach es env))) e (fun x q τ e₁ e₂ ms => ?_) ms
  cases evs_nil e₂
  cases e₂
  exact ms_cons (P := fun es => P (backTo pos (starEach es env))) ms fun t ts m ms => ms_nil (P := fun ts => P (backTo pos (starEach (t :: ts) env))) ms (by rw [star_cons (mX_plain m)]; exact h t (H m e₁ E₀ c hA))
theorem evs_two (H : EvS prog w h₀ n) (E₀ : EnvOk env sc) (c : Cx prog w h₀ env ρ s as σ) (hA : AOk A n) {xs : List X} {es : List Expr} {pos : Pos} (ms : mXs (mX k sc) xs es = true) (e : evs (ev n ρ) xs σ = some ([v, v'], σ')) {P : List (Bool × Sem Value) → Prop}
    (h : ∀ t t' τ, wpAny (model prog w) A (eval t env) (fun u s' => ∃ as', Step s as σ s' as' τ ∧ SRel prog w h₀ s'.heap as' τ ∧ Rep s'.heap as' τ.next u v ∧ wpAny (model prog w) A (eval t' env) (Post prog w h₀ s' as' τ v' σ') NoE s') NoE s → P [(false, eval t env), (false, eval t' env)]) :
    P (backTo pos (starEach es env)) := by
  refine evs_cons (P := fun xs => mXs (mX k sc) xs es = true → P (backTo pos (starEach es env))) e (fun x q τ e₁ e₂ ms => ?_) ms
  refine ms_cons (P := fun es => P (backTo pos (starEach es env))) ms fun t ts m ms => ?_
  rw [star_cons (mX_plain m)]
  refine evs_cons (P := fun xs => mXs (mX k sc) xs ts = true → P ((false, eval t env) :: backTo pos (starEach ts env))) e₂ (fun y q τ' e₃ e₄ ms => ?_) ms
  cases evs_nil e₄
  cases e₄
  exact ms_cons (P := fun es => P (_ :: backTo pos (starEach es env))) ms fun t' ts m' ms => ms_nil (P := fun ts => P (_ :: backTo pos (starEach (t' :: ts) env))) ms
    (by rw [star_cons (mX_plain m')]; exact h t t' τ (H.go E₀ c hA m e₁ fun u s₂ as₂ T₂ c₂ R₂ => ⟨as₂, T₂, c₂.1, R₂, H m' e₃ E₀ c₂ hA⟩))

theorem met_go (H : EvS prog w h₀ n) (E₀ : EnvOk env sc) (c : Cx prog w h₀ env ρ s as σ) (hA : AOk A n) {xs : List X} {es : List Expr} {m : Mt} {pos : Pos} {l : Nat} {vs : List AV} (ms : mXs (mX k sc) xs es = true) {kd : Bool} (ek : kindOf (.loc l) σ = some kd) (ek' : kindOf (.loc l) σ₂ = some kd) (hl : l < σ.next)
    (I : MetI σ₂ l m vs r σ') : evs (ev n ρ) xs σ = some (vs, σ₂) → MethodOn prog w A (mtName m) pos (.ref (as l)) (backTo pos (starEach es env)) (Post prog w h₀ s as σ r σ') NoE s := by
  refine el_EEAA (kind_loc ek) fun _ d hv hd hdk => ?_
  cases hv
  refine el_EEAA (kind_loc ek') fun _ d' hv hd' hdk' => ?_
  cases hv
  have hdd : d'.isL = d.isL := hdk'.trans hdk.symm
  clear hdk hdk' ek ek'
  refine el_A (c.1.get hd) fun _ R => ?_
  have isl : ∀ {ys}, σ₂.get l = some (.list ys) → ∃ vl : List Value, s.heap.PlainList (as l) vl.toArray := fun eg => by
    cases hd'.symm.trans eg
    cases d with
    | dict _ => exact ff hdd.symm
    | list _ => exact ⟨_, R.2.choose_spec.1⟩
  have isd : ∀ {ys}, σ₂.get l = some (.dict ys) → ∃ ws, s.heap.DictOf (intKind prog w) (as l) ws := fun eg => by
    cases hd'.symm.trans eg
    cases d with
    | list _ => exact ff hdd
    | dict _ => exact ⟨_, R.2.choose_spec.1⟩
  clear R hd hd' hdd
  cases I with
  | append ys eg v hz σ' ep =>
    intro e₂
    refine el_E (isl eg) fun vl hp => ?_
    refine ⟨"list", "list.append", F.plainAttrs_list, F.slot_list_append, F.type_list_append, hp.isList.typeIs, fun a ha => by cases ha; refine el_E hp fun c' hc => ?_; clear hp; exact ⟨_, hc, rfl⟩, ?_⟩
    exact evs_one H E₀ c hA ms e₂ (P := fun z => wpAny _ _ (callWith _ _ _ z _) _ _ _) fun t hx => met_append c.1 hl hx eg hz ep
  | pop x q eg σ' ep =>
    intro e₂
    refine el_E (isl eg) fun vl hp => ?_
    refine ⟨"list", "list.pop", F.plainAttrs_list, F.slot_list_pop, F.type_list_pop, hp.isList.typeIs, fun a ha => by cases ha; refine el_E hp fun c' hc => ?_; clear hp; exact ⟨_, hc, rfl⟩, ?_⟩
    exact evs_one H E₀ c hA ms e₂ (P := fun z => wpAny _ _ (callWith _ _ _ z _) _ _ _) fun t hx => met_pop0 c.1 hl hx eg ep
  | dpop kvs eg kk d r σ' ep =>
    intro e₂
    refine el_E (isd eg) fun ws hp => ?_
    refine ⟨"dict", "dict.pop", F.plainAttrs_dict, F.slot_dict_pop, F.type_dict_pop, hp.typeIs, hp.mapOf.noDict, ?_⟩
    exact evs_two H E₀ c hA ms e₂ (P := fun z => wpAny _ _ (callWith _ _ _ z _) _ _ _) fun t t' τ hx => met_dpop c.1 hl hx eg ep
  | get1 kvs eg kk =>
    intro e₂
    refine el_E (isd eg) fun ws hp => ?_
    refine ⟨"dict", "dict.get", F.plainAttrs_dict, F.slot_dict_get, F.type_dict_get, hp.typeIs, hp.mapOf.noDict, ?_⟩
    exact evs_one H E₀ c hA ms e₂ (P := fun z => wpAny _ _ (callWith _ _ _ z _) _ _ _) fun t hx => met_get1 c.1 hl hx eg
  | get2 kvs eg kk d =>
    intro e₂
    refine el_E (isd eg) fun ws hp => ?_
    refine ⟨"dict", "dict.get", F.plainAttrs_dict, F.slot_dict_get, F.type_dict_get, hp.typeIs, hp.mapOf.noDict, ?_⟩
    exact evs_two H E₀ c hA ms e₂ (P := fun z => wpAny _ _ (callWith _ _ _ z _) _ _ _) fun t t' τ hx => met_get2 c.1 hl hx eg

theorem e_met (H : EvS prog w h₀ n) (E₀ : EnvOk env sc) (c : Cx prog w h₀ env ρ s as σ) (hA : AOk A n) {x : X} {xs : List X} {b : Expr} {es : List Expr} {m : Mt} {apos pos : Pos} (hb : isBase b = true) (hline : (apos.endLine == pos.line) = true)
    (mo : mX k sc x b = true) (ms : mXs (mX k sc) xs es = true) (hlen : xs.length ≤ 2)
    (e : ((ev n ρ x σ).bind fun p => (kindOf p.1 p.2).bind fun k => (evs (ev n ρ) xs p.2).bind fun q => if kindOf p.1 q.2 = some k then amet m p.1 q.1 q.2 else none) = some (v, σ')) :
    wpAny (model prog w) A (eval (.Call (.Attribute b (mtName m) apos) es [] pos) env) (Post prog w h₀ s as σ v σ') NoE s := by
  refine bind2_elim e fun v₁ σ₁ e₁ e => bind_elim e fun kd ek e => bind2_elim e fun vs σ₂ e₂ e => ite_elim e fun ek' e => ?_
  refine el_AA (star_plain (env := env) (pos := pos) ms) fun sa sb sc' => ?_
  refine wpAny_Call_method_late (base_plain hb) (by rw [sb]; exact decide_eq_true (show es.length + 0 + 0 < 30 by omega)) hline rfl ?_
  refine H.go E₀ c hA mo e₁ fun u s₁ as₁ T₁ c₁ R₁ => ?_
  refine loc_elim (P := fun v₁ => kindOf v₁ σ₁ = some kd → kindOf v₁ σ₂ = some kd → Rep s₁.heap as₁ σ₁.next u v₁ → MethodOn prog w A (mtName m) pos u (backTo pos (starEach es env)) (Post prog w h₀ s as σ v σ') NoE s₁) e (fun l e ek ek' R₁ => ?_) ek ek' R₁
  have hl := R₁.1
  refine rep_loc (P := fun u => MethodOn _ _ _ _ _ u _ _ _ _) R₁ ?_
  refine el_EEAAAAA (met_go (pos := pos) H E₀ c₁ hA ms ek ek' hl (met_inv e) e₂) fun T id pa slot hty hT hd hc => ?_
  exact ⟨T, id, pa, slot, hty, hT, hd, wpAny_mono hc (fun u s' p => p.trans c.1 T₁ c₁.1) fun _ _ z => z⟩
end
end Mine

/-! Asg -/
namespace Mine
open PySem PySem.W PyProof.Rows PySem.SeqAt

noncomputable def FlR (h : Heap) (as : Nat → Addr) (N : Nat) : Fl → Flow → Prop
  | .next, f => f = .next
  | .ret v, f => ∃ u, f = .ret u ∧ Rep h as N u v
noncomputable def PostF (prog : Program) (w : World) (h₀ : Heap) (env : Env) (ρ' : En) (s : Shared) (as : Nat → Addr) (σ : St) (fl : Fl) (σ' : St) : Flow → Shared → Prop := fun f s' =>
  ∃ as', StepW (WF env) s as σ s' as' σ' ∧ Cx prog w h₀ env ρ' s' as' σ' ∧ FlR s'.heap as' σ'.next fl f
noncomputable def ExS (prog : Program) (w : World) (h₀ : Heap) (n : Nat) : Prop := ∀ {A : Around} {env : Env} {sc : Scope} {ρ ρ' : En} {k : Nat} {y : Y} {t : Stmt} {fl : Fl} {s : Shared} {as : Nat → Addr} {σ σ' : St},
  mY k sc y t = true → ex n y ρ σ = some (fl, ρ', σ') → EnvOk env sc → Cx prog w h₀ env ρ s as σ → AOk A n → wpAny (model prog w) A (exec t env) (PostF prog w h₀ env ρ' s as σ fl σ') NoE s

section
variable {prog : Program} {w : World} {h₀ h h' : Heap} {as as' as'' : Nat → Addr} {σ σ' σ'' σ₁ σ₂ : St} {s s' s'' s₁ : Shared} {u u' : Value} {v v' v₁ v₂ r : AV} {A : Around} {n k : Nat} {env : Env} {sc : Scope} {ρ ρ' ρ₁ : En}

theorem StepW.weak {W : Addr → Prop} (S : SRel prog w h₀ s'.heap as' σ') (T : Step s as σ s' as' σ') : StepW W s as σ s' as' σ' :=
  ⟨fun b o e _ hb => T.keep b o e (fun f => f) hb, fun b o _ e => T.below S e, T.le, T.ext, T.mono, T.fresh, T.gens, T.os⟩

/-! stores -/
theorem bindM_cons {x : Nat} {xs : List Nat} {v : At} {l : List At} : bindM (x :: xs) (v :: l) ρ = bindM xs l (upd ρ x (some (.a v))) := rfl

theorem mNs_n {kk : Bool} {es : List Expr} {P : List Expr → Prop} (m : mNs sc kk [] es = true) (h : P []) : P es := by
  cases es with
  | nil => exact h
  | cons _ _ => exact ff m
theorem mNs_e {kk : Bool} {x : Nat} {xs : List Nat} {es : List Expr} {P : List Expr → Prop} (m : mNs sc kk (x :: xs) es = true)
    (go : ∀ p t, okv x = true → (has sc (vn x) .local || (kk && has sc (vn x) .cell)) = true → mNs sc kk xs t = true → P (.Name (vn x) p :: t)) : P es := by
  cases es with
  | nil => exact ff m
  | cons e t => exact an m fun m h => onName_e (P := fun e => P (e :: t)) m fun id p m => an m fun m h3 => an m fun h1 h2 => (by cases beq_iff_eq.mp h1; exact go p t h2 h3 h)

theorem store_cx (E₀ : EnvOk env sc) {x : Nat} {p : Pos} (hx : okv x = true) (hk : (has sc (vn x) .local || has sc (vn x) .cell) = true) (c : Cx prog w h₀ env ρ s as σ) (r : Rep s.heap as σ.next u v) :
    wpAny (model prog w) A (assign (.Name (vn x) p) env u) (fun _ s' => StepW (WF env) s as σ s' as σ ∧ Cx prog w h₀ env (upd ρ x (some v)) s' as σ) NoE s :=
  el_AEE c fun S m cm F => wpAny_assign_Name (wpAny_mono (store_sound E₀ S F hx hk r) (fun _ s₁ ⟨m', cm', T, S', F'⟩ => ⟨T, S', m', cm', F'⟩) fun _ _ z => z)
theorem local_cx (E₀ : EnvOk env sc) {x : Nat} {p : Pos} (hx : okv x = true) (hk : has sc (vn x) .local = true) (c : Cx prog w h₀ env ρ s as σ) (r : Rep s.heap as σ.next u v) :
    wpAny (model prog w) A (assign (.Name (vn x) p) env u) (fun _ s' => StepW (LF env) s as σ s' as σ ∧ Cx prog w h₀ env (upd ρ x (some v)) s' as σ) NoE s :=
  el_AEE c fun S m cm F => wpAny_assign_Name (wpAny_mono (store_local E₀ S F hx hk r) (fun _ s₁ ⟨m', cm', T, S', F'⟩ => ⟨T, S', m', cm', F'⟩) fun _ _ z => z)

theorem names_gen {W : Addr → Prop} {kk : Bool} (st : ∀ {x : Nat} {p : Pos} {u : Value} {v : AV} {s : Shared} {ρ : En}, okv x = true → (has sc (vn x) .local || (kk && has sc (vn x) .cell)) = true → Cx prog w h₀ env ρ s as σ → Rep s.heap as σ.next u v →
      wpAny (model prog w) A (assign (.Name (vn x) p) env u) (fun _ s' => StepW W s as σ s' as σ ∧ Cx prog w h₀ env (upd ρ x (some v)) s' as σ) NoE s) (xs : List Nat) :
    ∀ {es : List Expr} {l : List At} {us : List Value} {s : Shared} {ρ : En}, mNs sc kk xs es = true → bindM xs l ρ = some ρ₁ → All2 (RepA as σ.next) us l → Cx prog w h₀ env ρ s as σ →
    wpAny (model prog w) A (assignInOrder ((assignEach es env).map (·.2)) us) (fun _ s' => StepW W s as σ s' as σ ∧ Cx prog w h₀ env ρ₁ s' as σ) NoE s := by
  induction xs with
  | nil =>
    intro es l us s ρ m b q c
    refine mNs_n (P := fun es => wpAny _ _ (assignInOrder ((assignEach es _).map _) _) _ _ _) m ?_
    cases q with
    | nil => exact some_elim (P := fun ρ₁ => wpAny (model prog w) A (assignInOrder (List.map (·.2) (assignEach [] env)) []) (fun _ s' => StepW W s as σ s' as σ ∧ Cx prog w h₀ env ρ₁ s' as σ) NoE s) b (wpAny_assignInOrder_none ⟨StepW.refl, c⟩)
    | cons _ _ => exact nope b
  | cons x xs ih =>
    intro es l us s ρ m b q c
    refine mNs_e (P := fun es => wpAny _ _ (assignInOrder ((assignEach es _).map _) _) _ _ _) m fun p t hx hk m => ?_
    cases q with
    | nil => exact nope b
    | cons hu q =>
      refine wpAny_assignInOrder_more (wpAny_mono (st (v := .a _) hx hk c hu) (fun _ s₁ hp => wpAny_mono (ih m b (q.mono fun _ _ r => r) hp.2) (fun _ s₂ hp' => ⟨hp.1.trans c.1 hp.2.1 hp'.1, hp'.2⟩) fun _ _ z => z) fun _ _ z => z)
theorem kk_or {a b kk : Bool} (h : (a || (kk && b)) = true) : (a || b) = true := by cases a <;> cases b <;> cases kk <;> first | rfl | exact h
theorem kk_no {a b : Bool} (h : (a || (false && b)) = true) : a = true := by cases a <;> first | rfl | exact h
theorem names_sound (E₀ : EnvOk env sc) {kk : Bool} (xs : List Nat) : ∀ {es : List Expr} {l : List At} {us : List Value} {s : Shared} {ρ : En}, mNs sc kk xs es = true → bindM xs l ρ = some ρ₁ → All2 (RepA as σ.next) us l → Cx prog w h₀ env ρ s as σ →
    wpAny (model prog w) A (assignInOrder ((assignEach es env).map (·.2)) us) (fun _ s' => StepW (WF env) s as σ s' as σ ∧ Cx prog w h₀ env ρ₁ s' as σ) NoE s := names_gen (fun hx hk c r => store_cx E₀ hx (kk_or hk) c r) xs
theorem locals_sound (E₀ : EnvOk env sc) (xs : List Nat) : ∀ {es : List Expr} {l : List At} {us : List Value} {s : Shared} {ρ : En}, mNs sc false xs es = true → bindM xs l ρ = some ρ₁ → All2 (RepA as σ.next) us l → Cx prog w h₀ env ρ s as σ →
    wpAny (model prog w) A (assignInOrder ((assignEach es env).map (·.2)) us) (fun _ s' => StepW (LF env) s as σ s' as σ ∧ Cx prog w h₀ env ρ₁ s' as σ) NoE s := names_gen (fun hx hk c r => local_cx E₀ hx (kk_no hk) c r) xs

theorem mNs_len {kk : Bool} {env : Env} {sc : Scope} {xs : List Nat} : ∀ {es : List Expr}, mNs sc kk xs es = true → (assignEach es env).length = xs.length ∧ (assignEach es env).findIdx? (·.1) = none ∧ es.length = xs.length := by
  induction xs with
  | nil => exact fun m => mNs_n (P := fun es => (assignEach es env).length = 0 ∧ (assignEach es env).findIdx? (·.1) = none ∧ es.length = 0) m ⟨rfl, rfl, rfl⟩
  | cons x xs ih =>
    intro es m
    refine mNs_e (P := fun es => (assignEach es env).length = xs.length + 1 ∧ (assignEach es env).findIdx? (·.1) = none ∧ es.length = xs.length + 1) m fun p t _ _ m => ?_
    refine el_AA (ih m) fun a b c => ⟨congrArg (· + 1) a, ?_, congrArg (· + 1) c⟩
    show List.findIdx? (·.1) ((false, assign (.Name (vn x) p) env) :: assignEach t env) = none
    rw [List.findIdx?_cons, b]; rfl

theorem bindM_len : ∀ {xs : List Nat} {l : List At} {ρ ρ₁ : En}, bindM xs l ρ = some ρ₁ → xs.length = l.length
  | [], [], _, _, _ => rfl
  | [], _ :: _, _, _, e => by simp [bindM] at e
  | _ :: _, [], _, _, e => by simp [bindM] at e
  | _ :: _, _ :: _, _, _, e => by rw [bindM_cons] at e; simp [bindM_len e]

theorem Cx.keptW {W : Addr → Prop} (c : Cx prog w h₀ env ρ s as σ) (k : Kept s.heap h') (tk : Tok) : StepW W s as σ { s with heap := h', toks := tk } as σ ∧ Cx prog w h₀ env ρ { s with heap := h', toks := tk } as σ :=
  ⟨StepW.kept c.1 k tk, c.step (StepW.kept c.1 k tk) (c.1.kept k)⟩
theorem ext_kept (h : Heap.ExtBut s.heap.objs.size s.heap h') : Kept s.heap h' := fun b o e => h b o (Nat.ne_of_lt (Heap.lt_size e)) e

theorem tgt_sound (E₀ : EnvOk env sc) (hh : A.handled = none) {tg : Tg} {pt : Expr} (m : mTg sc tg pt = true) (b : bindT tg v ρ = some ρ₁) (ru : Rep s.heap as σ.next u v) (c : Cx prog w h₀ env ρ s as σ) :
    wpAny (model prog w) A (assign pt env u) (fun _ s' => StepW (LF env) s as σ s' as σ ∧ Cx prog w h₀ env ρ₁ s' as σ) NoE s := by
  cases tg with
  | one x =>
    refine onName_e (P := fun pt => wpAny _ _ (assign pt _ _) _ _ _) m fun id p m => an m fun m hk => an m fun h hx => ?_
    cases beq_iff_eq.mp h
    exact some_elim (P := fun ρ₁ => wpAny (model prog w) A (assign (.Name (vn x) p) env u) (fun _ s' => StepW (LF env) s as σ s' as σ ∧ Cx prog w h₀ env ρ₁ s' as σ) NoE s) b (local_cx E₀ hx hk c ru)
  | many xs =>
    cases pt <;> try exact ff m
    rename_i es ct pos
    simp only [mTg, onTup_Tuple] at m
    cases v with
    | a _ => simp [bindT] at b
    | tup l =>
      refine el_EEAAA ru fun a vs hq82 t q z => ?_; clear ru; subst hq82
      have hl := bindM_len b
      refine el_AA (mNs_len (env := env) m) fun n1 n2 _ => ?_
      refine wpAny_assign_Tuple hh t.isTuple (by rw [n1, hl, ← q.length]; simp) n2 fun h' he => ?_
      have hk := ext_kept he
      refine el_A (c.keptW (W := LF env) hk s.toks) fun T c' => ?_
      refine wpAny_mono (locals_sound E₀ _ m b q c') (fun _ s₂ hp => ⟨T.trans c.1 c'.1 hp.1, hp.2⟩) fun _ _ z => z

theorem upd_comm {α : Type} (f : Nat → α) {x y : Nat} (a b : α) (h : x ≠ y) : upd (upd f x a) y b = upd (upd f y b) x a := by
  funext z
  unfold upd
  by_cases h1 : z = x <;> by_cases h2 : z = y <;> simp_all
theorem bindM_upd {x : Nat} {a : Option AV} : ∀ {xs : List Nat} {l : List At} {ρ : En}, x ∉ xs → bindM xs l (upd ρ x a) = (bindM xs l ρ).map fun ρ' => upd ρ' x a
  | [], [], _, _ => rfl
  | [], _ :: _, _, _ => rfl
  | _ :: _, [], _, _ => rfl
  | y :: xs, v :: l, ρ, h => by
    simp only [List.mem_cons, not_or] at h
    rw [bindM_cons, bindM_cons, upd_comm _ _ _ h.1, bindM_upd h.2]
theorem bindM_snoc {x : Nat} {v : At} : ∀ {xs : List Nat} {l : List At} {ρ : En}, xs.length = l.length → bindM (xs ++ [x]) (l ++ [v]) ρ = (bindM xs l ρ).map fun ρ' => upd ρ' x (some (.a v))
  | [], [], _, _ => rfl
  | [], _ :: _, _, h => by simp at h
  | _ :: _, [], _, h => by simp at h
  | y :: xs, w :: l, ρ, h => by
    rw [List.cons_append, List.cons_append, bindM_cons, bindM_cons, bindM_snoc (by simpa using h)]
theorem bindM_rev : ∀ {xs : List Nat} {l : List At} {ρ : En}, xs.Nodup → xs.length = l.length → bindM xs.reverse l.reverse ρ = bindM xs l ρ
  | [], [], _, _, _ => rfl
  | [], _ :: _, _, _, h => by simp at h
  | _ :: _, [], _, _, h => by simp at h
  | x :: xs, v :: l, ρ, hn, h => by
    have hn' := List.nodup_cons.mp hn
    rw [List.reverse_cons, List.reverse_cons, bindM_snoc (by simpa using h), bindM_rev hn'.2 (by simpa using h), bindM_cons, bindM_upd hn'.1]

theorem All2.reverse {α β : Type} {R : α → β → Prop} {xs : List α} {ys : List β} (h : All2 R xs ys) : All2 R xs.reverse ys.reverse := by
  induction h with
  | nil => exact .nil
  | cons hx _ ih => rw [List.reverse_cons, List.reverse_cons]; exact ih.append (.cons hx .nil)

theorem swaps_false {e : Expr} {t : Option Expr} {l : Nat} (h : isList e = false) : swapsWith e t l env = pure false := by
  cases e <;> first | rfl | exact tf h

/-- names alone, stored one after the other -/
theorem binds_sound (E₀ : EnvOk env sc) (xs : List Nat) : ∀ {l : List At} {us : List Value} {s : Shared} {ρ : En}, (∀ x ∈ xs, okv x = true ∧ (has sc (vn x) .local || has sc (vn x) .cell) = true) → bindM xs l ρ = some ρ₁ → All2 (RepA as σ.next) us l → Cx prog w h₀ env ρ s as σ →
    wpAny (model prog w) A (assignInOrder ((xs.map vn).map fun n => bindName env n) us) (fun _ s' => StepW (WF env) s as σ s' as σ ∧ Cx prog w h₀ env ρ₁ s' as σ) NoE s := by
  induction xs with
  | nil =>
    intro l us s ρ m b q c
    cases q with
    | nil => cases b; exact wpAny_assignInOrder_none ⟨StepW.refl, c⟩
    | cons _ _ => simp [bindM] at b
  | cons x xs ih =>
    intro l us s ρ m b q c
    cases q with
    | nil => simp [bindM] at b
    | cons hu q =>
    rename_i u v us l
    refine el_A (m x List.mem_cons_self) fun hx hk => ?_
    rw [bindM_cons] at b
    refine el_AEE c fun S mm cm F => ?_; clear c
    rw [List.map_cons, List.map_cons]
    refine wpAny_assignInOrder_more (wpAny_bindName (wpAny_mono (store_sound E₀ S F hx hk (v := .a v) hu) (fun _ s₁ hp => ?_) fun _ _ z => z))
    refine el_EEAA hp fun m' cm' T S' F' => ?_; clear hp
    refine wpAny_mono (ih (fun y hy => m y (List.mem_cons_of_mem _ hy)) b q ⟨S', m', cm', F'⟩) (fun _ s₂ hp => ?_) fun _ _ z => z
    exact ⟨T.trans S S' hp.1, hp.2⟩

theorem mNs_ok {xs : List Nat} : ∀ {es : List Expr}, mNs sc true xs es = true → ∀ x ∈ xs, okv x = true ∧ (has sc (vn x) .local || has sc (vn x) .cell) = true := by
  induction xs with
  | nil => exact fun _ _ h => nomatch h
  | cons x xs ih =>
    intro es m y hy
    refine mNs_e (P := fun _ => okv y = true ∧ (has sc (vn y) .local || has sc (vn y) .cell) = true) m fun p t hx hk m => ?_
    rcases List.mem_cons.mp hy with rfl | hy
    · exact ⟨hx, hk⟩
    · exact ih m y hy

theorem fm_len {α β : Type} (f : α → Option β) : ∀ (l : List α), (l.filterMap f).length ≤ l.length := fun l => List.length_filterMap_le f l
theorem names_of {f : Expr → Option Str} (hf : ∀ id p y, f (.Name id p) = some y → y = id) {xs : List Nat} : ∀ {es : List Expr}, mNs sc true xs es = true → (es.filterMap f).length = es.length → es.filterMap f = xs.map vn := by
  induction xs with
  | nil => exact fun m => mNs_n (P := fun es => (es.filterMap f).length = es.length → es.filterMap f = []) m fun _ => rfl
  | cons x xs ih =>
    intro es m
    refine mNs_e (P := fun es => (es.filterMap f).length = es.length → es.filterMap f = vn x :: xs.map vn) m fun p t hx hk m hl => ?_
    rw [List.filterMap_cons] at hl ⊢
    cases hq : f (.Name (vn x) p) with
    | none =>
      rw [hq] at hl
      have hl : (t.filterMap f).length = t.length + 1 := hl
      exact absurd (hl ▸ fm_len f t) (Nat.not_succ_le_self _)
    | some y =>
      rw [hq] at hl
      dsimp only
      rw [hf _ _ _ hq]
      exact congrArg _ (ih m (Nat.succ.inj hl))

theorem swapped_cases {xs : List Nat} {ts : List Expr} {ct pos} {e : Expr} (m : mNs sc true xs ts = true) (ok : swapOk ts e = true) :
    swappedStores [.Tuple ts ct pos] e env = pure none ∨ swappedStores [.Tuple ts ct pos] e env = pure (some (xs.map vn)) := by
  cases e <;> try (left; rfl)
  rename_i vs ct' pos'
  simp only [swapOk, Bool.and_eq_true, Bool.or_eq_true] at ok
  unfold swappedStores
  dsimp only
  split
  · left; rfl
  split
  · left; rfl
  split
  · left; rfl
  rename_i hn
  have hlen := (mNs_len (env := env) m).2.2
  split
  · left; rfl
  split
  · rename_i h1 h2
    rcases ok.2 with h | h
    · exact absurd h h1
    · rw [h2] at h; cases h
  · right
    refine congrArg (fun l => pure (some l)) ?_
    refine names_of (fun id p y hy => ?_) m ?_
    · dsimp only at hy
      split at hy
      · cases hy; rfl
      · cases hy
    · simp only [Bool.or_eq_true, not_or, bne_iff_ne, ne_eq, Decidable.not_not] at hn
      exact hn.1
end
end Mine

/-! Sts -/
namespace Mine
open PySem PySem.W PyProof.Rows PySem.SeqAt

section
variable {prog : Program} {w : World} {h₀ h h' : Heap} {as as' as'' : Nat → Addr} {σ σ' σ'' σ₁ σ₂ : St} {s s' s'' s₁ : Shared} {u u' : Value} {v v' v₁ v₂ r : AV} {A : Around} {n k : Nat} {env : Env} {sc : Scope} {ρ ρ' ρ₁ : En} {fl : Fl}

theorem x_set (H : EvS prog w h₀ n) (E₀ : EnvOk env sc) (c : Cx prog w h₀ env ρ s as σ) (hA : AOk A n) {x : Nat} {e : X} {p : Expr} {np pos : Pos} (hx : okv x = true) (hk : (has sc (vn x) .local || has sc (vn x) .cell) = true) (hl : isList p = false)
    (m : mX k sc e p = true) (ee : ((ev n ρ e σ).bind fun p => some (Fl.next, upd ρ x (some p.1), p.2)) = some (fl, ρ', σ')) : wpAny (model prog w) A (exec (.Assign [.Name (vn x) np] p pos) env) (PostF prog w h₀ env ρ' s as σ fl σ') NoE s := by
  refine bind2_elim ee fun v₁ σ₁ e₁ ee => ?_
  cases ee
  refine wpAny_Assign_Name (H.go E₀ c hA m e₁ fun u₁ s₁ as₁ T₁ c₁ R₁ => ?_) (swaps_false hl)
  refine el_AEE c₁ fun S mm cm F => ?_; clear c₁
  refine wpAny_mono (store_sound E₀ S F hx hk R₁) (fun _ s₂ hp => ?_) fun _ _ z => z
  refine el_EEAA hp fun m' cm' T S' F' => ?_; clear hp
  exact ⟨as₁, (T₁.weak S).trans c.1 S T, ⟨S', m', cm', F'⟩, rfl⟩

theorem x_setT (H : EvS prog w h₀ n) (E₀ : EnvOk env sc) (c : Cx prog w h₀ env ρ s as σ) (hA : AOk A n) {xs : List Nat} {e : X} {p : Expr} {ts : List Expr} {ct} {tp pos : Pos} (mn : mNs sc true xs ts = true) (hl : isList p = false) (ok : swapOk ts p = true)
    (m : mX k sc e p = true) (nd : xs.Nodup) (ee : ((ev n ρ e σ).bind fun p => (bindT (.many xs) p.1 ρ).bind fun ρ₁ => some (Fl.next, ρ₁, p.2)) = some (fl, ρ', σ')) :
    wpAny (model prog w) A (exec (.Assign [.Tuple ts ct tp] p pos) env) (PostF prog w h₀ env ρ' s as σ fl σ') NoE s := by
  refine bind2_elim ee fun v₁ σ₁ e₁ ee => ?_
  refine bind_elim ee fun ρ₁ e₂ ee => ?_
  cases ee
  rw [exec_Assign_arm]
  refine wpAny_bind (wpAny_standAt ?_)
  have hs : swapsWithSole [.Tuple ts ct tp] p pos.line env = pure false := by rw [swapsWithSole]; exact swaps_false hl
  rw [hs]
  refine wpAny_bind (wpAny_pure ?_)
  rw [if_neg (by decide)]
  refine wpAny_bind (H.go E₀ c hA m e₁ fun u₁ s₁ as₁ T₁ c₁ R₁ => ?_)
  dsimp only at e₂
  cases v₁ with
  | a _ => simp [bindT] at e₂
  | tup l =>
  refine el_EEAAA R₁ fun a vs hq1 t q z => ?_; clear R₁; subst hq1
  have hlen := bindM_len e₂
  refine el_AA (mNs_len (env := env) mn) fun n1 n2 _ => ?_
  rcases swapped_cases (env := env) (ct := ct) (pos := tp) mn ok with hw | hw
  · rw [hw]
    refine wpAny_bind (wpAny_pure ?_)
    show wpAny _ _ (assign (.Tuple ts ct tp) env (.ref a) >>= fun _ => pure Flow.next) _ _ _
    refine wpAny_bind (wpAny_assign_Tuple hA.hd t.isTuple (by rw [n1, hlen, ← q.length]; simp) n2 fun h' he => ?_)
    refine el_A (c₁.keptW (W := WF env) (ext_kept he) s₁.toks) fun T c' => ?_
    exact wpAny_mono (names_sound E₀ _ mn e₂ q c') (fun _ s₂ hp => wpAny_pure ⟨as₁, (T₁.weak c₁.1).trans c.1 c₁.1 (T.trans c₁.1 c'.1 hp.1), hp.2, rfl⟩) fun _ _ z => z
  · rw [hw]
    refine wpAny_bind (wpAny_pure ?_)
    have hn : (xs.map vn).length = vs.toArray.size := by rw [List.length_map, hlen, ← q.length]; simp
    show wpAny _ _ (rule "assign.swapped-stores" >>= fun _ => unpackItems (.ref a) (xs.map vn).length none >>= fun items => assignInOrder ((xs.map vn).reverse.map fun n => bindName env n) items.reverse >>= fun _ => pure Flow.next) _ _ _
    rw [hn]
    refine wpAny_bind (wpAny_rule (wpAny_bind (wpAny_unpackItems_tuple hA.hd t.isTuple fun h' he => wpAny_bind ?_)))
    refine el_A (c₁.keptW (W := WF env) (ext_kept he) s₁.toks) fun T c' => ?_
    rw [← List.map_reverse]
    exact wpAny_mono (binds_sound E₀ xs.reverse (fun x hx => mNs_ok mn x (List.mem_reverse.mp hx)) ((bindM_rev nd hlen).trans e₂) (by simpa using q.reverse) c') (fun _ s₂ hp => wpAny_pure ⟨as₁, (T₁.weak c₁.1).trans c.1 c₁.1 (T.trans c₁.1 c'.1 hp.1), hp.2, rfl⟩) fun _ _ z => z

theorem x_setI (H : EvS prog w h₀ n) (E₀ : EnvOk env sc) (c : Cx prog w h₀ env ρ s as σ) (hA : AOk A n) {o i e : X} {po pi p : Expr} {sp pos : Pos} (hl : isList p = false)
    (m : mX k sc e p = true) (mo : mX k sc o po = true) (mi : mX k sc i pi = true)
    (ee : ((ev n ρ e σ).bind fun p => (ev n ρ o p.2).bind fun q => (ev n ρ i q.2).bind fun t => (aset q.1 t.1 p.1 t.2).bind fun σ₁ => some (Fl.next, ρ, σ₁)) = some (fl, ρ', σ')) :
    wpAny (model prog w) A (exec (.Assign [.Subscript po pi sp] p pos) env) (PostF prog w h₀ env ρ' s as σ fl σ') NoE s := by
  refine bind2_elim ee fun v₁ σ₁ e₁ ee => ?_
  refine bind2_elim ee fun v₂ σ₂ e₂ ee => ?_
  refine bind2_elim ee fun v₃ σ₃ e₃ ee => ?_
  refine bind_elim ee fun σ₄ e₄ ee => ?_
  cases ee
  refine wpAny_Assign_Subscript (H.go E₀ c hA m e₁ fun u₁ s₁ as₁ T₁ c₁ R₁ => ?_) (swaps_false hl)
  refine H.go E₀ c₁ hA mo e₂ fun u₂ s₂ as₂ T₂ c₂ R₂ => H.go E₀ c₂ hA mi e₃ fun u₃ s₃ as₃ T₃ c₃ R₃ => ?_
  refine wpAny_mono (set_sound c₃.1 (R₂.step c₂.1 T₃) R₃ ((R₁.step c₁.1 T₂).step c₂.1 T₃) e₄) (fun _ s₄ hp => ?_) fun _ _ z => z
  refine el_EA hp fun as₄ T₄ S₄ => ?_; clear hp
  exact ⟨as₄, ((T₁.trans c.1 c₁.1 (T₂.trans c₁.1 c₂.1 (T₃.trans c₂.1 c₃.1 T₄)))).weak S₄, c₃.step T₄ S₄, rfl⟩

theorem x_exp (H : EvS prog w h₀ n) (E₀ : EnvOk env sc) (c : Cx prog w h₀ env ρ s as σ) (hA : AOk A n) {e : X} {p : Expr} {pos : Pos} (hl : isList p = false) (m : mX k sc e p = true)
    (ee : ((ev n ρ e σ).bind fun p => some (Fl.next, ρ, p.2)) = some (fl, ρ', σ')) : wpAny (model prog w) A (exec (.Expr p pos) env) (PostF prog w h₀ env ρ' s as σ fl σ') NoE s := by
  refine bind2_elim ee fun v₁ σ₁ e₁ ee => ?_
  cases ee
  exact wpAny_Expr_any (H.go E₀ c hA m e₁ fun u₁ s₁ as₁ T₁ c₁ R₁ => ⟨as₁, T₁.weak c₁.1, c₁, rfl⟩) (by unfold interactive; rw [E₀.kind]; rfl) (swaps_false hl)

theorem x_ret (H : EvS prog w h₀ n) (E₀ : EnvOk env sc) (c : Cx prog w h₀ env ρ s as σ) (hA : AOk A n) {e : X} {p : Expr} {pos : Pos} (m : mX k sc e p = true)
    (ee : ((ev n ρ e σ).bind fun p => some (Fl.ret p.1, ρ, p.2)) = some (fl, ρ', σ')) : wpAny (model prog w) A (exec (.Return (some p) pos) env) (PostF prog w h₀ env ρ' s as σ fl σ') NoE s := by
  refine bind2_elim ee fun v₁ σ₁ e₁ ee => ?_
  cases ee
  exact wpAny_Return_some (H.go E₀ c hA m e₁ fun u₁ s₁ as₁ T₁ c₁ R₁ => ⟨as₁, T₁.weak c₁.1, c₁, u₁, rfl, R₁⟩)

theorem PostF.trans (c : Cx prog w h₀ env ρ s as σ) (T : StepW (WF env) s as σ s₁ as' σ₁) (c₁ : Cx prog w h₀ env ρ₁ s₁ as' σ₁) {f : Flow} (p : PostF prog w h₀ env ρ' s₁ as' σ₁ fl σ' f s') : PostF prog w h₀ env ρ' s as σ fl σ' f s' := by
  refine el_EAA p fun as'' T' c' r => ?_; clear p
  exact ⟨as'', T.trans c.1 c₁.1 T', c', r⟩

theorem x_exs (H : ExS prog w h₀ n) (E₀ : EnvOk env sc) (hA : AOk A n) (ys : List Y) : ∀ {ts : List Stmt} {s : Shared} {as : Nat → Addr} {σ : St} {ρ : En}, Cx prog w h₀ env ρ s as σ → mYs (mY k sc) ys ts = true → exs (ex n) ys ρ σ = some (fl, ρ', σ') →
    wpAny (model prog w) A (execs ts env) (PostF prog w h₀ env ρ' s as σ fl σ') NoE s := by
  induction ys with
  | nil =>
    intro ts s as σ ρ c m e
    cases ts with
    | cons _ _ => exact ff m
    | nil => cases e; exact wpAny_execs_nil ⟨as, StepW.refl, c, rfl⟩
  | cons y ys ih =>
    intro ts s as σ ρ c m e
    cases ts with
    | nil => exact ff m
    | cons t ts =>
    have m := and2 m
    refine bind3_elim e fun fl₁ ρ₁ σ₁ e₁ e => ?_
    refine wpAny_execs_cons (wpAny_mono (H m.1 e₁ E₀ c hA) (fun f s₁ hp => ?_) fun _ _ z => z)
    refine el_EAA hp fun as₁ T c₁ r => ?_; clear hp
    cases fl₁ with
    | next =>
      obtain rfl := r
      exact wpAny_mono (ih c₁ m.2 e) (fun f s₂ p => p.trans c T c₁) fun _ _ z => z
    | ret v =>
      refine el_EA r fun u hq2 R => ?_; clear r; subst hq2
      cases e
      exact ⟨as₁, T, c₁, u, rfl, R⟩

theorem x_ite (H' : TsS prog w h₀ n) (H : ExS prog w h₀ n) (E₀ : EnvOk env sc) (c : Cx prog w h₀ env ρ s as σ) (hA : AOk A n) {x : X} {a b : List Y} {p : Expr} {pa pb : List Stmt} {pos : Pos} (m : mX k sc x p = true) (ma : mYs (mY k sc) a pa = true) (mb : mYs (mY k sc) b pb = true)
    (e : ((tst (ev n ρ) x σ).bind fun p => if p.1 then exs (ex n) a ρ p.2 else exs (ex n) b ρ p.2) = some (fl, ρ', σ')) : wpAny (model prog w) A (exec (.If p pa pb pos) env) (PostF prog w h₀ env ρ' s as σ fl σ') NoE s := by
  refine bind2_elim e fun t σ₁ e₁ e => ?_
  refine wpAny_If (H'.go E₀ c hA m e₁ fun s₁ as₁ T₁ c₁ => ?_)
  cases t with
  | true => exact wpAny_mono (x_exs H E₀ hA a c₁ ma e) (fun f s₂ p => p.trans c (T₁.weak c₁.1) c₁) fun _ _ z => z
  | false => exact wpAny_mono (x_exs H E₀ hA b c₁ mb e) (fun f s₂ p => p.trans c (T₁.weak c₁.1) c₁) fun _ _ z => z
end
end Mine

/-! EnumB -/
namespace Mine
open PySem PySem.W PyProof.Rows PySem.SeqAt
open Sem (wp)
open AutoSeq1 (wpAny_loadPart')
set_option maxRecDepth 100000

set_option maxHeartbeats 1000000 in
theorem meets_enumerate_newB (b : Array UInt8) (t : Tok) :
    Meets (Builtin.«enumerate.__new__» ⟨[.type "enumerate", .bytes b t], []⟩) (fun _ R s =>
      R (.ok (.ret (.ref (s.heap.push { cls := .type "bytes_iterator", data := .fields #[.bytes b t, .int 0 0] }).objs.size)))
        { s with heap := (s.heap.push { cls := .type "bytes_iterator", data := .fields #[.bytes b t, .int 0 0] }).push { cls := .type "enumerate", data := .fields #[.none, .bool false, .ref s.heap.objs.size, rawInt 0, .none, .none] } }) :=
  .of_wp fun prog w A R s h => by
    obtain ⟨hp, g, d, tk, os⟩ := s
    have hsub := sub_enumerate
    wp_walk
    refine wpAny_stack_any fun st => wpAny_pure ?_
    split
    · rename_i c _ _ _ _ _
      cases (c == Value.type "enumerate")
      · wp_walk using KBw.pyIter_bytes
        exact ⟨_, rfl, h⟩
      · wp_walk using KBw.pyIter_bytes
        exact ⟨_, rfl, h⟩
    · wp_walk using KBw.pyIter_bytes
      exact ⟨_, rfl, h⟩

section
variable {prog : Program} {w : World} {A : Around} {E : Value → Shared → Prop} {s : Shared}

theorem call_enumerate_bytes {b : Array UInt8} {t : Tok} {Q : Value → Shared → Prop}
    (h : ∀ h', IsEnum h' (s.heap.objs.size + 1) s.heap.objs.size 0 .none → KBw.IsBytesIter h' s.heap.objs.size b t 0 → h'.objs.size = s.heap.objs.size + 2 →
      (∀ b o, s.heap.get? b = some o → h'.get? b = some o) → Q (.ref (s.heap.objs.size + 1)) { s with heap := h' }) :
    wpAny (model prog w) A (call (.type "enumerate") [.bytes b t]) Q E s := by
  refine callType_new F.called_enumerate (by decide) (F.typeCall_enumerate_1 _) (F.newCall_enumerate_1 _) (fun obj => F.args_object_init_2 obj _) F.entry_enumerate_new
    (meets_enumerate_newB b t) ?_
  have hz : (s.heap.push { cls := .type "bytes_iterator", data := .fields #[.bytes b t, .int 0 0] }).objs.size = s.heap.objs.size + 1 := Heap.size_push ..
  show _ ∧ _
  rw [hz]
  have he : IsEnum ((s.heap.push { cls := .type "bytes_iterator", data := .fields #[.bytes b t, .int 0 0] }).push
      { cls := .type "enumerate", data := .fields #[.none, .bool false, .ref s.heap.objs.size, rawInt 0, .none, .none] }) (s.heap.objs.size + 1) s.heap.objs.size 0 .none := by
    have := Heap.get?_push_size (s.heap.push { cls := .type "bytes_iterator", data := .fields #[.bytes b t, .int 0 0] })
      (o := { cls := .type "enumerate", data := .fields #[.none, .bool false, .ref s.heap.objs.size, rawInt 0, .none, .none] }) rfl
    rw [hz] at this; exact this
  refine ⟨⟨_, he, rfl⟩, h _ he ⟨_, Heap.get?_push_of_some _ (Heap.get?_push_size _ rfl), rfl, rfl⟩ (by rw [Heap.size_push, hz]) fun b o y => Heap.get?_push_of_some _ (Heap.get?_push_of_some _ y)⟩

theorem nextOf_bytes_item {it : Addr} {b : Array UInt8} {t : Tok} {i : Nat} {c : UInt8} {Q : Value → Shared → Prop} (hit : KBw.IsBytesIter s.heap it b t i) (hx : b[i]? = some c)
    (hQ : ∀ h', KBw.IsBytesIter h' it b t (i + 1) → Heap.SameBut it s.heap h' → Q (.int (c.toNat : Int) s.toks) { s with heap := h', toks := s.toks + 1 }) :
    wpAny (model prog w) A (Builtin.SmallTypes.nextOf (.ref it)) Q E s := by
  refine el_EAA (id hit) fun o ho hc hd => ?_
  unfold Builtin.SmallTypes.nextOf
  refine wpAny_bind (wpAny_callSpecial?_slot (name := PySem.Str.ofString "__next__") (KBw.iter_typeIs hit) KBw.slot_next
    (wpAny_call_entry KBw.slot_next (KBw.iter_typeIs hit) KBw.entry_next ?_ (KBw.args_next _)))
  show wpAny _ _ (field (.ref it) 0 >>= _) _ _ s
  refine wpAny_bind (wpAny_field ho hd (x := .bytes b t) rfl ?_)
  show wpAny _ _ (if (Value.bytes b t == Value.none) = true then _ else _) _ _ s
  rw [if_neg (show ¬ ((Value.bytes b t == Value.none) = true) from Bool.false_ne_true)]
  show wpAny _ _ (field (.ref it) 1 >>= _) _ _ s
  refine wpAny_bind (wpAny_field ho hd (x := .int i 0) rfl ?_)
  refine wpAny_bind (wpAny_of_eq (a := b) rfl ?_)
  simp only [Int.toNat_natCast, hx]
  refine wpAny_bind (wpAny_setField ho hd (by simp) (wpAny_bind (wpAny_mkInt (wpAny_pure ⟨_, rfl, wpAny_pure (hQ _ ?_ (Heap.SameBut.update ..))⟩))))
  exact ⟨_, Heap.get?_update_self _ ho (Obj.isFreed_of_fields (Obj.data_mapFields hd _)), (Obj.cls_mapFields ..).trans hc, by
    rw [Obj.data_mapFields hd]; simp [rawInt]⟩

theorem nextOf_bytes_end {it : Addr} {b : Array UInt8} {t : Tok} {i : Nat} {Q : Value → Shared → Prop} (hh : A.handled = none) (hit : KBw.IsBytesIter s.heap it b t i) (hx : b[i]? = none)
    (hE : ∀ h' e, Heap.ExtBut it s.heap h' → (∃ o, h'.get? e = some o ∧ o.cls = .type "StopIteration") → E (.ref e) { s with heap := h' }) :
    wpAny (model prog w) A (Builtin.SmallTypes.nextOf (.ref it)) Q E s := by
  refine el_EAA (id hit) fun o ho hc hd => ?_
  unfold Builtin.SmallTypes.nextOf
  refine wpAny_bind (wpAny_callSpecial?_slot (name := PySem.Str.ofString "__next__") (KBw.iter_typeIs hit) KBw.slot_next
    (wpAny_call_entry KBw.slot_next (KBw.iter_typeIs hit) KBw.entry_next ?_ (KBw.args_next _)))
  show wpAny _ _ (field (.ref it) 0 >>= _) _ _ s
  refine wpAny_bind (wpAny_field ho hd (x := .bytes b t) rfl ?_)
  show wpAny _ _ (if (Value.bytes b t == Value.none) = true then _ else _) _ _ s
  rw [if_neg (show ¬ ((Value.bytes b t == Value.none) = true) from Bool.false_ne_true)]
  show wpAny _ _ (field (.ref it) 1 >>= _) _ _ s
  refine wpAny_bind (wpAny_field ho hd (x := .int i 0) rfl ?_)
  refine wpAny_bind (wpAny_of_eq (a := b) rfl ?_)
  simp only [Int.toNat_natCast, hx]
  refine wpAny_bind (wpAny_rule (wpAny_bind (wpAny_setField ho hd (by simp) ?_)))
  show wpAny _ _ (newExc (.type "StopIteration") [] >>= _) _ _ _
  refine wpAny_bind ?_
  simp only [newExc, newTuple]
  refine wpAny_bind (wpAny_newObj_type ?_ (by size_fits))
  refine wpAny_bind (m := firstArgMember _ _) (wpAny_of_eq (a := Value.none) (by first | rfl | (simp only [firstArgMember]; rfl)) ?_)
  refine wpAny_newObj_type ?_ (by size_fits)
  simp only [raiseNew]
  refine wpAny_bind (wpAny_handled ?_)
  first | rw [show A.in1.handled = none from hh] | rw [hh]
  refine wpAny_bind (wpAny_pure (wpAny_throw ?_))
  exact hE _ _ (((Heap.SameBut.update ..).extBut.push _).push _) ⟨_, Heap.get?_push_size _ rfl, rfl⟩
end

theorem draws_bytes {prog : Program} {w : World} {A : Around} (hh : A.handled = none) (it : Addr) (b : Array UInt8) (t : Tok) :
    Draws prog w A it [it] b.size (fun i v => ∃ c u, b[i]? = some c ∧ v = .int (c.toNat : Int) u) (fun i h => KBw.IsBytesIter h it b t i) where
  live := fun _ _ st => let ⟨o, ho, _⟩ := st; ⟨o, ho⟩
  frame := fun _ _ _ st hk => let ⟨o, ho, r⟩ := st; ⟨o, hk it (by simp) o ho, r⟩
  item := fun i s Q E hi st hQ => by
    refine nextOf_bytes_item st (c := b[i]) (by simp [hi]) fun h' hit' hs' => ?_
    exact hQ _ h' (s.toks + 1) ⟨_, _, by simp [hi], rfl⟩ hit' hs'
  done := fun s Q E st hE => nextOf_bytes_end hh st (by simp) hE
end Mine

/-! Itr -/
namespace Mine
open PySem PySem.W PyProof.Rows PySem.SeqAt

section
variable {W : Addr → Prop}
variable {prog : Program} {w : World} {h₀ h h' : Heap} {as as' as'' as₀ : Nat → Addr} {σ σ' σ'' σ₀ σ₁ σ₂ : St} {s s' s'' s₁ s₀ : Shared} {u u' : Value} {v v' v₁ v₂ r : AV} {A : Around} {n k N : Nat} {env : Env} {sc : Scope} {ρ ρ' ρ₁ : En} {fl : Fl} {m cm : Str → Option Value}

/-- a change of objects that lie beside the store and the frame -/
structure Side (h₀ h : Heap) (as : Nat → Addr) (N : Nat) (wr : List Addr) (h' : Heap) : Prop where
  ap : ∀ b ∈ wr, ∀ l, l < N → as l ≠ b
  base : ∀ b ∈ wr, h₀.get? b = none
  tup : ∀ b ∈ wr, ∀ vs, ¬ TupAt h b vs
  keep : ∀ b o, b ∉ wr → h.get? b = some o → h'.get? b = some o

theorem TupAt.cls {a : Addr} {vs : List Value} {o : Obj} (t : TupAt h a vs) (e : h.get? a = some o) : o.cls = .type "tuple" := by
  refine el_E t fun n e' => ?_; clear t
  rw [e] at e'; cases e'; rfl
theorem Side.tupK {wr : List Addr} (x : Side h₀ h as N wr h') {a : Addr} {vs : List Value} (t : TupAt h a vs) : TupAt h' a vs := by
  refine el_E (id t) fun n e => ?_
  exact ⟨n, x.keep a _ (fun hb => x.tup a hb vs t) e⟩
theorem Side.rep {wr : List Addr} (x : Side h₀ h as N wr h') (r : Rep h as N u v) : Rep h' as N u v := r.keeps (Nat.le_refl _) (fun _ _ => rfl) fun _ _ _ t => x.tupK t
theorem Side.srel {wr : List Addr} (x : Side h₀ h as σ.next wr h') (S : SRel prog w h₀ h as σ) : SRel prog w h₀ h' as σ where
  base := fun b o e => x.keep b o (fun hb => by rw [x.base b hb] at e; cases e) (S.base b o e)
  live := fun l hl => by
    refine el_EA (S.live l hl) fun ob e r => ?_
    exact ⟨ob, e, r.keeps (Nat.le_refl _) (fun _ _ => rfl) (fun _ _ t => x.tupK t) fun o e => x.keep _ o (fun hb => x.ap _ hb l hl rfl) e⟩
  dead := S.dead
  inj := S.inj
  apart := S.apart
  high := S.high
  low := S.low
theorem Side.frel {wr : List Addr} (x : Side h₀ h as σ.next wr h') (hw : ∀ b ∈ wr, ¬ WF env b) (F : FrRel h₀ h as σ env ρ m cm) : FrRel h₀ h' as σ env ρ m cm where
  ns := F.ns.at' fun o e => x.keep _ o (fun hb => hw _ hb (.inl rfl)) e
  cell := fun nm c hc => by
    refine el_EA (F.cell nm c hc) fun o ho hd => ?_
    exact ⟨o, x.keep _ o (fun hb => hw _ hb (.inr ⟨nm, mem_of_lookup hc⟩)) ho, hd⟩
  mem := fun nm c hc => by
    refine el_EEA (F.mem nm c hc) fun v o ho hd => ?_
    exact ⟨v, o, x.keep _ o (fun hb => hw _ hb (.inr ⟨nm, hc⟩)) ho, hd⟩
  val := fun y v hy => by
    refine el_AEA (F.val y v hy) fun hl u r k => ?_
    exact ⟨hl, u, x.rep r, k⟩
  apL := F.apL
  apC := F.apC
  apLC := F.apLC
  sep := F.sep
  baseL := F.baseL
  baseC := F.baseC
theorem Side.cx {wr : List Addr} (x : Side h₀ s.heap as σ.next wr h') (hw : ∀ b ∈ wr, ¬ WF env b) (c : Cx prog w h₀ env ρ s as σ) (tk : Tok) : Cx prog w h₀ env ρ { s with heap := h', toks := tk } as σ := by
  refine el_AEE c fun S m cm F => ?_; clear c
  exact ⟨x.srel S, m, cm, x.frel hw F⟩
theorem Side.step {wr : List Addr} (x : Side h₀ s.heap as σ.next wr h') (S₀ : SRel prog w h₀ s₀.heap as₀ σ₀) (T : StepW W s₀ as₀ σ₀ s as σ) (hf : ∀ b ∈ wr, s₀.heap.get? b = none) (tk : Tok) : StepW W s₀ as₀ σ₀ { s with heap := h', toks := tk } as σ where
  keep := fun b o e hw hb => x.keep b o (fun hb => by rw [hf b hb] at e; cases e) (T.keep b o e hw hb)
  stay := fun b o hw e => by
    refine el_E (T.stay b o hw e) fun o' e' => ?_
    exact ⟨o', x.keep b o' (fun hb => by rw [hf b hb] at e; cases e) e'⟩
  le := T.le
  ext := T.ext
  mono := fun l o hl e => by
    refine el_EAAA (T.mono l o hl e) fun o' e' h1 h2 h3 => ?_
    refine ⟨o', e', h1, h2, fun hv => ?_⟩
    refine el_A (h3 hv) fun h4 h5 => ?_
    refine ⟨h4, ?_⟩
    refine el_EA (S₀.live l hl) fun ob _ r => ?_
    refine el_EA r.getSome fun o₀ hq _ => ?_
    rw [hq] at h5 ⊢
    exact x.keep _ _ (fun hb => by rw [hf _ hb] at hq; cases hq) h5
  fresh := T.fresh
  gens := T.gens
  os := T.os

/-! what a loop asks of its iterator -/
noncomputable def okTgt : Expr → Prop
  | .Name .. => True
  | .Tuple .. => True
  | _ => False
noncomputable def okTup : Expr → Prop
  | .Tuple .. => True
  | _ => False
structure Turns (prog : Program) (w : World) (A : Around) (I : Addr) (fp wr : List Addr) (n : Nat) (ok : Expr → Prop) (R : Nat → Heap → Value → Prop) (St : Nat → Heap → Prop) : Prop where
  sub : ∀ b ∈ wr, b ∈ fp
  live : ∀ i h, St i h → ∀ b ∈ fp, ∃ o, h.get? b = some o
  noTup : ∀ i h, St i h → ∀ b ∈ wr, ∀ vs, ¬ TupAt h b vs
  frame : ∀ i h h', St i h → (∀ b ∈ fp, ∀ o, h.get? b = some o → h'.get? b = some o) → St i h'
  item : ∀ i (s : Shared) (pt : Expr) (Q : Value → Shared → Prop) (E : Value → Shared → Prop), ok pt → i < n → St i s.heap →
    (∀ v h' tk, R i h' v → St (i + 1) h' → (∀ b o, b ∉ wr → s.heap.get? b = some o → h'.get? b = some o) → Q v { s with heap := h', toks := tk }) →
    wpAny (model prog w) A (pyNext (.ref I)) (fun r s₁ => ∃ v, r = some v ∧ wpAny (model prog w) A (letOwnedTupleGo pt (.ref I) v) (fun _ => Q v) E s₁) E s
  done : ∀ (s : Shared) (Q : Option Value → Shared → Prop) (E : Value → Shared → Prop), St n s.heap →
    (∀ h' tk, (∀ b o, b ∉ wr → s.heap.get? b = some o → h'.get? b = some o) → Q none { s with heap := h', toks := tk }) → wpAny (model prog w) A (pyNext (.ref I)) Q E s
  self : ∀ i (s : Shared) (Q : Value → Shared → Prop) (E : Value → Shared → Prop), St i s.heap → Q (.ref I) s → wpAny (model prog w) A (pyIter (.ref I)) Q E s

theorem Turns.of_walks {I : Addr} {fp wr : List Addr} {P : Nat → Value → Prop} {St : Nat → Heap → Prop} (X : Walks prog w A I fp wr n P St) (live : ∀ i h, St i h → ∀ b ∈ fp, ∃ o, h.get? b = some o) (noTup : ∀ i h, St i h → ∀ b ∈ wr, ∀ vs, ¬ TupAt h b vs)
    (go : ∀ i (s : Shared) v pt (Q : Unit → Shared → Prop) (E : Value → Shared → Prop), okTgt pt → St (i + 1) s.heap → P i v → Q () s → wpAny (model prog w) A (letOwnedTupleGo pt (.ref I) v) Q E s) :
    Turns prog w A I fp wr n okTgt (fun i _ v => P i v) St where
  sub := X.sub
  live := live
  noTup := noTup
  frame := X.frame
  item := fun i s pt Q E ok hi st hQ => X.item i s _ E hi st fun v h' tk hP st' hk => ⟨v, rfl, go i _ v pt _ E ok st' hP (hQ v h' tk hP st' hk)⟩
  done := X.done
  self := X.self

theorem go_int {I : Addr} {i : Int} {t : Tok} {pt : Expr} {Q : Unit → Shared → Prop} {E : Value → Shared → Prop} (ok : okTgt pt) (h : Q () s) : wpAny (model prog w) A (letOwnedTupleGo pt (.ref I) (.int i t)) Q E s := by
  cases pt <;> first | exact wpAny_pure h | exact ok.elim

theorem turns_range (hh : A.handled = none) (I : Addr) (a c : Int) (n : Nat) :
    Turns prog w A I [I] [I] n okTgt (fun i _ v => ∃ t, v = .int (a + i * c) t) (fun i h => IsRangeIter h I (a + (i : Nat) * c) ((n : Int) - (i : Nat)) c) :=
  .of_walks (Walks.range hh I a c n) (fun i h st b hb => by obtain rfl := List.mem_singleton.mp hb; exact ⟨_, st⟩)
    (fun i h st b hb vs t => by obtain rfl := List.mem_singleton.mp hb; have := t.cls st; simp at this)
    fun i s v pt Q E ok st hP h => by refine el_E hP fun t hq1 => ?_; clear hP; subst hq1; exact go_int ok h

theorem turns_dict (hh : A.handled = none) (I d : Addr) (hne : d ≠ I) (ws : List (Int × Value)) (ep : Nat) :
    Turns prog w A I [I, d] [I] ws.length okTgt (fun i _ v => ∃ k x, ws[i]? = some (k, x) ∧ (intKind prog w).is k v = true) (fun i h => h.IsKeyIter I d i ws.length ep ∧ h.DictAt (intKind prog w) d ws ep) :=
  .of_walks (Walks.dictKeys hh I d hne ws ep) (fun i h st b hb => by
      refine el_AEEA st fun hq2 o' es ho' _ => ?_; clear st; refine el_EA hq2 fun o ho _ => ?_
      simp only [List.mem_cons, List.not_mem_nil, or_false] at hb
      rcases hb with rfl | rfl
      · exact ⟨o, ho⟩
      · exact ⟨o', ho'⟩)
    (fun i h st b hb vs t => by
      obtain rfl := List.mem_singleton.mp hb
      refine el_A st fun hq3 _ => ?_; clear st; refine el_EAA hq3 fun o ho hc _ => ?_
      have := hc.symm.trans (t.cls ho); simp at this)
    fun i s v pt Q E ok st hP h => by
      refine el_EEA hP fun k x _ hk => ?_; clear hP
      cases v <;> simp [intKind, Value.isInt] at hk
      exact go_int ok h

theorem turns_list (hh : A.handled = none) (I ax : Addr) (hne : ax ≠ I) (items : Array Value) :
    Turns prog w A I [I, ax] [I] items.size okTgt (fun i _ v => items[i]? = some v) (fun i h => h.IsListIter I ax i ∧ h.IsList ax items) :=
  .of_walks (Walks.list hh I ax hne items) (fun i h st b hb => by
      refine el_AEA st fun hq4 o' ho' _ => ?_; clear st; refine el_EA hq4 fun o ho _ => ?_
      simp only [List.mem_cons, List.not_mem_nil, or_false] at hb
      rcases hb with rfl | rfl
      · exact ⟨o, ho⟩
      · exact ⟨o', ho'⟩)
    (fun i h st b hb vs t => by
      obtain rfl := List.mem_singleton.mp hb
      refine el_A st fun hq5 _ => ?_; clear st; refine el_EAA hq5 fun o ho hc _ => ?_
      have := hc.symm.trans (t.cls ho); simp at this)
    fun i s v pt Q E ok st hP h => by
      cases pt <;> try exact ok.elim
      · exact wpAny_pure h
      · cases v <;> first | exact wpAny_pure h | exact wpAny_letOwnedTupleGo_listiter st.1 h

theorem turns_enum (hh : A.handled = none) (e it : Addr) (hne : e ≠ it) (b : Array UInt8) (t : Tok) :
    Turns prog w A e [e, it] [e, it] b.size okTup (fun i h v => ∃ T c u u', v = .ref T ∧ b[i]? = some c ∧ TupAt h T [.int i u, .int (c.toNat : Int) u']) (fun i h => (∃ old, IsEnum h e it i old) ∧ KBw.IsBytesIter h it b t i) where
  sub := fun _ h => h
  live := fun i h st b hb => by
    refine el_AEA st fun hq6 o ho _ => ?_; clear st; refine el_E hq6 fun old he => ?_
    simp only [List.mem_cons, List.not_mem_nil, or_false] at hb
    rcases hb with rfl | rfl
    · exact ⟨_, he⟩
    · exact ⟨o, ho⟩
  noTup := fun i h st b hb vs t => by
    refine el_AEAA st fun hq7 o ho hc _ => ?_; clear st; refine el_E hq7 fun old he => ?_
    simp only [List.mem_cons, List.not_mem_nil, or_false] at hb
    rcases hb with rfl | rfl
    · have := t.cls he; simp at this
    · have := hc.symm.trans (t.cls ho); simp at this
  frame := fun i h h' st hk => by
    refine el_AEA st fun hq8 o ho r => ?_; clear st; refine el_E hq8 fun old he => ?_
    exact ⟨⟨old, hk e (by simp) _ he⟩, o, hk it (by simp) o ho, r⟩
  item := fun i s pt Q E ok hi st hQ => by
    refine el_A st fun hq9 hit => ?_; clear st; refine el_E hq9 fun old he => ?_
    have D := draws_bytes (prog := prog) (w := w) (A := A.in1) hh it b t
    refine wpAny_pyNext_enum_itemD D he hit hi hne (by simpa using hne) fun x h' tk hP ho hit' hT hz hk => ⟨_, rfl, ?_⟩
    refine el_EEA hP fun c u' hc hq10 => ?_; clear hP; subst hq10
    cases pt <;> try exact ok.elim
    refine wpAny_letOwnedTupleGo_enum ho fun h'' he' hs' => ?_
    have helt : e < s.heap.objs.size := Heap.lt_size he
    refine hQ _ h'' _ ⟨_, c, tk, u', rfl, hc, _, (hs'.2 _ (Nat.ne_of_gt helt)).trans hT⟩ ⟨⟨_, by simpa using he'⟩, ?_⟩ fun b o hb y => ?_
    · refine el_EA hit' fun o ho r => ?_; clear hit'
      exact ⟨o, (hs'.2 it (Ne.symm hne)).trans ho, r⟩
    · simp only [List.mem_cons, List.not_mem_nil, or_false, not_or] at hb
      exact (hs'.2 b hb.1).trans (hk b o hb.1 hb.2 y)
  done := fun s Q E st hQ => by
    refine el_A st fun hq11 hit => ?_; clear st; refine el_E hq11 fun old he => ?_
    have D := draws_bytes (prog := prog) (w := w) (A := A.in1) hh it b t
    exact wpAny_pyNext_enum_endD D he hit fun h' hx => hQ h' s.toks fun b o hb y => hx b o (fun e' => hb (by simp [e'])) y
  self := fun i s Q E st hQ => by
    refine el_A st fun hq12 _ => ?_; clear st; refine el_E hq12 fun old he => ?_
    exact wpAny_pyIter_enum he hQ
end
end Mine

/-! Src -/
namespace Mine
open PySem PySem.W PyProof.Rows PySem.SeqAt

structure SrcAt (prog : Program) (w : World) (h₀ : Heap) (A : Around) (env : Env) (ρ : En) (s : Shared) (as : Nat → Addr) (σ : St) (pt : Expr) (items : List AV) (wl : Option Nat) (σ₁ : St) (s₂ : Shared) (s₁ : Shared) (as₁ : Nat → Addr)
    (I : Addr) (fp wr : List Addr) (ok : Expr → Prop) (R : Nat → Heap → Value → Prop) (Stt : Nat → Heap → Prop) : Prop where
  step : Step s as σ s₁ as₁ σ₁
  cx : Cx prog w h₀ env ρ s₁ as₁ σ₁
  same : ∃ tk, s₂ = { s₁ with heap := s₂.heap, toks := tk }
  kept : Kept s₁.heap s₂.heap
  turns : Turns prog w A I fp wr items.length ok R Stt
  tgt : ok pt
  start : Stt 0 s₂.heap
  fp : ∀ b ∈ fp, s₁.heap.get? b = none ∨ ∃ l, wl = some l ∧ b = as₁ l ∧ l < σ₁.next
  wr : ∀ b ∈ wr, s₁.heap.get? b = none
  wl : ∀ l, wl = some l → l < σ₁.next
  rep : ∀ (W : Addr → Prop), (∀ b, W b → ∀ vs, ¬ TupAt s₁.heap b vs) → ∀ i v x s' as' σ', items[i]? = some x → StepW W s₁ as₁ σ₁ s' as' σ' → R i s'.heap v → Rep s'.heap as' σ'.next v x
noncomputable def Src (prog : Program) (w : World) (h₀ : Heap) (A : Around) (env : Env) (ρ : En) (s : Shared) (as : Nat → Addr) (σ : St) (pt : Expr) (items : List AV) (wl : Option Nat) (σ₁ : St) (it : Value) (s₂ : Shared) : Prop :=
  ∃ s₁ as₁ I fp wr ok R Stt, it = .ref I ∧ SrcAt prog w h₀ A env ρ s as σ pt items wl σ₁ s₂ s₁ as₁ I fp wr ok R Stt

section
variable {prog : Program} {w : World} {h₀ h h' : Heap} {as as' as'' as₀ : Nat → Addr} {σ σ' σ'' σ₀ σ₁ σ₂ : St} {s s' s'' s₁ s₀ : Shared} {u u' : Value} {v v' v₁ v₂ r : AV} {A : Around} {n k N : Nat} {env : Env} {sc : Scope} {ρ ρ' ρ₁ : En} {mg mb : Str → Option Value}

theorem mX_fold {x : X} {e : Expr} (m : mX k sc x e = true) (v : Value) : foldedSetIterable e env v = pure v := by
  have h := mX_shape m
  revert h
  induction e using Expr.casesOn <;> first | exact fun _ => rfl | exact fun h => ff h

theorem Rep.moveW {W : Addr → Prop} (hW : ∀ b, W b → ∀ vs, ¬ TupAt s.heap b vs) (S : SRel prog w h₀ s.heap as σ) (T : StepW W s as σ s' as' σ') (r : Rep s.heap as σ.next u v) : Rep s'.heap as' σ'.next u v :=
  r.keeps T.le T.ext fun a vs _ t => by
    refine el_E (id t) fun n e => ?_
    exact ⟨n, T.keep a _ e (fun hw => hW a hw vs t) (S.tupApart t)⟩

theorem rangeL_len (lo c : Int) : ∀ n, (rangeL lo c n).length = n
  | 0 => rfl
  | n + 1 => by simp [rangeL, rangeL_len (lo + c) c n]
theorem rangeL_get (c : Int) : ∀ (n i : Nat) (lo : Int) (x : AV), (rangeL lo c n)[i]? = some x → x = .int (lo + i * c)
  | 0, i, lo, x, e => by simp [rangeL] at e
  | n + 1, 0, lo, x, e => by simp [rangeL] at e; subst e; simp
  | n + 1, i + 1, lo, x, e => by
    simp only [rangeL, List.getElem?_cons_succ] at e
    have h : lo + c + (i : Int) * c = lo + ((i + 1 : Nat) : Int) * c := by push_cast; rw [Int.add_mul]; lia
    rw [rangeL_get c n i (lo + c) x e, h]
theorem enumL_len : ∀ (b : List UInt8) (i : Nat), (enumL i b).length = b.length
  | [], i => rfl
  | u :: r, i => by simp [enumL, enumL_len r (i + 1)]
theorem enumL_get : ∀ (b : List UInt8) (i j : Nat) (x : AV), (enumL i b)[j]? = some x → ∃ c, b[j]? = some c ∧ x = .tup [.int (i + j : Nat), .int c.toNat]
  | [], i, j, x, e => by simp [enumL] at e
  | u :: r, i, 0, x, e => by simp [enumL] at e; subst e; exact ⟨u, rfl, rfl⟩
  | u :: r, i, j + 1, x, e => by
    simp only [enumL, List.getElem?_cons_succ] at e
    refine el_EA (enumL_get r (i + 1) j x e) fun c h1 h2 => ?_
    exact ⟨c, by simpa using h1, by rw [h2, show i + 1 + j = i + (j + 1) by lia]⟩

theorem small_iff {i : Int} (h : small i = true) : -1000000 < i ∧ i < 1000000 := by simpa [small] using h

theorem src_range (hA : A.handled = none) (T : Step s as σ s₁ as' σ₁) (c₁ : Cx prog w h₀ env ρ s₁ as' σ₁) {pt : Expr} (hok : okTgt pt) {a b c : Int} {t u v : Tok} {tk : Tok} (hc : 0 < c) (ha : small a = true) (hb : small b = true) (hcs : small c = true) :
    wpAny (model prog w) A (pyIter (.ref s₁.heap.objs.size)) (fun it s₂ => Src prog w h₀ A env ρ s as σ pt (rangeL a c ((b - a + c - 1) / c).toNat) none σ₁ it s₂) NoE
      { s₁ with heap := s₁.heap.push { cls := .type "range", data := .fields #[.int a t, .int b u, .int c v] }, toks := tk } := by
  have ha := small_iff ha
  have hb := small_iff hb
  have hcs := small_iff hcs
  have hsize : Builtin.Range.rangeSize a b c = (((b - a + c - 1) / c).toNat : Nat) := by
    unfold Builtin.Range.rangeSize
    rw [if_pos hc]
    split
    · rename_i hab
      have h1 : b - a + c - 1 = (b - a - 1) + 1 * c := by lia
      rw [h1, Int.add_mul_ediv_right _ _ (by omega)]
      have h2 : 0 ≤ (b - a - 1) / c := Int.ediv_nonneg (by omega) (by omega)
      omega
    · rename_i hab
      have h1 : (b - a + c - 1) / c ≤ 0 := by
        have : (b - a + c - 1) / c < 1 := Int.ediv_lt_of_lt_mul hc (by omega)
        omega
      omega
  have hn : (((b - a + c - 1) / c).toNat : Int) < 3000000 := by
    rcases Int.lt_or_le (b - a + c - 1) 0 with h | h
    · have : (b - a + c - 1) / c ≤ 0 := by
        have : (b - a + c - 1) / c < 1 := Int.ediv_lt_of_lt_mul hc (by omega)
        omega
      omega
    · have : (b - a + c - 1) / c ≤ b - a + c - 1 := Int.ediv_le_self _ h
      omega
  have hsm : Builtin.Range.small a b c = true := by
    unfold Builtin.Range.small
    rw [hsize]
    simp only [Builtin.Range.rangeFitsLong, Bool.and_eq_true, Bool.or_eq_true, decide_eq_true_eq, beq_iff_eq, gt_iff_lt, hc, if_true]
    omega
  refine wpAny_pyIter_range (IsRange.new ..) hsm ?_
  rw [hsize]
  generalize hN : ((b - a + c - 1) / c).toNat = N
  have hk : Kept s₁.heap ((s₁.heap.push { cls := .type "range", data := .fields #[.int a t, .int b u, .int c v] }).push { cls := .type "range_iterator", data := .fields #[rawInt a, rawInt (N : Int), rawInt c] }) := (Kept.push _ _).trans (Kept.push _ _)
  refine ⟨s₁, as', _, [(s₁.heap.push { cls := .type "range", data := .fields #[.int a t, .int b u, .int c v] }).objs.size], [(s₁.heap.push { cls := .type "range", data := .fields #[.int a t, .int b u, .int c v] }).objs.size], okTgt, fun i _ x => ∃ t, x = .int (a + i * c) t, fun i h => IsRangeIter h (s₁.heap.push { cls := .type "range", data := .fields #[.int a t, .int b u, .int c v] }).objs.size (a + (i : Nat) * c) ((N : Int) - (i : Nat)) c, rfl, T, c₁, ⟨tk, rfl⟩, hk, ?_, hok, ?_, ?_, ?_, (fun l h => by cases h), ?_⟩
  · rw [rangeL_len]; exact turns_range hA _ a c N
  · have := Heap.get?_push_size (s₁.heap.push { cls := .type "range", data := .fields #[.int a t, .int b u, .int c v] }) (o := { cls := .type "range_iterator", data := .fields #[rawInt a, rawInt (N : Int), rawInt c] }) rfl
    simpa [IsRangeIter] using this
  · intro b' hb'
    obtain rfl := List.mem_singleton.mp hb'
    exact .inl (fresh_none (by rw [Heap.size_push]; omega))
  · intro b' hb'
    obtain rfl := List.mem_singleton.mp hb'
    exact fresh_none (by rw [Heap.size_push]; omega)
  · intro W hW i x y s' as' σ' hi T' hR
    refine el_E hR fun t' hq1 => ?_; clear hR; subst hq1
    rw [rangeL_get c N i a y hi]
    exact ⟨t', rfl⟩

theorem src_enum (hA : A.handled = none) (T : Step s as σ s₁ as' σ₁) (c₁ : Cx prog w h₀ env ρ s₁ as' σ₁) {pt : Expr} (hok : okTup pt) {b : List UInt8} (hz : b.length ≤ lim) {e it : Addr} {t : Tok} {h' : Heap} {tk : Tok} (he : IsEnum h' e it 0 .none) (hi : KBw.IsBytesIter h' it b.toArray t 0) (hne : e ≠ it)
    (fe : s₁.heap.get? e = none) (fi : s₁.heap.get? it = none) (hk : Kept s₁.heap h') : Src prog w h₀ A env ρ s as σ pt (enumL 0 b) none σ₁ (.ref e) { s₁ with heap := h', toks := tk } := by
  refine ⟨s₁, as', e, [e, it], [e, it], okTup, fun i h v => ∃ T c u u', v = .ref T ∧ b.toArray[i]? = some c ∧ TupAt h T [.int i u, .int (c.toNat : Int) u'], fun i h => (∃ old, IsEnum h e it i old) ∧ KBw.IsBytesIter h it b.toArray t i, rfl, T, c₁, ⟨tk, rfl⟩, hk, ?_, hok, ⟨⟨_, he⟩, hi⟩, ?_, ?_, (fun l h => by cases h), ?_⟩
  · rw [enumL_len, show b.length = b.toArray.size by simp]
    exact turns_enum hA e it hne b.toArray t
  · intro x hx
    simp only [List.mem_cons, List.not_mem_nil, or_false] at hx
    rcases hx with rfl | rfl
    · exact .inl fe
    · exact .inl fi
  · intro x hx
    simp only [List.mem_cons, List.not_mem_nil, or_false] at hx
    rcases hx with rfl | rfl
    · exact fe
    · exact fi
  · intro W hW i x y s' as' σ' hi T' hR
    refine el_EEEEAA hR fun T c u u' hq2 hc ht => ?_; clear hR; subst hq2
    refine el_EA (enumL_get b 0 i y hi) fun c' hc' hq3 => ?_; subst hq3
    have : c' = c := by simp at hc; rw [hc] at hc'; cases hc'; rfl
    subst this
    exact ⟨T, _, rfl, ht, .cons ⟨u, by simp⟩ (.cons ⟨u', rfl⟩ .nil), by simp [lim]⟩

theorem src_loc (hA : A.handled = none) (T : Step s as σ s₁ as' σ₁) (c₁ : Cx prog w h₀ env ρ s₁ as' σ₁) {pt : Expr} (hok : okTgt pt) {l : Nat} {d : AD} (hd : σ₁.get l = some d) :
    wpAny (model prog w) A (pyIter (.ref (as' l))) (fun it s₂ => Src prog w h₀ A env ρ s as σ pt (match d with | .list xs => xs | .dict kvs => kvs.map fun kv => .int kv.1) (some l) σ₁ it s₂) NoE s₁ := by
  refine el_A (c₁.1.get hd) fun hl R => ?_
  have hold : as' l ≠ s₁.heap.objs.size := by
    refine el_EA R.getSome fun o ho _ => ?_
    exact Nat.ne_of_lt (Heap.lt_size ho)
  cases d with
  | list xs =>
    refine el_AEA R fun hz vs hp q => ?_; clear R
    refine wpAny_pyIter_list hp.isList ?_
    refine ⟨s₁, as', _, [s₁.heap.objs.size, as' l], [s₁.heap.objs.size], okTgt, fun i _ v => vs.toArray[i]? = some v, fun i h => h.IsListIter s₁.heap.objs.size (as' l) i ∧ h.IsList (as' l) vs.toArray, rfl, T, c₁, ⟨_, rfl⟩, Kept.push _ _, ?_, hok, ⟨⟨_, Heap.get?_push_size _ rfl, rfl, rfl⟩, hp.isList.push _⟩, ?_, ?_, fun l' h => by cases h; exact hl, ?_⟩
    · show Turns prog w A _ _ _ xs.length _ _ _
      rw [← q.length, show vs.length = vs.toArray.size by simp]
      exact turns_list hA _ _ hold _
    · intro x hx
      simp only [List.mem_cons, List.not_mem_nil, or_false] at hx
      rcases hx with rfl | rfl
      · exact .inl (fresh_none (Nat.le_refl _))
      · exact .inr ⟨l, rfl, rfl, hl⟩
    · intro x hx
      obtain rfl := List.mem_singleton.mp hx
      exact fresh_none (Nat.le_refl _)
    · intro W hW i x y s' as'' σ' hi T' hR
      refine el_EA (q.get i y hi) fun x' hx' r => ?_
      have : x' = x := by simp at hR; rw [hR] at hx'; cases hx'; rfl
      subst this
      exact r.moveW hW c₁.1 T'
  | dict kvs =>
    refine el_AEA R fun hz ws hp q => ?_; clear R
    refine el_E hp.dictAt fun ep hat => ?_
    refine wpAny_pyIter_dict (c₁.1.high l hl) hat ?_
    refine ⟨s₁, as', _, [s₁.heap.objs.size, as' l], [s₁.heap.objs.size], okTgt, fun i _ v => ∃ k x, ws[i]? = some (k, x) ∧ (intKind prog w).is k v = true, fun i h => h.IsKeyIter s₁.heap.objs.size (as' l) i ws.length ep ∧ h.DictAt (intKind prog w) (as' l) ws ep, rfl, T, c₁, ⟨_, rfl⟩, Kept.push _ _, ?_, hok, ⟨⟨_, Heap.get?_push_size _ rfl, rfl, rfl⟩, hat.push _⟩, ?_, ?_, fun l' h => by cases h; exact hl, ?_⟩
    · show Turns prog w A _ _ _ (kvs.map fun kv => AV.int kv.1).length _ _ _
      rw [List.length_map, ← q.length]
      exact turns_dict hA _ _ hold _ _
    · intro x hx
      simp only [List.mem_cons, List.not_mem_nil, or_false] at hx
      rcases hx with rfl | rfl
      · exact .inl (fresh_none (Nat.le_refl _))
      · exact .inr ⟨l, rfl, rfl, hl⟩
    · intro x hx
      obtain rfl := List.mem_singleton.mp hx
      exact fresh_none (Nat.le_refl _)
    · intro W hW i x y s' as'' σ' hi T' hR
      refine el_EEA hR fun kk x' hk hx => ?_; clear hR
      simp only [List.getElem?_map, Option.map_eq_some_iff] at hi
      refine el_EA hi fun kv hkv hq4 => ?_; clear hi; subst hq4
      refine el_EA (q.get i kv hkv) fun p hp' hr => ?_
      rw [hk] at hp'; cases hp'
      cases x <;> simp [intKind, Value.isInt] at hx
      rename_i j t
      subst hx
      exact ⟨t, by rw [← hr.1]⟩

theorem rangeOf_cases {is : List Int} {items : List AV} (e : rangeOf is = some items) : ∃ a b c, small a = true ∧ small b = true ∧ small c = true ∧ 0 < c ∧ items = rangeL a c ((b - a + c - 1) / c).toNat ∧ (is = [b] ∧ a = 0 ∧ c = 1 ∨ is = [a, b] ∧ c = 1 ∨ is = [a, b, c]) := by
  unfold rangeOf at e
  split at e
  · rename_i b
    split at e
    · rename_i hb
      cases e
      refine ⟨0, b, 1, by decide, hb, by decide, by decide, ?_, .inl ⟨rfl, rfl, rfl⟩⟩
      rw [Int.ediv_one]; congr 2; lia
    · cases e
  · rename_i a b
    split at e
    · rename_i hb
      simp only [Bool.and_eq_true] at hb
      cases e
      refine ⟨a, b, 1, hb.1, hb.2, by decide, by decide, ?_, .inr (.inl ⟨rfl, rfl⟩)⟩
      rw [Int.ediv_one]; congr 2; lia
    · cases e
  · rename_i a b c
    split at e
    · rename_i hb
      simp only [Bool.and_eq_true, decide_eq_true_eq] at hb
      cases e
      exact ⟨a, b, c, hb.1.1.1, hb.1.1.2, hb.1.2, hb.2, rfl, .inr (.inr rfl)⟩
    · cases e
  · cases e

theorem mX_range {es : List X} {e : Expr} (m : mX k sc (.range es) e = true) : ∃ k' np ps pos, k = k' + 1 ∧ e = .Call (.Name (Str.ofString "range") np) ps [] pos ∧ has sc (Str.ofString "range") .globalImplicit = true ∧ mXs (mX k' sc) es ps = true := by
  cases k with
  | zero => exact ff m
  | succ k =>
    exact iv_range (P := fun e => ∃ k' np ps pos, k + 1 = k' + 1 ∧ e = .Call (.Name (Str.ofString "range") np) ps [] pos ∧ has sc (Str.ofString "range") .globalImplicit = true ∧ mXs (mX k' sc) es ps = true) m fun np ps pos h h' => ⟨k, np, ps, pos, rfl, rfl, h, h'⟩
theorem mX_enum {x : X} {e : Expr} (m : mX k sc (.enum x) e = true) : ∃ k' np p pos, k = k' + 1 ∧ e = .Call (.Name (Str.ofString "enumerate") np) [p] [] pos ∧ has sc (Str.ofString "enumerate") .globalImplicit = true ∧ mX k' sc x p = true := by
  cases k with
  | zero => exact ff m
  | succ k =>
    exact iv_enum (P := fun e => ∃ k' np p pos, k + 1 = k' + 1 ∧ e = .Call (.Name (Str.ofString "enumerate") np) [p] [] pos ∧ has sc (Str.ofString "enumerate") .globalImplicit = true ∧ mX k' sc x p = true) m fun np p pos h h' => ⟨k, np, p, pos, rfl, rfl, h, h'⟩

theorem ints_rel {N : Nat} {vs : List AV} {is : List Int} {us : List Value} (e : intsOf vs = some is) (q : All2 (Rep h as N) us vs) : IntsAre us is := ints_are e q

theorem src_sound (B : Base prog w h₀ mg mb) (H : EvS prog w h₀ n) (E₀ : EnvOk env sc) (c : Cx prog w h₀ env ρ s as σ) (hA : AOk A n) {x : X} {pi pt : Expr} {items : List AV} {wl : Option Nat} (m : mX k sc x pi = true) (e : itemsOf (ev n ρ) x σ = some (items, wl, σ₁))
    (hok : okTgt pt) (hen : ∀ y, x = .enum y → okTup pt) :
    wpAny (model prog w) A (eval pi env) (fun xv s₁ => wpAny (model prog w) A (pyIter xv) (fun it s₂ => Src prog w h₀ A env ρ s as σ pt items wl σ₁ it s₂) NoE s₁) NoE s := by
  unfold itemsOf at e
  split at e
  · rename_i es
    refine bind2_elim e fun vs σ₂ e₁ e => ?_
    refine bind_elim e fun is e₂ e => ?_
    refine bind_elim e fun l e₃ e => ?_
    cases e
    refine el_EEEEAAA (mX_range m) fun k' np ps pos hq5 hq6 hi ms => ?_; subst hq5; subst hq6
    have hp := (star_plain (env := env) (pos := pos) ms).1
    refine wpAny_Call_NameR (glob_bi B E₀ c.1 hi B.rng.1 B.rng.2 (by decide +kernel) (PySem.callWith_type (T := "range") hp ?_))
    refine args_sound H E₀ hA ms e₁ c fun us s₁ as₁ T₁ c₁ q => ?_
    have q' := ints_rel e₂ q
    refine el_EEEAAA (rangeOf_cases e₃) fun a b cc ha hb hc hq8 => ?_; refine el_AA hq8 fun hc0 hq7 hcase => ?_; clear hq8; subst hq7
    rcases hcase with ⟨rfl, rfl, rfl⟩ | ⟨rfl, rfl⟩ | rfl
    · cases q' with
      | cons _ t q' => cases q' with
        | nil => exact call_range_1 (src_range hA.hd T₁ c₁ hok hc0 ha hb hc)
    · cases q' with
      | cons _ t q' => cases q' with
        | cons _ t' q' => cases q' with
          | nil => exact call_range_2 (src_range hA.hd T₁ c₁ hok hc0 ha hb hc)
    · cases q' with
      | cons _ t q' => cases q' with
        | cons _ t' q' => cases q' with
          | cons _ t'' q' => cases q' with
            | nil =>
              have := small_iff hc
              exact call_range_3 (by omega) (src_range hA.hd T₁ c₁ hok hc0 ha hb hc) (.inl (PyProof.noPylong_small (by omega)))
  · rename_i y
    refine bind2_elim e fun v₁ σ₂ e₁ e => ?_
    dsimp only at e
    split at e
    · rename_i b
      cases e
      refine el_EEEEAAA (mX_enum m) fun k' np p pos hq9 hq10 hi ms => ?_; subst hq9; subst hq10
      have ms' : mXs (mX k' sc) [y] [p] = true := by unfold mXs; rw [ms]; rfl
      have hp := (star_plain (env := env) (pos := pos) ms').1
      refine wpAny_Call_NameR (glob_bi B E₀ c.1 hi B.enu.1 B.enu.2 (by decide +kernel) (PySem.callWith_type (T := "enumerate") hp ?_))
      refine args_sound H E₀ hA ms' (vs := [.bytes b]) (σ' := σ₁) (by simp [evs, e₁]) c fun us s₁ as₁ T₁ c₁ q => ?_
      refine el_EAAE q.one fun u hq11 hz t hq12 => ?_; subst hq11; subst hq12
      refine call_enumerate_bytes fun h' he hb hsz hk => ?_
      have fe : s₁.heap.get? (s₁.heap.objs.size + 1) = none := fresh_none (by lia)
      have fi : s₁.heap.get? s₁.heap.objs.size = none := fresh_none (Nat.le_refl _)
      refine wpAny_pyIter_enum he ?_
      exact src_enum hA.hd T₁ c₁ (hen y rfl) hz he hb (Nat.succ_ne_self _) fe fi hk
    · cases e
  · refine bind2_elim e fun v₁ σ₂ e₁ e => ?_
    dsimp only at e
    split at e
    case h_2 => cases e
    rename_i l
    refine H.go E₀ c hA m e₁ fun u s₁ as₁ T₁ c₁ R₁ => ?_
    refine el_A R₁ fun hl hq13 => ?_; clear R₁; subst hq13
    split at e
    · rename_i xs hd
      cases e
      exact src_loc hA.hd T₁ c₁ hok hd
    · rename_i kvs hd
      cases e
      exact src_loc hA.hd T₁ c₁ hok hd
    · cases e
end
end Mine

/-! Loop -/
namespace Mine
open PySem PySem.W PyProof.Rows PySem.SeqAt

/-- where a loop stands -/
structure LInv (prog : Program) (w : World) (h₀ : Heap) (W : Addr → Prop) (env : Env) (wl : Option Nat) (items : List AV) (fp : List Addr) (Stt : Nat → Heap → Prop) (s₁ : Shared) (as₁ : Nat → Addr) (σ₁ : St)
    (i : Nat) (ρ : En) (s : Shared) (as : Nat → Addr) (σ : St) : Prop where
  le : i ≤ items.length
  step : StepW W s₁ as₁ σ₁ s as σ
  cx : Cx prog w h₀ env ρ s as σ
  st : Stt i s.heap
  ap : ∀ b ∈ fp, s₁.heap.get? b = none → ∀ l, l < σ.next → as l ≠ b
  wl : ∀ l, wl = some l → σ.obj l = σ₁.obj l

section
variable {W : Addr → Prop}
variable {prog : Program} {w : World} {h₀ h h' : Heap} {as as' as'' as₀ as₁ : Nat → Addr} {σ σ' σ'' σ₀ σ₁ σ₂ : St} {s s' s'' s₁ s₂ s₀ : Shared} {u u' : Value} {v v' v₁ v₂ r : AV} {A : Around} {n k N : Nat} {env : Env} {sc : Scope} {ρ ρ' ρ₁ : En} {mg mb : Str → Option Value} {fl : Fl}
variable {env' : Env} {ρ₀ : En} {pt : Expr} {items : List AV} {wl : Option Nat} {I : Addr} {fp wr : List Addr} {ok : Expr → Prop} {R : Nat → Heap → Value → Prop} {Stt : Nat → Heap → Prop}

theorem chk_wl {σ₀ σ : St} (h : chk wl σ₀ σ = true) : ∀ l, wl = some l → σ.obj l = σ₀.obj l := by
  rintro l rfl
  classical exact of_decide_eq_true h

/-- the frame's own objects are old -/
noncomputable def OldW (W : Addr → Prop) (s₁ : Shared) : Prop := ∀ b, W b → ∃ o, s₁.heap.get? b = some o
theorem oldW_of (c : Cx prog w h₀ env ρ s as σ) : OldW (WF env) s := by
  refine el_AEE c fun S m cm F => ?_; clear c
  rintro b (rfl | ⟨nm, hm⟩)
  · refine el_EEEA F.ns fun o _ _ ho _ => ?_; exact ⟨o, ho⟩
  · refine el_EEA (F.mem nm b hm) fun _ o ho _ => ?_; exact ⟨o, ho⟩

theorem LInv.move (X : SrcAt prog w h₀ A env' ρ₀ s₀ as₀ σ₀ pt items wl σ₁ s₂ s₁ as₁ I fp wr ok R Stt) (hW : ∀ b ∈ fp, s₁.heap.get? b = none → ¬ W b) {i : Nat} (L : LInv prog w h₀ W env wl items fp Stt s₁ as₁ σ₁ i ρ s as σ) (T : StepW W s as σ s' as' σ') (c' : Cx prog w h₀ env ρ' s' as' σ')
    (hc : ∀ l, wl = some l → σ'.obj l = σ₁.obj l) : LInv prog w h₀ W env wl items fp Stt s₁ as₁ σ₁ i ρ' s' as' σ' where
  le := L.le
  step := L.step.trans X.cx.1 L.cx.1 T
  cx := c'
  st := X.turns.frame _ _ _ L.st fun b hb o e => by
    rcases X.fp b hb with hn | ⟨l, hl, rfl, hlt⟩
    · exact T.keep b o e (hW b hb hn) fun l hl h => L.ap b hb hn l hl h.symm
    · have hlt' : l < σ.next := Nat.lt_of_lt_of_le hlt L.step.le
      refine el_EA (L.cx.1.live l hlt') fun ob ho r => ?_
      refine el_EAAA (T.mono l ob hlt' ho) fun o' ho' _ _ hv => ?_
      have : o' = ob := by
        have h1 := hc l hl
        rw [← L.wl l hl, ho, ho'] at h1
        cases h1; rfl
      subst this
      rw [← L.step.ext l hlt] at e ⊢
      rw [(hv rfl).2]; exact e
  ap := fun b hb hn l hl => by
    rcases Nat.lt_or_ge l σ.next with h | h
    · rw [T.ext l h]; exact L.ap b hb hn l h
    · intro e
      refine el_E (X.turns.live _ _ L.st b hb) fun o ho => ?_
      rw [← e, T.fresh l h hl] at ho; cases ho
  wl := hc

theorem LInv.begin (X : SrcAt prog w h₀ A env ρ s₀ as₀ σ₀ pt items wl σ₁ s₂ s₁ as₁ I fp wr ok R Stt) : LInv prog w h₀ W env wl items fp Stt s₁ as₁ σ₁ 0 ρ s₂ as₁ σ₁ := by
  refine el_E X.same fun tk hs => ?_
  refine el_A (X.cx.keptW (W := W) X.kept tk) fun T c => ?_
  rw [hs]
  refine ⟨Nat.zero_le _, T, c, X.start, fun b hb hn l hl e => ?_, fun _ _ => rfl⟩
  refine el_EA (X.cx.1.live l hl) fun ob _ r => ?_
  refine el_EA r.getSome fun o ho _ => ?_
  rw [e, hn] at ho; cases ho

theorem LInv.side (X : SrcAt prog w h₀ A env' ρ₀ s₀ as₀ σ₀ pt items wl σ₁ s₂ s₁ as₁ I fp wr ok R Stt) {i : Nat} (L : LInv prog w h₀ W env wl items fp Stt s₁ as₁ σ₁ i ρ s as σ) (hk : ∀ b o, b ∉ wr → s.heap.get? b = some o → h'.get? b = some o) : Side h₀ s.heap as σ.next wr h' where
  ap := fun b hb => L.ap b (X.turns.sub b hb) (X.wr b hb)
  base := fun b hb => by
    cases e : h₀.get? b with
    | none => rfl
    | some o => have := X.cx.1.base b o e; rw [X.wr b hb] at this; cases this
  tup := X.turns.noTup _ _ L.st
  keep := hk

/-- one more item -/
theorem LInv.next2 (X : SrcAt prog w h₀ A env' ρ₀ s₀ as₀ σ₀ pt items wl σ₁ s₂ s₁ as₁ I fp wr ok R Stt) (hw : ∀ b ∈ wr, ¬ WF env b) (hWt : ∀ b, W b → ∀ vs, ¬ TupAt s₁.heap b vs) {i : Nat} (L : LInv prog w h₀ W env wl items fp Stt s₁ as₁ σ₁ i ρ s as σ) {x : AV} (hx : items[i]? = some x)
    {E : Value → Shared → Prop} {K : Value → Shared → Prop}
    (hK : ∀ v h' tk, Side h₀ s.heap as σ.next wr h' → LInv prog w h₀ W env wl items fp Stt s₁ as₁ σ₁ (i + 1) ρ { s with heap := h', toks := tk } as σ → Rep h' as σ.next v x → K v { s with heap := h', toks := tk }) :
    wpAny (model prog w) A (pyNext (.ref I)) (fun r s₁ => ∃ v, r = some v ∧ wpAny (model prog w) A (letOwnedTupleGo pt (.ref I) v) (fun _ s' => K v s') E s₁) E s := by
  have hi : i < items.length := (List.getElem?_eq_some_iff.mp hx).1
  refine X.turns.item i s pt _ E X.tgt hi L.st fun v h' tk hR hst hk => ?_
  have sd := L.side X hk
  have T' := sd.step X.cx.1 L.step X.wr tk
  have c' := sd.cx hw L.cx tk
  exact hK v h' tk sd ⟨hi, T', c', hst, L.ap, L.wl⟩ (X.rep W hWt i v x _ as σ hx T' hR)
theorem LInv.next (X : SrcAt prog w h₀ A env' ρ₀ s₀ as₀ σ₀ pt items wl σ₁ s₂ s₁ as₁ I fp wr ok R Stt) (hw : ∀ b ∈ wr, ¬ WF env b) (hWt : ∀ b, W b → ∀ vs, ¬ TupAt s₁.heap b vs) {i : Nat} (L : LInv prog w h₀ W env wl items fp Stt s₁ as₁ σ₁ i ρ s as σ) {x : AV} (hx : items[i]? = some x)
    {E : Value → Shared → Prop} {K : Value → Shared → Prop}
    (hK : ∀ v s', LInv prog w h₀ W env wl items fp Stt s₁ as₁ σ₁ (i + 1) ρ s' as σ → Rep s'.heap as σ.next v x → K v s') :
    wpAny (model prog w) A (pyNext (.ref I)) (fun r s₁ => ∃ v, r = some v ∧ wpAny (model prog w) A (letOwnedTupleGo pt (.ref I) v) (fun _ s' => K v s') E s₁) E s :=
  L.next2 X hw hWt hx fun v h' tk _ L' R' => hK v _ L' R'

theorem LInv.last (X : SrcAt prog w h₀ A env' ρ₀ s₀ as₀ σ₀ pt items wl σ₁ s₂ s₁ as₁ I fp wr ok R Stt) (hw : ∀ b ∈ wr, ¬ WF env b) {i : Nat} (L : LInv prog w h₀ W env wl items fp Stt s₁ as₁ σ₁ i ρ s as σ) (hi : items.length ≤ i)
    {E : Value → Shared → Prop} {K : Option Value → Shared → Prop} (hK : ∀ h' tk, Side h₀ s.heap as σ.next wr h' → StepW W s₁ as₁ σ₁ { s with heap := h', toks := tk } as σ → Cx prog w h₀ env ρ { s with heap := h', toks := tk } as σ → K none { s with heap := h', toks := tk }) :
    wpAny (model prog w) A (pyNext (.ref I)) K E s := by
  have : i = items.length := Nat.le_antisymm L.le hi
  subst this
  refine X.turns.done s _ E L.st fun h' tk hk => ?_
  have sd := L.side X hk
  exact hK h' tk sd (sd.step X.cx.1 L.step X.wr tk) (sd.cx hw L.cx tk)

theorem notWF {b : Addr} (c : Cx prog w h₀ env ρ s as σ) (hn : s.heap.get? b = none) : ¬ WF env b := fun h => by
  refine el_E (oldW_of c b h) fun o ho => ?_
  rw [ho] at hn; cases hn
theorem wf_noTup (c : Cx prog w h₀ env ρ s as σ) : ∀ b, WF env b → ∀ vs, ¬ TupAt s.heap b vs := by
  refine el_AEE c fun S m cm F => ?_; clear c
  exact fun b hb vs t => F.notTup t hb

theorem tg_ok {tg : Tg} {pt : Expr} (m : mTg sc tg pt = true) : okTgt pt := by
  cases tg <;> cases pt <;> first | trivial | exact ff m
theorem tg_tup {tg : Tg} {x : X} {pt : Expr} (m : mTg sc tg pt = true) (h : enumOk tg x = true) : ∀ y, x = .enum y → okTup pt := by
  rintro y rfl
  cases tg with
  | one _ => exact ff h
  | many _ => cases pt <;> first | trivial | exact ff m

theorem x_for (B : Base prog w h₀ mg mb) (H : EvS prog w h₀ n) (HX : ExS prog w h₀ n) (E₀ : EnvOk env sc) (c : Cx prog w h₀ env ρ s as σ) (hA : AOk A n) {tg : Tg} {x : X} {b : List Y} {pt pi : Expr} {pb : List Stmt} {pos : Pos}
    (mt : mTg sc tg pt = true) (en : enumOk tg x = true) (mi : mX k sc x pi = true) (mbd : mYs (mY k sc) b pb = true)
    (e : ((itemsOf (ev n ρ) x σ).bind fun p => forl tg p.2.1 p.2.2 (exs (ex n) b) p.1 ρ p.2.2) = some (fl, ρ', σ')) : wpAny (model prog w) A (exec (.For pt pi pb [] pos) env) (PostF prog w h₀ env ρ' s as σ fl σ') NoE s := by
  generalize hQ : PostF prog w h₀ env ρ' s as σ fl σ' = Q
  refine bind3_elim e fun items wl σ₁ e₁ e => ?_
  refine wpAny_For (wpAny_mono (src_sound (pt := pt) B H E₀ c hA mi e₁ (tg_ok mt) (tg_tup mt en)) (fun xv s₁ h₁ => wpAny_mono h₁ (fun it s₂ h₂ => ?_) fun _ _ z => z) fun _ _ z => z) (mX_fold mi)
  clear h₁
  refine el_EEEEEEE h₂ fun s₁ as₁ I fp wr ok R hq10 => ?_; clear h₂; refine el_EA hq10 fun Stt hq9 X => ?_; clear hq10; subst hq9
  have hw : ∀ b ∈ wr, ¬ WF env b := fun b hb => notWF X.cx (X.wr b hb)
  have hW : ∀ b ∈ fp, s₁.heap.get? b = none → ¬ WF env b := fun b _ hn => notWF X.cx hn
  have hWt := wf_noTup X.cx
  have T₀ : StepW (WF env) s as σ s₁ as₁ σ₁ := X.step.weak X.cx.1
  obtain ⟨INV, mk, un⟩ : ∃ INV : Nat → Shared → Prop, (∀ {i as' τ ρ₁ s'}, LInv prog w h₀ (WF env) env wl items fp Stt s₁ as₁ σ₁ i ρ₁ s' as' τ → forl tg wl σ₁ (exs (ex n) b) (items.drop i) ρ₁ τ = some (fl, ρ', σ') → INV (items.length - i) s') ∧
      ∀ {m s'} {P : Prop}, INV m s' → (∀ i as' τ ρ₁, m = items.length - i → LInv prog w h₀ (WF env) env wl items fp Stt s₁ as₁ σ₁ i ρ₁ s' as' τ → forl tg wl σ₁ (exs (ex n) b) (items.drop i) ρ₁ τ = some (fl, ρ', σ') → P) → P :=
    ⟨fun m s' => ∃ i as' τ ρ₁, m = items.length - i ∧ LInv prog w h₀ (WF env) env wl items fp Stt s₁ as₁ σ₁ i ρ₁ s' as' τ ∧ forl tg wl σ₁ (exs (ex n) b) (items.drop i) ρ₁ τ = some (fl, ρ', σ'), fun L e => ⟨_, _, _, _, rfl, L, e⟩, fun ⟨i, as', τ, ρ₁, h, L, e⟩ k => k i as' τ ρ₁ h L e⟩
  refine codeAny_forLoop_any INV ?_ items.length (mk (i := 0) (LInv.begin X) e)
  intro m s' hI
  refine un hI fun i as' σ₃ ρ₁ hm L el => ?_
  subst hm
  rcases Nat.lt_or_ge i items.length with hi | hi
  · have hx : items[i]? = some items[i] := by simp [hi]
    rw [List.drop_eq_getElem_cons hi] at el
    refine bind_elim el fun ρ₂ eb el => ?_
    refine bind3_elim el fun fl₁ ρ₃ σ₄ ebd el => ?_
    refine wpAny_mono (L.next X hw hWt hx (E := NoE) (K := fun v s₃ => wpAny (model prog w) A (assign pt env v) (fun _ s₄ => wpAny (model prog w) A (execs pb env) (fun f s₅ => match f with
            | .next | .cont => ∃ m', m' < items.length - i ∧ INV m' s₅
            | .brk => Q .next s₅
            | .ret v => Q (.ret v) s₅) NoE s₄) NoE s₃) fun v s₃ L₃ Rv => ?_) (fun r s₃ hr => ?_) fun _ _ z => z.elim
    · refine wpAny_mono (tgt_sound E₀ hA.hd mt eb Rv L₃.cx) (fun _ s₄ hp => ?_) fun _ _ z => z
      refine el_A hp fun T₄ c₄ => ?_; clear hp
      have L₄ := L₃.move X hW (T₄.wide c₄.1 fun b hb => .inl hb) c₄ L₃.wl
      refine wpAny_mono (x_exs HX E₀ hA b c₄ mbd ebd) (fun f s₅ hp => ?_) fun _ _ z => z
      refine el_EAA hp fun as₅ T₅ c₅ hf => ?_; clear hp
      cases fl₁ with
      | next =>
        obtain rfl := hf
        dsimp only at el
        split at el
        case isFalse => cases el
        rename_i hck
        exact ⟨items.length - (i + 1), by omega, mk (L₄.move X hW T₅ c₅ (chk_wl hck)) el⟩
      | ret rv =>
        refine el_EA hf fun u hq11 Ru => ?_; clear hf; subst hq11
        show Q _ _
        rw [← hQ]
        exact tri_elim (P := fun fl ρ' σ' => PostF prog w h₀ env ρ' s as σ fl σ' _ _) el ⟨as₅, (T₀.trans c.1 X.cx.1 (L₄.step.trans X.cx.1 c₄.1 T₅)), c₅, u, rfl, Ru⟩
    · obtain ⟨v, rfl, hr⟩ := hr
      refine wpAny_mono hr (fun _ s₄ h₄ => ?_) fun _ _ z => z.elim
      refine wpAny_mono h₄ (fun _ s₅ h₅ => ?_) fun _ _ z => z.elim
      exact wpAny_mono h₅ (fun f s₆ h₆ => by cases f <;> exact h₆) fun _ _ z => z.elim
  · refine L.last X hw hi fun h' tk sd T' c' => ?_
    have hnil : items.drop i = [] := List.drop_eq_nil_of_le hi
    rw [hnil] at el
    rw [← hQ]
    exact wpAny_execs_nil (tri_elim (P := fun fl ρ' σ' => PostF prog w h₀ env ρ' s as σ fl σ' _ _) el ⟨as', T₀.trans c.1 X.cx.1 T', c', rfl⟩)
end
end Mine

/-! Whl -/
namespace Mine
open PySem PySem.W PyProof.Rows PySem.SeqAt

section
variable {prog : Program} {w : World} {h₀ h h' : Heap} {as as' as'' as₀ as₁ : Nat → Addr} {σ σ' σ'' σ₀ σ₁ σ₂ : St} {s s' s'' s₁ s₂ s₀ : Shared} {u u' : Value} {v v' v₁ v₂ r : AV} {A : Around} {n k N : Nat} {env : Env} {sc : Scope} {ρ ρ' ρ₁ : En} {mg mb : Str → Option Value} {fl : Fl}

theorem x_whl (H : TsS prog w h₀ n) (HX : ExS prog w h₀ n) (E₀ : EnvOk env sc) (c : Cx prog w h₀ env ρ s as σ) (hA : AOk A n) {x : X} {b : List Y} {pt : Expr} {pb : List Stmt} {pos : Pos}
    (m : mX k sc x pt = true) (mbd : mYs (mY k sc) b pb = true) (e : whll (fun ρ' => tst (ev n ρ') x) (exs (ex n) b) turns ρ σ = some (fl, ρ', σ')) :
    wpAny (model prog w) A (exec (.While pt pb [] pos) env) (PostF prog w h₀ env ρ' s as σ fl σ') NoE s := by
  refine wpAny_While ?_
  generalize hQ : PostF prog w h₀ env ρ' s as σ fl σ' = Q
  obtain ⟨INV, mk, un⟩ : ∃ INV : Nat → Shared → Prop, (∀ {t as' τ ρ₁ s'}, StepW (WF env) s as σ s' as' τ → Cx prog w h₀ env ρ₁ s' as' τ → whll (fun ρ' => tst (ev n ρ') x) (exs (ex n) b) t ρ₁ τ = some (fl, ρ', σ') → INV t s') ∧
      ∀ {t s'} {P : Prop}, INV t s' → (∀ as' τ ρ₁, StepW (WF env) s as σ s' as' τ → Cx prog w h₀ env ρ₁ s' as' τ → whll (fun ρ' => tst (ev n ρ') x) (exs (ex n) b) t ρ₁ τ = some (fl, ρ', σ') → P) → P :=
    ⟨fun t s' => ∃ as' τ ρ₁, StepW (WF env) s as σ s' as' τ ∧ Cx prog w h₀ env ρ₁ s' as' τ ∧ whll (fun ρ' => tst (ev n ρ') x) (exs (ex n) b) t ρ₁ τ = some (fl, ρ', σ'), fun T c e => ⟨_, _, _, T, c, e⟩, fun ⟨as', τ, ρ₁, T, c, e⟩ k => k as' τ ρ₁ T c e⟩
  refine codeAny_whileLoop INV ?_ turns (mk StepW.refl c e)
  intro t s' hI
  refine un hI fun as' τ ρ₁ T c' el => ?_
  clear hI
  cases t with
  | zero => cases el
  | succ t =>
  refine bind2_elim el fun bb σ₁ e₁ el => ?_
  refine wpAny_mono (H.go E₀ c' hA m e₁ (K := fun b₀ s₂ => if b₀ then wpAny (model prog w) A (execs pb env) (fun f s₃ => match f with
            | .next | .cont => ∃ m, m < t + 1 ∧ INV m s₃
            | .brk => Q .next s₃
            | .ret v => Q (.ret v) s₃) NoE s₂
        else Q .next s₂) fun s₁ as₁ T₁ c₁ => ?_) (fun b' s₂ h₂ => ?_) fun _ _ z => z.elim
  · have T₁' := T.trans c.1 c'.1 (T₁.weak c₁.1)
    cases bb with
    | false =>
      show Q _ _
      rw [← hQ]
      exact tri_elim (P := fun fl ρ' σ' => PostF prog w h₀ env ρ' s as σ fl σ' _ _) el ⟨as₁, T₁', c₁, rfl⟩
    | true =>
      simp only [if_true] at el ⊢
      refine bind3_elim el fun fl₁ ρ₃ σ₄ ebd el => ?_
      refine wpAny_mono (x_exs HX E₀ hA b c₁ mbd ebd) (fun f s₅ hp => ?_) fun _ _ z => z
      refine el_EAA hp fun as₅ T₅ c₅ hf => ?_; clear hp
      cases fl₁ with
      | next =>
        obtain rfl := hf
        exact ⟨t, Nat.lt_succ_self t, mk (T₁'.trans c.1 c₁.1 T₅) c₅ el⟩
      | ret rv =>
        refine el_EA hf fun u hq1 Ru => ?_; clear hf; subst hq1
        show Q _ _
        rw [← hQ]
        exact tri_elim (P := fun fl ρ' σ' => PostF prog w h₀ env ρ' s as σ fl σ' _ _) el ⟨as₅, T₁'.trans c.1 c₁.1 T₅, c₅, u, rfl, Ru⟩
  · cases b' with
    | false => exact wpAny_execs_nil h₂
    | true => exact wpAny_mono h₂ (fun f s₆ h₆ => by cases f <;> exact h₆) fun _ _ z => z.elim
end
end Mine

/-! CompA -/
namespace Mine
open PySem PySem.W PyProof.Rows PySem.SeqAt

section
variable {W : Addr → Prop}
variable {prog : Program} {w : World} {h₀ h h' : Heap} {as as' as'' as₀ as₁ : Nat → Addr} {σ σ' σ'' σ₀ σ₁ σ₂ : St} {s s' s'' s₁ s₂ s₀ : Shared} {u u' : Value} {v v' v₁ v₂ r : AV} {A : Around} {n k N : Nat} {env : Env} {sc : Scope} {ρ ρ' ρ₁ : En} {mg mb : Str → Option Value} {fl : Fl}
variable {scope : Scope} {C D : Addr} {cl : List (Str × Addr)} {m cm : Str → Option Value} {vs : List AV}

/-- a list of its own, beside the store -/
structure DInv (D : Addr) (s : Shared) (as : Nat → Addr) (σ : St) (vs : List AV) : Prop where
  list : ∃ us : List Value, s.heap.PlainList D us.toArray ∧ All2 (Rep s.heap as σ.next) us vs
  ap : ∀ l, l < σ.next → as l ≠ D

theorem PlainList.some {a : Addr} {items : Array Value} (p : h.PlainList a items) : ∃ o, h.get? a = some o ∧ o.cls = .type "list" := by
  refine el_E p fun n e => ?_; clear p; exact ⟨_, e, rfl⟩

theorem DInv.move (I : DInv D s as σ vs) (hD : ¬ W D) (hW : ∀ b, W b → ∀ vs, ¬ TupAt s.heap b vs) (S : SRel prog w h₀ s.heap as σ) (T : StepW W s as σ s' as' σ') : DInv D s' as' σ' vs where
  list := by
    refine el_EA I.list fun us p q => ?_
    exact ⟨us, p.at fun o e => T.keep _ o e hD fun l hl h => I.ap l hl h.symm, q.mono fun _ _ r => r.moveW hW S T⟩
  ap := fun l hl e => by
    rcases Nat.lt_or_ge l σ.next with h | h
    · exact I.ap l h (by rw [← T.ext l h, e])
    · refine el_EA I.list fun us p _ => ?_
      refine el_EA (PlainList.some p) fun o ho _ => ?_
      rw [← e, T.fresh l h hl] at ho; cases ho

theorem DInv.side {wr : List Addr} {tk : Tok} (I : DInv D s as σ vs) (sd : Side h₀ s.heap as σ.next wr h') (hD : D ∉ wr) : DInv D { s with heap := h', toks := tk } as σ vs where
  list := by
    refine el_EA I.list fun us p q => ?_
    exact ⟨us, p.at fun o e => sd.keep _ o hD e, q.mono fun _ _ r => sd.rep r⟩
  ap := I.ap

theorem big_of (S : SRel prog w h₀ s.heap as σ) (h : s.heap.objs.size ≤ D) : (D == sysModules) = false := by
  refine el_E S.low fun o ho => ?_
  have h2 : (2 : Nat) < D := Nat.lt_of_lt_of_le (Heap.lt_size (S.base _ _ ho)) h
  exact beq_eq_false_iff_ne.mpr (fun e => by subst e; exact absurd h2 (by decide))

/-- the list of its own becomes one of the store's -/
theorem adopt (S₀ : SRel prog w h₀ s.heap as σ) (T : Step s as σ s' as' σ') (S : SRel prog w h₀ s'.heap as' σ') (h0 : s.heap.get? D = none) (hb : (D == sysModules) = false) (I : DInv D s' as' σ' vs) (hz : vs.length ≤ lim) :
    Post prog w h₀ s as σ (.loc σ'.next) (σ'.alloc (.list vs)) (.ref D) s' := by
  have old : ∀ l, l < σ'.next → upd as' σ'.next D l = as' l := fun l hl => upd_ne _ _ (Nat.ne_of_lt hl)
  have new : upd as' σ'.next D σ'.next = D := upd_eq _ _ _
  have obj : ∀ l, l < σ'.next → (σ'.alloc (.list vs)).obj l = σ'.obj l := fun l hl => upd_ne _ _ (Nat.ne_of_lt hl)
  have lt : ∀ l, l < σ'.next + 1 → l < σ'.next ∨ l = σ'.next := fun l hl => by omega
  refine el_EA I.list fun us p q => ?_
  refine ⟨upd as' σ'.next D, ⟨T.keep, T.stay, Nat.le_succ_of_le T.le, fun l hl => (old l (Nat.lt_of_lt_of_le hl T.le)).trans (T.ext l hl), fun l o hl e => ?_, fun l a b => ?_, T.gens, T.os⟩,
    ⟨S.base, fun l hl => ?_, fun l hl => ?_, fun l l' hl hl' e => ?_, fun l hl => ?_, fun l hl => ?_, S.low⟩, Nat.lt_succ_self _, by rw [new]⟩
  · refine el_EA (T.mono l o hl e) fun o' e' r => ?_
    exact ⟨o', (obj l (Nat.lt_of_lt_of_le hl T.le)).trans e', r⟩
  · rcases lt l b with h | rfl
    · rw [old l h]; exact T.fresh l a h
    · rw [new]; exact h0
  · rcases lt l hl with h | rfl
    · refine el_EA (S.live l h) fun ob e r => ?_
      refine ⟨ob, (obj l h).trans e, ?_⟩
      rw [old l h]
      exact r.keeps (Nat.le_succ _) old (fun _ _ t => t) fun o e => e
    · refine ⟨⟨0, .list vs⟩, upd_eq _ _ _, ?_⟩
      rw [new]
      exact ⟨hz, us, p, q.mono fun _ _ r => r.keeps (Nat.le_succ _) old fun _ _ _ t => t⟩
  · have : l ≠ σ'.next := by have : σ'.next + 1 ≤ l := hl; omega
    exact (upd_ne _ _ this).trans (S.dead l (Nat.le_of_lt hl))
  · rcases lt l hl with h | rfl <;> rcases lt l' hl' with h' | rfl
    · rw [old l h, old l' h'] at e; exact S.inj l l' h h' e
    · rw [old l h, new] at e; exact absurd e (I.ap l h)
    · rw [old l' h', new] at e; exact absurd e.symm (I.ap l' h')
    · rfl
  · rcases lt l hl with h | rfl
    · rw [old l h]; exact S.apart l h
    · rw [new]
      cases e : h₀.get? D with
      | none => rfl
      | some o => rw [S₀.base D o e] at h0; cases h0
  · rcases lt l hl with h | rfl
    · rw [old l h]; exact S.high l h
    · rw [new]; exact hb

/-! the comprehension's own frame -/
theorem closure_of {f : Str × NameKind → List (Str × Addr) → Sem (ForInStep (List (Str × Addr)))} (hff : ∀ n kd cs, f (n, kd) cs = if (kd == NameKind.free) = true then (cellOf env n >>= fun a => pure (ForInStep.yield ((n, a) :: cs))) else pure (ForInStep.yield cs)) : ∀ {names : List (Str × NameKind)} {acc : List (Str × Addr)} (hf : ∀ y ∈ names, y.2 = .free → ∃ c, env.cells.lookup y.1 = some c), ∃ cl : List (Str × Addr),
    forIn names acc f = pure cl ∧
    (∀ p ∈ cl, p ∈ acc ∨ (env.cells.lookup p.1 = some p.2 ∧ (p.1, NameKind.free) ∈ names)) ∧ (∀ p ∈ acc, p ∈ cl) ∧ (∀ y ∈ names, y.2 = .free → ∃ c, (y.1, c) ∈ cl) ∧ ((acc.map (·.1)).Nodup → (∀ y ∈ names, y.1 ∉ acc.map (·.1)) → (names.map (·.1)).Nodup → (cl.map (·.1)).Nodup)
  | [], acc, _ => ⟨acc, rfl, fun p hp => .inl hp, fun p hp => hp, (fun _ h => nomatch h), fun h _ _ => h⟩
  | (n, kd) :: r, acc, hf => by
    by_cases hk : kd = .free
    · subst hk
      refine el_E (hf (n, .free) List.mem_cons_self rfl) fun c hc => ?_
      refine el_EAAAA (closure_of hff (names := r) (acc := (n, c) :: acc) fun y hy => hf y (List.mem_cons_of_mem _ hy)) fun cl e h1 h2 h3 h4 => ?_
      refine ⟨cl, ?_, fun p hp => ?_, fun p hp => h2 p (List.mem_cons_of_mem _ hp), fun y hy hy' => ?_, fun a1 a2 a3 => ?_⟩
      · rw [List.forIn_cons, hff]
        have : cellOf env n = pure c := by unfold cellOf; rw [hc]
        simp only [this, beq_self_eq_true, if_true, pure_bind]
        exact e
      · rcases h1 p hp with h | ⟨h, h'⟩
        · rcases List.mem_cons.mp h with rfl | h
          · exact .inr ⟨hc, List.mem_cons_self⟩
          · exact .inl h
        · exact .inr ⟨h, List.mem_cons_of_mem _ h'⟩
      · rcases List.mem_cons.mp hy with rfl | hy
        · exact ⟨c, h2 _ List.mem_cons_self⟩
        · exact h3 y hy hy'
      · rw [List.map_cons, List.nodup_cons] at a3
        refine h4 ?_ ?_ a3.2
        · rw [List.map_cons, List.nodup_cons]
          exact ⟨a2 (n, .free) List.mem_cons_self, a1⟩
        · intro y hy hm
          rw [List.map_cons, List.mem_cons] at hm
          rcases hm with hm | hm
          · exact a3.1 (by rw [show (n, NameKind.free).1 = y.1 from hm.symm]; exact List.mem_map_of_mem hy)
          · exact a2 y (List.mem_cons_of_mem _ hy) hm
    · have hb : (kd == NameKind.free) = false := by simpa using hk
      refine el_EAAAA (closure_of hff (names := r) (acc := acc) fun y hy => hf y (List.mem_cons_of_mem _ hy)) fun cl e h1 h2 h3 h4 => ?_
      refine ⟨cl, ?_, fun p hp => ?_, h2, fun y hy hy' => ?_, fun a1 a2 a3 => ?_⟩
      · rw [List.forIn_cons, hff]
        simp only [hb, Bool.false_eq_true, if_false, pure_bind]
        exact e
      · rcases h1 p hp with h | ⟨h, h'⟩
        · exact .inl h
        · exact .inr ⟨h, List.mem_cons_of_mem _ h'⟩
      · rcases List.mem_cons.mp hy with rfl | hy
        · exact absurd hy' hk
        · exact h3 y hy hy'
      · rw [List.map_cons, List.nodup_cons] at a3
        exact h4 a1 (fun y hy => a2 y (List.mem_cons_of_mem _ hy)) a3.2

theorem closureFor_of (hf : ∀ y ∈ scope.names, y.2 = .free → ∃ c, env.cells.lookup y.1 = some c) (nd : (scope.names.map (·.1)).Nodup) : ∃ cl, closureFor scope env = pure cl ∧ (∀ p ∈ cl, env.cells.lookup p.1 = some p.2 ∧ (p.1, NameKind.free) ∈ scope.names) ∧
    (∀ y ∈ scope.names, y.2 = .free → ∃ c, (y.1, c) ∈ cl) ∧ (cl.map (·.1)).Nodup := by
  refine el_EAAAA (closure_of (env := env) (f := fun x cs => match x with | (name, kind) => if (kind == NameKind.free) = true then (cellOf env name >>= fun a => pure (ForInStep.yield ((name, a) :: cs))) else pure (ForInStep.yield cs)) (fun _ _ _ => rfl) (names := scope.names) (acc := []) hf) fun cl e h1 h2 h3 h4 => ?_
  refine ⟨cl, ?_, fun p hp => ?_, h3, h4 List.nodup_nil (fun _ _ h => nomatch h) nd⟩
  · simp only [closureFor]
    refine Eq.trans (congrArg (fun m => m >>= fun cs => pure cs) e) ?_
    rfl
  · rcases h1 p hp with h | h
    · cases h
    · exact h
end
end Mine

/-! CompB -/
namespace Mine
open PySem PySem.W PyProof.Rows PySem.SeqAt

structure CScope (sc scope : Scope) (free : List Nat) : Prop where
  kind : scope.kind = .function
  nodup : (scope.names.map (·.1)).Nodup
  nocell : ∀ y ∈ scope.names, y.2 ≠ .cell
  loc : ∀ y ∈ scope.names, y.2 = .local → scope.names.lookup y.1 = some .local
  fr : ∀ y ∈ scope.names, y.2 = .free → has sc y.1 .cell = true
  free : ∀ x ∈ free, has scope (vn x) .free = true

section
variable {prog : Program} {w : World} {h₀ h h' : Heap} {as as' as'' as₀ as₁ : Nat → Addr} {σ σ' σ'' σ₀ σ₁ σ₂ : St} {s s' s'' s₁ s₂ s₀ : Shared} {u u' : Value} {v v' v₁ v₂ r : AV} {A : Around} {n k N : Nat} {env : Env} {sc : Scope} {ρ ρ' ρ₁ : En} {mg mb : Str → Option Value} {fl : Fl}
variable {scope : Scope} {C D : Addr} {cl : List (Str × Addr)} {m cm : Str → Option Value} {free : List Nat}

theorem lookup_relab {c : Str → NameKind → Bool} : ∀ {names : List (Str × NameKind)} {x : Str},
    (names.map fun y => if c y.1 y.2 = true then (y.1, NameKind.cell) else y).lookup x = (names.lookup x).map fun k => if c x k = true then .cell else k
  | [], x => rfl
  | (n, k) :: r, x => by
    rw [List.map_cons]
    by_cases hc : c n k = true
    · simp only [hc, if_true]
      rw [List.lookup_cons, List.lookup_cons]
      by_cases hx : x = n
      · subst hx; simp [hc]
      · have : (x == n) = false := by simpa using hx
        simp only [this]
        exact lookup_relab
    · have hc' : c n k = false := by simpa using hc
      simp only [hc', Bool.false_eq_true, if_false]
      rw [List.lookup_cons, List.lookup_cons]
      by_cases hx : x = n
      · subst hx; simp [hc']
      · have : (x == n) = false := by simpa using hx
        simp only [this]
        exact lookup_relab

theorem kindOf_comp {x : Str} : (compEnvC scope cl C env).kindOf x = (scope.names.lookup x).map fun k => if (k == .free && env.scope.kind == .function && env.kindOf x == some .cell) = true then .cell else k := by
  show (relabel scope env).names.lookup x = _
  rw [← lookup_relab (c := fun n k => k == .free && env.scope.kind == .function && env.kindOf n == some .cell)]
  rfl

theorem has_lookup {x : Str} {k : NameKind} (h : has sc x k = true) : sc.names.lookup x = some k := by simpa [has] using h

theorem comp_env (E₀ : EnvOk env sc) (X : CScope sc scope free) : EnvOk (compEnvC scope cl C env) scope where
  kind := X.kind
  globals := E₀.globals
  builtins := E₀.builtins
  imp := fun id h => by rw [kindOf_comp, has_lookup h]; rfl
  loc := fun id h => by rw [kindOf_comp, has_lookup h]; rfl
  cel := fun id h => absurd rfl (X.nocell _ (mem_of_lookup (has_lookup h)))

structure Clos (cl : List (Str × Addr)) (env : Env) (scope : Scope) : Prop where
  mem : ∀ p ∈ cl, env.cells.lookup p.1 = some p.2 ∧ (p.1, NameKind.free) ∈ scope.names
  all : ∀ y ∈ scope.names, y.2 = .free → ∃ c, (y.1, c) ∈ cl
  nodup : (cl.map (·.1)).Nodup

theorem lookup_some_of_mem : ∀ {l : List (Str × Addr)} {n : Str} {c : Addr}, (n, c) ∈ l → ∃ c', l.lookup n = some c'
  | (k, v) :: r, n, c, h => by
    rw [List.lookup_cons]
    cases hb : n == k with
    | true => exact ⟨v, rfl⟩
    | false =>
      rcases List.mem_cons.mp h with e | h
      · cases e; simp at hb
      · exact lookup_some_of_mem h

theorem comp_cx (E₀ : EnvOk env sc) (X : CScope sc scope free) (Y : Clos cl env scope) (c : Cx prog w h₀ env ρ s as σ) (hn : h'.Ns C m) (hC : s.heap.get? C = none) (hk : Kept s.heap h') (tk : Tok) :
    Cx prog w h₀ (compEnvC scope cl C env) (restr free ρ) { s with heap := h', toks := tk } as σ := by
  refine el_AEE c fun S mm cm F => ?_; clear c
  have ne : ∀ b o, s.heap.get? b = some o → b ≠ C := fun b o e h => by rw [h, hC] at e; cases e
  refine ⟨S.kept hk, m, cm, hn, fun nm a ha => ?_, fun nm a ha => ?_, fun x v hx => ?_, fun l hl e => ?_, fun nm a ha => ?_, fun nm a ha => ?_, ?_, ?_, fun nm a ha => ?_⟩
  · refine el_EA (F.cell nm a (Y.mem _ (mem_of_lookup ha)).1) fun o ho hd => ?_
    exact ⟨o, hk _ _ ho, hd⟩
  · refine el_EEA (F.mem nm a (mem_of_lookup (Y.mem _ ha).1)) fun v o ho hd => ?_
    exact ⟨v, o, hk _ _ ho, hd⟩
  · unfold restr at hx
    split at hx
    case isFalse => cases hx
    rename_i hfx
    refine el_AEA (F.val x v hx) fun hl u r kk => ?_
    have hfree := has_lookup (X.free x hfx)
    have hmem := mem_of_lookup hfree
    refine el_AE (E₀.cel _ (X.fr _ hmem rfl)) fun hcell a ha => ?_
    refine el_E (Y.all _ hmem rfl) fun a' ha' => ?_
    refine el_E (lookup_some_of_mem ha') fun a'' ha'' => ?_
    refine ⟨hl, u, r.kept hk, .inr ⟨?_, ⟨a'', ha''⟩, ?_⟩⟩
    · rw [kindOf_comp, hfree]
      show some _ = _
      have hkd : env.scope.kind = .function := E₀.kind
      rw [hkd, hcell]
      rfl
    · rcases kk with ⟨k1, _⟩ | ⟨_, _, k3⟩
      · rw [hcell] at k1; cases k1
      · exact k3
  · refine el_EA (S.live l hl) fun ob _ r => ?_
    refine el_EA r.getSome fun o ho _ => ?_
    exact ne _ _ ho e
  · exact F.apC nm a (mem_of_lookup (Y.mem _ ha).1)
  · refine el_EEA (F.mem nm a (mem_of_lookup (Y.mem _ ha).1)) fun v o ho hd => ?_
    exact ne _ _ ho
  · have : ∀ {l : List (Str × Addr)}, (∀ p ∈ l, p ∈ cl) → (l.map (·.1)).Nodup → l.Pairwise fun x y => x.2 ≠ y.2 := by
      intro l
      induction l with
      | nil => intro _ _; exact .nil
      | cons x l ih =>
        intro hm hd
        rw [List.map_cons, List.nodup_cons] at hd
        refine List.pairwise_cons.mpr ⟨fun y hy e => hd.1 ?_, ih (fun p hp => hm p (List.mem_cons_of_mem _ hp)) hd.2⟩
        have h1 := mem_of_lookup (Y.mem x (hm x List.mem_cons_self)).1
        have h2 := mem_of_lookup (Y.mem y (hm y (List.mem_cons_of_mem _ hy))).1
        rw [← e] at h2
        rw [name_of_addr F.sep h1 h2]
        exact List.mem_map_of_mem hy
    exact this (fun p hp => hp) Y.nodup
  · cases e : h₀.get? C with
    | none => exact e
    | some o => rw [S.base _ _ e] at hC; cases hC
  · exact F.baseC nm a (mem_of_lookup (Y.mem _ ha).1)

/-! the loop -/
theorem compLoop_any {elt target iter : Expr} {ifs : List Expr} {pos : Pos} {it acc : Value} {cenv : Env} {R : Result → Shared → Prop} (I : Nat → Shared → Prop)
    (turn : ∀ n s, I n s → wpAny (model prog w) A (pyNext it) (fun r s₁ => match r with
      | none => R (.ok .next) s₁
      | some v => wpAny (model prog w) A (letOwnedTupleGo target it v) (fun _ s₁' => wpAny (model prog w) A (assign target cenv v) (fun _ s₂ =>
          wpAny (model prog w) A (forIn ifs true fun c r => if r = true then do let ok ← isTrue c cenv (eval c cenv); pure (ForInStep.yield ok) else pure (ForInStep.yield r)) (fun ok s₃ =>
            if ok = true then wpAny (model prog w) A (eval elt cenv) (fun x s₄ =>
              wpAny (model prog w) A (call (.builtin "list.append") [acc, x]) (fun _ s₅ => ∃ m, m < n ∧ I m s₅) NoE s₄) NoE s₃
            else ∃ m, m < n ∧ I m s₃) NoE s₂) NoE s₁') NoE s₁) NoE s)
    (n : Nat) (h : I n s) : codeAny (model prog w) A (.compLoop (.ListComp elt [⟨target, iter, ifs, 0⟩] scope pos) 0 it acc cenv) R s := by
  refine codeAny_loop rfl I (fun n s hI => ?_) n h
  show wpAny _ A ((compTurn (.ListComp elt [⟨target, iter, ifs, 0⟩] scope pos) 0 it acc cenv).onRaise (fun x => do noteFrame x cenv; theTreesLotGoes x)) _ _ s
  refine wpAny_noted ?_
  rw [compTurn_list]
  refine wpAny_bind (wpAny_standAt (wpAny_bind (wpAny_mono (turn n s hI) (fun r s₁ h₁ => ?_) fun _ _ h' => h'.elim)))
  cases r with
  | none => exact wpAny_pure h₁
  | some v =>
    refine wpAny_bind (wpAny_mono h₁ (fun _ s₁' h₁' => ?_) fun _ _ h' => h'.elim)
    refine wpAny_bind (wpAny_mono h₁' (fun _ s₂ h₂ => wpAny_bind (wpAny_mono h₂ (fun ok s₃ h₃ => ?_) fun _ _ h' => h'.elim)) fun _ _ h' => h'.elim)
    cases ok with
    | false => exact wpAny_pure ⟨rfl, h₃⟩
    | true =>
      exact wpAny_bind (wpAny_bind (wpAny_mono h₃ (fun x s₄ h₄ => wpAny_bind (wpAny_mono h₄ (fun _ s₅ h₅ => wpAny_pure (wpAny_pure ⟨rfl, h₅⟩)) fun _ _ h' => h'.elim)) fun _ _ h' => h'.elim))

theorem LInv.frameK {W : Addr → Prop} {wl : Option Nat} {items : List AV} {I : Addr} {fp wr wr' : List Addr} {ok : Expr → Prop} {R : Nat → Heap → Value → Prop} {Stt : Nat → Heap → Prop} {env' cenv : Env} {ρ₀ : En} {pt : Expr} {tk : Tok}
    (X : SrcAt prog w h₀ A env' ρ₀ s₀ as₀ σ₀ pt items wl σ₁ s₂ s₁ as₁ I fp wr ok R Stt) {i : Nat} (L : LInv prog w h₀ W cenv wl items fp Stt s₁ as₁ σ₁ i ρ s as σ) (sd : Side h₀ s.heap as σ.next wr' h') (hw : ∀ b ∈ wr', ¬ WF cenv b) (h1 : ∀ b ∈ wr', s₁.heap.get? b = none) (hf : ∀ b ∈ wr', b ∉ fp) :
    LInv prog w h₀ W cenv wl items fp Stt s₁ as₁ σ₁ i ρ { s with heap := h', toks := tk } as σ where
  le := L.le
  step := sd.step X.cx.1 L.step h1 tk
  cx := sd.cx hw L.cx tk
  st := X.turns.frame _ _ _ L.st fun b hb o e => sd.keep b o (fun hb' => hf b hb' hb) e
  ap := L.ap
  wl := L.wl
end
end Mine

/-! CompC -/
namespace Mine
open PySem PySem.W PyProof.Rows PySem.SeqAt

section
variable {prog : Program} {w : World} {h₀ h h' : Heap} {as as' as'' as₀ as₁ : Nat → Addr} {σ σ' σ'' σ₀ σ₁ σ₂ : St} {s s' s'' s₁ s₂ s₀ : Shared} {u u' : Value} {v v' v₁ v₂ r : AV} {A : Around} {n k N : Nat} {env : Env} {sc : Scope} {ρ ρ' ρ₁ : En} {mg mb : Str → Option Value} {fl : Fl}
variable {scope : Scope} {C D : Addr} {cl : List (Str × Addr)} {m cm : Str → Option Value} {free : List Nat} {vs : List AV}

theorem test_go (HT : TsS prog w h₀ n) (E₀ : EnvOk env sc) (c : Cx prog w h₀ env ρ s as σ) (hA : AOk A n) {cond : Option X} {pc : List Expr} {b : Bool} (m : mIf (mX k sc) cond pc = true) (e : tsto (ev n) cond ρ σ = some (b, σ₁)) {K : Bool → Shared → Prop}
    (hK : ∀ s₁ as₁, Step s as σ s₁ as₁ σ₁ → Cx prog w h₀ env ρ s₁ as₁ σ₁ → K b s₁) :
    wpAny (model prog w) A (forIn pc true fun c r => if r = true then do let ok ← isTrue c env (eval c env); pure (ForInStep.yield ok) else pure (ForInStep.yield r)) K NoE s := by
  cases cond with
  | none => cases pc with
    | cons _ _ => exact ff m
    | nil => cases e; exact wpAny_tests_nil (hK s as StepW.refl c)
  | some x => cases pc with
    | nil => exact ff m
    | cons p r => cases r with
      | cons _ _ => exact ff m
      | nil => exact wpAny_tests_one (HT.go E₀ c hA m e hK)

theorem compl_step {tg : Tg} {wl : Option Nat} {cc : En → St → Option (Bool × St)} {el : En → St → Option (AV × St)} {x : AV} {xs rest : List AV} (e : compl tg wl σ₁ cc el (x :: xs) ρ σ = some (rest, σ₂)) :
    ∃ ρ₁ b σ₃, bindT tg x ρ = some ρ₁ ∧ cc ρ₁ σ = some (b, σ₃) ∧
      ((b = true ∧ ∃ y σ₄ rest', el ρ₁ σ₃ = some (y, σ₄) ∧ chk wl σ₁ σ₄ = true ∧ compl tg wl σ₁ cc el xs ρ₁ σ₄ = some (rest', σ₂) ∧ rest = y :: rest') ∨
       (b = false ∧ chk wl σ₁ σ₃ = true ∧ compl tg wl σ₁ cc el xs ρ₁ σ₃ = some (rest, σ₂))) := by
  refine bind_elim e fun ρ₁ e₁ e => ?_
  refine bind2_elim e fun b σ₃ e₂ e => ?_
  refine ⟨ρ₁, b, σ₃, e₁, e₂, ?_⟩
  cases b with
  | true =>
    simp only [if_true] at e
    refine bind2_elim e fun y σ₄ e₃ e => ?_
    split at e
    case isFalse => cases e
    rename_i hc
    refine bind2_elim e fun rest' σ₅ e₄ e => ?_
    cases e
    exact .inl ⟨rfl, y, σ₄, rest', e₃, hc, e₄, rfl⟩
  | false =>
    simp only [Bool.false_eq_true, if_false] at e
    split at e
    case isFalse => cases e
    rename_i hc
    exact .inr ⟨rfl, hc, e⟩

theorem DInv.push (I : DInv D s as σ vs) (hB : h₀.get? D = none) (ru : Rep s.heap as σ.next u v) (hp : ∀ us : List Value, s.heap.PlainList D us.toArray → h'.PlainList D (us.toArray.push u)) (hs : Heap.SameBut D s.heap h') :
    Side h₀ s.heap as σ.next [D] h' ∧ DInv D { s with heap := h' } as σ (vs ++ [v]) := by
  refine el_EA I.list fun us p q => ?_
  have sd : Side h₀ s.heap as σ.next [D] h' := ⟨fun b hb => by obtain rfl := List.mem_singleton.mp hb; exact I.ap, fun b hb => by obtain rfl := List.mem_singleton.mp hb; exact hB, fun b hb vs t => by
    obtain rfl := List.mem_singleton.mp hb
    refine el_EA (PlainList.some p) fun o ho hc => ?_
    have := hc.symm.trans (t.cls ho); simp at this, fun b o hb e => (hs.2 b (fun h => hb (List.mem_singleton.mpr h))).trans e⟩
  refine ⟨sd, ⟨us ++ [u], ?_, ?_⟩, I.ap⟩
  · simpa using hp us p
  · exact (q.mono fun _ _ r => sd.rep r).append (.cons (sd.rep ru) .nil)

theorem e_comp (B : Base prog w h₀ mg mb) (H : EvS prog w h₀ n) (HT : TsS prog w h₀ n) (E₀ : EnvOk env sc) (c : Cx prog w h₀ env ρ s as σ) (hA : AOk A n) {el x : X} {tg : Tg} {cond : Option X} {pe pt pi : Expr} {pc : List Expr} {pos : Pos} (CS : CScope sc scope free)
    (mt : mTg scope tg pt = true) (en : enumOk tg x = true) (mi : mX k sc x pi = true) (mc : mIf (mX k scope) cond pc = true) (me : mX k scope el pe = true)
    (e : ((itemsOf (ev n ρ) x σ).bind fun p => (compl tg p.2.1 p.2.2 (tsto (ev n) cond) (fun ρ' => ev n ρ' el) p.1 (restr free ρ) p.2.2).bind fun q => newL q.1 q.2) = some (v, σ')) :
    wpAny (model prog w) A (eval (.ListComp pe [⟨pt, pi, pc, 0⟩] scope pos) env) (Post prog w h₀ s as σ v σ') NoE s := by
  refine bind3_elim e fun items wl σ₁ e₁ e => ?_
  refine bind2_elim e fun vs σ₂ e₂ e => ?_
  refine el_AA (newL_some e) fun hz hq11 hq12 => ?_; subst hq11; subst hq12
  dsimp only at hz e₂
  refine el_EAAA (closureFor_of (env := env) (scope := scope) (fun y hy hf => (E₀.cel _ (CS.fr y hy hf)).2) CS.nodup) fun cl hcl Y1 Y2 Y3 => ?_
  have Y : Clos cl env scope := ⟨Y1, Y2, Y3⟩
  rw [eval_ListComp]
  refine wpAny_comprehension_free (use := none) rfl (mX_fold mi) hcl CS.kind CS.loc (wpAny_mono (src_sound (pt := pt) B H E₀ c hA mi e₁ (tg_ok mt) (tg_tup mt en)) (fun xv s₁ h₁ => wpAny_mono h₁ (fun it s₂ h₂ => ?_) fun _ _ z => z) fun _ _ z => z)
  clear h₁
  refine el_EEEEEEE h₂ fun s₁ as₁ I fp wr ok R hq14 => ?_; clear h₂; refine el_EA hq14 fun Stt hq13 X => ?_; clear hq14; subst hq13
  refine wpAny_newObj_type (wpAny_newFunctionEnv CS.nocell (by intro y hy; simp at hy) (fun h₁ hns₁ hsb₁ => ?_) CS.kind)
  dsimp only at hns₁ hsb₁ ⊢
  generalize hH2 : s₂.heap.push { cls := .type "list", dict := none, data := .seq ([] : List Value).toArray } = H2 at hns₁ hsb₁ ⊢
  have hC : H2.objs.size = s₂.heap.objs.size + 1 := by rw [← hH2, Heap.size_push]
  obtain ⟨C, hCC⟩ : ∃ C : Nat, H2.objs.size = C := ⟨_, rfl⟩
  obtain ⟨D, hDD⟩ : ∃ D : Nat, s₂.heap.objs.size = D := ⟨_, rfl⟩
  rw [hCC] at hns₁ hsb₁ hC ⊢
  rw [hDD] at hC ⊢
  have hDC : D ≠ C := by omega
  have h2D : ∀ (b : Nat) o, s₂.heap.get? b = some o → b < D := fun b o e => by have := Heap.lt_size e; rw [hDD] at this; exact this
  have h2C : ∀ (b : Nat) o, s₂.heap.get? b = some o → b < C := fun b o e => by have := h2D b o e; lia
  have kept₂ : Kept s₂.heap h₁ := fun b o e => hsb₁.extBut b o (Nat.ne_of_lt (h2C b o e)) (Heap.get?_push_of_some _ (hH2 ▸ Heap.get?_push_of_some _ e))
  have kept₁ : Kept s₁.heap h₁ := X.kept.trans kept₂
  have f2 : ∀ b : Nat, D ≤ b → s₁.heap.get? b = none := fun b hb => by
    cases hq : s₁.heap.get? b with
    | none => rfl
    | some o => exact absurd (h2D _ _ (X.kept _ _ hq)) (Nat.not_lt.mpr hb)
  have hD1 : s₁.heap.get? D = none := f2 D (by lia)
  have hC1 : s₁.heap.get? C = none := f2 C (by omega)
  have fpl : ∀ b : Nat, b ∈ fp → b < D := fun b hb => by refine el_E (X.turns.live _ _ X.start b hb) fun o ho => ?_; exact h2D _ _ ho
  have hDf : D ∉ fp := fun hm => by have := fpl _ hm; lia
  have hCf : C ∉ fp := fun hm => by have := fpl _ hm; omega
  have hbig : (D == sysModules) = false := by
    refine el_E X.cx.1.low fun o ho => ?_
    have h2 : (2 : Nat) < D := by have := Heap.lt_size (X.kept _ _ (X.cx.1.base _ _ ho)); rw [hDD] at this; exact this
    exact beq_eq_false_iff_ne.mpr (fun e => by subst e; exact absurd h2 (by decide))
  have hbD : h₀.get? D = none := by
    cases hq : h₀.get? D with
    | none => rfl
    | some o => rw [X.cx.1.base _ _ hq] at hD1; cases hD1
  have hbC : h₀.get? C = none := by
    cases hq : h₀.get? C with
    | none => rfl
    | some o => rw [X.cx.1.base _ _ hq] at hC1; cases hC1
  have haccH : H2.get? D = some { cls := .type "list", dict := none, data := .seq ([] : List Value).toArray } := by rw [← hH2, ← hDD]; exact Heap.get?_push_size _ rfl
  have hacc : h₁.PlainList D #[] := ⟨_, hsb₁.extBut _ _ hDC (Heap.get?_push_of_some _ haccH)⟩
  generalize htk : s₂.toks + ([] : List (Str × Value)).length = tk₄
  refine el_E X.same fun tk hs => ?_
  have hs4 : ({ s₂ with heap := h₁, toks := tk₄ } : Shared) = { s₁ with heap := h₁, toks := tk₄ } := by rw [hs]
  rw [hs4]
  have E₁ : EnvOk (compEnvC scope cl C env) scope := comp_env E₀ CS
  have cx₁ := comp_cx E₀ CS Y X.cx hns₁ hC1 kept₁ tk₄
  have hw : ∀ b ∈ wr, ¬ WF (compEnvC scope cl C env) b := by
    rintro b hb (rfl | ⟨nm, hm⟩)
    · exact hCf (X.turns.sub _ hb)
    · refine el_E (oldW_of X.cx b (.inr ⟨nm, mem_of_lookup (Y.mem _ hm).1⟩)) fun o ho => ?_
      rw [X.wr b hb] at ho; cases ho
  have hW : ∀ b ∈ fp, s₁.heap.get? b = none → ¬ LF (compEnvC scope cl C env) b := fun b hb _ h => hCf (by rw [show b = C from h] at hb; exact hb)
  have hWt : ∀ b, LF (compEnvC scope cl C env) b → ∀ vs, ¬ TupAt s₁.heap b vs := fun b hb vs t => by
    refine el_E t fun _ e' => ?_; clear t
    rw [show b = C from hb, hC1] at e'; cases e'
  have hWD : ¬ LF (compEnvC scope cl C env) D := hDC
  have asne : ∀ b, s₁.heap.get? b = none → ∀ l, l < σ₁.next → as₁ l ≠ b := fun b hn l hl e => by
    refine el_EA (X.cx.1.live l hl) fun ob _ r => ?_
    refine el_EA r.getSome fun o ho _ => ?_
    rw [e, hn] at ho; cases ho
  have L₀ : LInv prog w h₀ (LF (compEnvC scope cl C env)) (compEnvC scope cl C env) wl items fp Stt s₁ as₁ σ₁ 0 (restr free ρ) { s₁ with heap := h₁, toks := tk₄ } as₁ σ₁ :=
    ⟨Nat.zero_le _, StepW.kept X.cx.1 kept₁ tk₄, cx₁, X.turns.frame _ _ _ X.start fun b _ o e => kept₂ b o e, fun b hb hn => asne b hn, fun _ _ => rfl⟩
  have D₀ : DInv D { s₁ with heap := h₁, toks := tk₄ } as₁ σ₁ [] := ⟨⟨[], hacc, .nil⟩, asne D hD1⟩
  have wtup : ∀ {ρ₁ : En} {s₅ : Shared} {as₅ σ₅}, Cx prog w h₀ (compEnvC scope cl C env) ρ₁ s₅ as₅ σ₅ → ∀ b, LF (compEnvC scope cl C env) b → ∀ vs, ¬ TupAt s₅.heap b vs := fun c₅ b hb => wf_noTup c₅ b (.inl hb)
  have loop : codeAny (model prog w) A (.compLoop (.ListComp pe [⟨pt, pi, pc, 0⟩] scope pos) 0 (.ref I) (.ref D) (compEnvC scope cl C env)) (compPost (model prog w) A NoE none (Post prog w h₀ s as σ (.loc σ₂.next) (σ₂.alloc (.list vs))) (.ref D) C)
      { s₁ with heap := h₁, toks := tk₄ } := by
    obtain ⟨INV, mk, un⟩ : ∃ INV : Nat → Shared → Prop, (∀ {i as' τ ρ₁ vs₁ rest s'}, LInv prog w h₀ (LF (compEnvC scope cl C env)) (compEnvC scope cl C env) wl items fp Stt s₁ as₁ σ₁ i ρ₁ s' as' τ → DInv D s' as' τ vs₁ → compl tg wl σ₁ (tsto (ev n) cond) (fun ρ' => ev n ρ' el) (items.drop i) ρ₁ τ = some (rest, σ₂) → vs₁ ++ rest = vs → INV (items.length - i) s') ∧
        ∀ {m s'} {P : Prop}, INV m s' → (∀ i as' τ ρ₁ vs₁ rest, m = items.length - i → LInv prog w h₀ (LF (compEnvC scope cl C env)) (compEnvC scope cl C env) wl items fp Stt s₁ as₁ σ₁ i ρ₁ s' as' τ → DInv D s' as' τ vs₁ → compl tg wl σ₁ (tsto (ev n) cond) (fun ρ' => ev n ρ' el) (items.drop i) ρ₁ τ = some (rest, σ₂) → vs₁ ++ rest = vs → P) → P :=
      ⟨fun m s' => ∃ i as' τ ρ₁ vs₁ rest, m = items.length - i ∧ LInv prog w h₀ (LF (compEnvC scope cl C env)) (compEnvC scope cl C env) wl items fp Stt s₁ as₁ σ₁ i ρ₁ s' as' τ ∧ DInv D s' as' τ vs₁ ∧ compl tg wl σ₁ (tsto (ev n) cond) (fun ρ' => ev n ρ' el) (items.drop i) ρ₁ τ = some (rest, σ₂) ∧ vs₁ ++ rest = vs, fun L DI e h => ⟨_, _, _, _, _, _, rfl, L, DI, e, h⟩, fun ⟨i, as', τ, ρ₁, vs₁, rest, h, L, DI, e, h'⟩ k => k i as' τ ρ₁ vs₁ rest h L DI e h'⟩
    refine compLoop_any INV ?_ items.length (mk (i := 0) L₀ D₀ e₂ rfl)
    intro m s' hI
    refine un hI fun i as' τ ρ₁ vs₁ rest hm L DI el' hvs => ?_
    clear hI
    subst hm
    rcases Nat.lt_or_ge i items.length with hi | hi
    · have hx : items[i]? = some items[i] := by simp [hi]
      rw [List.drop_eq_getElem_cons hi] at el'
      refine el_EEEAA (compl_step el') fun ρ₂ b σ₃ eb ec ed => ?_
      refine wpAny_mono (L.next2 X hw hWt hx (E := NoE) (K := fun v s₃ => wpAny (model prog w) A (assign pt (compEnvC scope cl C env) v) (fun _ s₂ =>
          wpAny (model prog w) A (forIn pc true fun c r => if r = true then do let ok ← isTrue c (compEnvC scope cl C env) (eval c (compEnvC scope cl C env)); pure (ForInStep.yield ok) else pure (ForInStep.yield r)) (fun ok s₃ =>
            if ok = true then wpAny (model prog w) A (eval pe (compEnvC scope cl C env)) (fun x s₄ =>
              wpAny (model prog w) A (call (.builtin "list.append") [.ref D, x]) (fun _ s₅ => ∃ m, m < items.length - i ∧ INV m s₅) NoE s₄) NoE s₃
            else ∃ m, m < items.length - i ∧ INV m s₃) NoE s₂) NoE s₃) fun v h₃ tk₃ sd₃ L₃ Rv => ?_) (fun r s₃ hr => ?_) fun _ _ z => z
      rotate_left
      · obtain ⟨v, rfl, hr⟩ := hr
        exact hr
      have DI₃ := DI.side (tk := tk₃) sd₃ (fun hm => hDf (X.turns.sub _ hm))
      refine wpAny_mono (tgt_sound E₁ hA.hd mt eb Rv L₃.cx) (fun _ s₄ hp => ?_) fun _ _ z => z
      refine el_A hp fun T₄ c₄ => ?_; clear hp
      have L₄ := L₃.move X hW T₄ c₄ L₃.wl
      have DI₄ := DI₃.move hWD (wtup L₃.cx) L₃.cx.1 T₄
      refine test_go HT E₁ c₄ hA mc ec fun s₅ as₅ T₅ c₅ => ?_
      have T₅' : StepW (LF (compEnvC scope cl C env)) s₄ as' τ s₅ as₅ σ₃ := T₅.weak c₅.1
      have DI₅ := DI₄.move hWD (wtup c₄) c₄.1 T₅'
      rcases ed with ⟨rfl, y, σ₄, rest', ee, hck, erest, rfl⟩ | ⟨rfl, hck, erest⟩
      · simp only [if_true]
        refine H.go E₁ c₅ hA me ee fun u s₆ as₆ T₆ c₆ R₆ => ?_
        have T₆' : StepW (LF (compEnvC scope cl C env)) s₅ as₅ σ₃ s₆ as₆ σ₄ := T₆.weak c₆.1
        have L₆ := L₄.move X hW (T₅'.trans c₄.1 c₅.1 T₆') c₆ (chk_wl hck)
        have DI₆ := DI₅.move hWD (wtup c₅) c₅.1 T₆'
        refine el_EA DI₆.list fun us hpl hq => ?_
        have hlen : us.toArray.size ≤ sizeLine := by
          have h1 := hq.length
          have h2 : vs₁.length ≤ vs.length := by rw [← hvs]; simp
          simp only [List.size_toArray]
          exact Nat.le_trans (by lia) (Nat.le_trans hz lim_size)
        refine wpAny_list_append_plain hpl (fun h' hp' hs' => ?_) hlen
        obtain ⟨sd, DI₇⟩ := DI₆.push (h' := h') hbD R₆ (fun us' p' => by
          refine el_E hpl fun n₁ e₁ => ?_; clear hpl
          refine el_E p' fun n₂ e₂ => ?_; clear p'
          rw [e₁] at e₂
          have : us = us' := (by simpa using (Obj.mk.inj (Option.some.inj e₂)).2.2.1 : us = us' ∧ n₁ = n₂).1
          subst this
          exact hp') hs'
        refine ⟨items.length - (i + 1), by omega, mk (i := i + 1) (vs₁ := vs₁ ++ [y]) ?_ DI₇ erest (by rw [← hvs]; simp)⟩
        refine LInv.frameK (tk := s₆.toks) X L₆ sd (fun b hb => ?_) (fun b hb => ?_) (fun b hb => ?_)
        · obtain rfl := List.mem_singleton.mp hb
          rintro (h | ⟨nm, hm⟩)
          · exact hDC h
          · refine el_E (oldW_of X.cx b (.inr ⟨nm, mem_of_lookup (Y.mem _ hm).1⟩)) fun o ho => ?_
            rw [hD1] at ho; cases ho
        · obtain rfl := List.mem_singleton.mp hb
          exact hD1
        · obtain rfl := List.mem_singleton.mp hb
          exact hDf
      · simp only [Bool.false_eq_true, if_false]
        exact ⟨items.length - (i + 1), by omega, mk (L₄.move X hW T₅' c₅ (chk_wl hck)) DI₅ erest hvs⟩
    · refine L.last X hw hi fun h' tk' sd T' c' => ?_
      have hnil : items.drop i = [] := List.drop_eq_nil_of_le hi
      rw [hnil] at el'
      cases el'
      rw [List.append_nil] at hvs
      subst hvs
      have hDw : D ∉ wr := fun hm => hDf (X.turns.sub _ hm)
      have DI' := DI.side (tk := tk') sd hDw
      refine el_AEE c' fun S' mm cm' F' => ?_; clear c'
      refine ⟨mm, F'.ns, fun h'' hs'' => ?_⟩
      have sd2 : Side h₀ h' as' σ₂.next [C] h'' := ⟨fun b hb => by obtain rfl := List.mem_singleton.mp hb; exact F'.apL, fun b hb => by obtain rfl := List.mem_singleton.mp hb; exact hbC,
        fun b hb vs t => by obtain rfl := List.mem_singleton.mp hb; exact F'.notTup t (.inl rfl), fun b o hb e => (hs''.2 b (fun h => hb (List.mem_singleton.mpr h))).trans e⟩
      have T'' := Side.step (s := { s' with heap := h', toks := tk' }) sd2 X.cx.1 T' (fun b hb => by obtain rfl := List.mem_singleton.mp hb; exact hC1) tk'
      have S'' : SRel prog w h₀ h'' as' σ₂ := sd2.srel S'
      have DI'' := DInv.side (s := { s' with heap := h', toks := tk' }) (tk := tk') DI' sd2 (by simpa using hDC)
      have TN := T''.narrow (fun b hb => by rw [show b = C from hb]; exact hC1)
      exact Post.trans c.1 X.step X.cx.1 (adopt X.cx.1 TN S'' hD1 hbig DI'' hz)
  exact codeAny_compStart_list loop (X.turns.self 0 _ _ _ L₀.st loop)
end
end Mine

/-! Call -/
namespace Mine
open PySem PySem.W PyProof.Rows PySem.SeqAt

theorem fmap_congr {α β : Type} {f g : α → Option β} : ∀ {l : List α}, (∀ x ∈ l, f x = g x) → l.filterMap f = l.filterMap g
  | [], _ => rfl
  | x :: l, h => by
    rw [List.filterMap_cons, List.filterMap_cons, h x List.mem_cons_self, fmap_congr fun y hy => h y (List.mem_cons_of_mem _ hy)]
theorem zip_lookup : ∀ {ns : List Str} {vs : List Value}, ns.Nodup → vs.length = ns.length → (∀ n ∈ ns, ((ns.zip vs).lookup n).isSome = true) ∧ (ns.filterMap fun n => ((ns.zip vs).lookup n).map (n, ·)) = ns.zip vs
  | [], [], _, _ => ⟨fun _ h => (nomatch h), rfl⟩
  | [], _ :: _, _, h => by simp at h
  | _ :: _, [], _, h => by simp at h
  | n :: ns, v :: vs, hn, hl => by
    refine el_A (List.nodup_cons.mp hn) fun h1 h2 => ?_
    refine el_A (zip_lookup h2 (vs := vs) (by simpa using hl)) fun a b => ?_
    refine ⟨fun m hm => ?_, ?_⟩
    · rw [List.zip_cons_cons, List.lookup_cons]
      cases hb : m == n with
      | true => rfl
      | false =>
        rcases List.mem_cons.mp hm with rfl | hm
        · simp at hb
        · exact a m hm
    · rw [List.zip_cons_cons, List.filterMap_cons]
      have e0 : ((n, v) :: ns.zip vs).lookup n = some v := by rw [List.lookup_cons]; simp
      rw [e0]
      show (n, v) :: _ = _
      refine congrArg _ (Eq.trans ?_ b)
      refine fmap_congr fun m hm => ?_
      rw [List.lookup_cons]
      have : (m == n) = false := by simpa using fun (e : m = n) => h1 (e ▸ hm)
      rw [this]

theorem nil_bind {α β γ : Type} (b : β) (f : α → β → Sem (ForInStep β)) (k : β → Sem γ) : (forIn ([] : List α) b f >>= k) = k b := rfl
theorem none_bind {γ : Type} (k : Option (Array Value) → Sem γ) : (seqItems? .none >>= k) = k none := rfl
theorem zip_bind {α β γ δ : Type} (l : List α) (n : Nat) (b : δ) (f : α × β → δ → Sem (ForInStep δ)) (k : δ → Sem γ) : (forIn (l.zip (List.drop n ([] : List β))) b f >>= k) = k b := by
  rw [List.drop_nil, List.zip_nil_right]; rfl
theorem bind_plain {name : Str} {params : Arguments} {body : List Stmt} {scope : Scope} {pm cd doc : Value} {vals : List Value} (h1 : params.posonlyargs = []) (h2 : params.vararg = none) (h3 : params.kwonlyargs = []) (h4 : params.kwarg = none)
    (hn : (params.args.map (·.arg)).Nodup) (hl : vals.length = (params.args.map (·.arg)).length) :
    bindArgs (Calls.docDef name params body scope pm cd doc) ⟨vals, []⟩ = pure ((params.args.map (·.arg)).zip vals) := by
  obtain ⟨po, as, va, ko, kd, kw, df⟩ := params
  dsimp only at h1 h2 h3 h4 hn hl
  subst h1; subst h2; subst h3; subst h4
  refine el_A (zip_lookup hn hl) fun ha hb => ?_
  have c1 : ¬ ((decide (vals.length > (as.map (·.arg)).length) && true) = true) := by rw [hl]; simp
  have c2 : ¬ ((!(((as.map (·.arg)).take ((as.map (·.arg)).length - (List.drop (([] : List Value).length - (as.map (·.arg)).length) ([] : List Value)).length)).filter (fun n => (((as.map (·.arg)).zip vals).lookup n).isNone)).isEmpty) = true) := by
    rw [List.drop_nil, List.length_nil, Nat.sub_zero, List.take_length]
    have : (as.map (·.arg)).filter (fun n => (((as.map (·.arg)).zip vals).lookup n).isNone) = [] := List.filter_eq_nil_iff.mpr fun n hn' h => by
      rw [Option.isNone_iff_eq_none] at h
      have := ha n hn'
      rw [h] at this; cases this
    rw [this]; decide
  unfold bindArgs
  refine (nil_bind _ _ _).trans ?_
  refine (none_bind _).trans ?_
  refine (if_neg c1).trans ?_
  refine (if_neg c2).trans ?_
  refine (zip_bind _ _ _ _ _).trans ?_
  refine (nil_bind _ _ _).trans ?_
  show pure (List.filterMap (fun n => (((as.map (·.arg)).zip vals).lookup n).map (n, ·)) ((as.map (·.arg)) ++ [])) = _
  rw [List.append_nil, hb]

/-! a callee's frame -/
theorem cellsFrom_mem : ∀ {names : List (Str × NameKind)} {n : Nat} {acc : List (Str × Addr)} {p : Str × Addr}, p ∈ cellsFrom n names acc → p ∈ acc ∨ (p.1, NameKind.cell) ∈ names
  | [], _, _, _, h => .inl h
  | (x, k) :: r, n, acc, p, h => by
    unfold cellsFrom at h
    split at h
    · rename_i hk
      have : k = .cell := by simpa using hk
      subst this
      rcases cellsFrom_mem h with h | h
      · rcases List.mem_cons.mp h with rfl | h
        · exact .inr List.mem_cons_self
        · exact .inl h
      · exact .inr (List.mem_cons_of_mem _ h)
    · rcases cellsFrom_mem h with h | h
      · exact .inl h
      · exact .inr (List.mem_cons_of_mem _ h)
theorem cellsFrom_acc : ∀ {names : List (Str × NameKind)} {n : Nat} {acc : List (Str × Addr)} {p : Str × Addr}, p ∈ acc → p ∈ cellsFrom n names acc
  | [], _, _, _, h => h
  | (x, k) :: r, n, acc, p, h => by
    unfold cellsFrom
    split
    · exact cellsFrom_acc (List.mem_cons_of_mem _ h)
    · exact cellsFrom_acc h
theorem cellsFrom_has : ∀ {names : List (Str × NameKind)} {n : Nat} {acc : List (Str × Addr)} {x : Str}, (x, NameKind.cell) ∈ names → ∃ c, (x, c) ∈ cellsFrom n names acc
  | [], _, _, _, h => nomatch h
  | (y, k) :: r, n, acc, x, h => by
    unfold cellsFrom
    rcases List.mem_cons.mp h with e | h
    · cases e
      simp only [beq_self_eq_true, if_true]
      exact ⟨n, cellsFrom_acc List.mem_cons_self⟩
    · split
      · exact cellsFrom_has h
      · exact cellsFrom_has h
theorem cellsFrom_nodup : ∀ {names : List (Str × NameKind)} {n : Nat} {acc : List (Str × Addr)}, (acc.map (·.1)).Nodup → (∀ y ∈ names, y.1 ∉ acc.map (·.1)) → (names.map (·.1)).Nodup → ((cellsFrom n names acc).map (·.1)).Nodup
  | [], _, _, h, _, _ => h
  | (x, k) :: r, n, acc, h1, h2, h3 => by
    rw [List.map_cons, List.nodup_cons] at h3
    unfold cellsFrom
    split
    · refine cellsFrom_nodup ?_ (fun y hy hm => ?_) h3.2
      · rw [List.map_cons, List.nodup_cons]
        exact ⟨h2 (x, k) List.mem_cons_self, h1⟩
      · rw [List.map_cons, List.mem_cons] at hm
        rcases hm with hm | hm
        · exact h3.1 (by rw [show (x, k).1 = y.1 from hm.symm]; exact List.mem_map_of_mem hy)
        · exact h2 y (List.mem_cons_of_mem _ hy) hm
    · exact cellsFrom_nodup h1 (fun y hy => h2 y (List.mem_cons_of_mem _ hy)) h3.2
theorem lookup_of_mem : ∀ {l : List (Str × Addr)} {n : Str} {c : Addr}, (l.map (·.1)).Nodup → (n, c) ∈ l → l.lookup n = some c
  | (k, v) :: r, n, c, hn, h => by
    rw [List.map_cons, List.nodup_cons] at hn
    rw [List.lookup_cons]
    rcases List.mem_cons.mp h with e | h
    · cases e; simp
    · cases hb : n == k with
      | true => exact absurd (List.mem_map_of_mem (f := (·.1)) h) (by rw [beq_iff_eq.mp hb]; exact hn.1)
      | false => exact lookup_of_mem hn.2 h

structure FnOk (d : Fn) (params : Arguments) (body : List Stmt) (scope : Scope) : Prop where
  pos : params.posonlyargs = []
  vararg : params.vararg = none
  kwonly : params.kwonlyargs = []
  kwarg : params.kwarg = none
  names : params.args.map (·.arg) = d.ps.map vn
  kind : scope.kind = .function
  gen : scope.isGenerator = false
  cor : scope.isCoroutine = false
  ps : ∀ x ∈ d.ps, okv x = true ∧ (has scope (vn x) .local || has scope (vn x) .cell) = true
  nodup : d.ps.Nodup
  nd : (scope.names.map (·.1)).Nodup
  body : mYs (mY mFuel scope) d.body body = true
theorem fn_ok {d : Fn} {params : Arguments} {body : List Stmt} {scope : Scope} (h : mFn d params body scope = true) : FnOk d params body scope := by
  simp only [mFn, Bool.and_eq_true, decide_eq_true_eq, List.all_eq_true, beq_iff_eq, List.isEmpty_iff, Option.isNone_iff_eq_none, Bool.not_eq_eq_eq_not, Bool.not_true] at h
  refine el_A h fun hq1 h15 => ?_; clear h; refine el_A hq1 fun hq5 h14 => ?_; obtain ⟨⟨⟨⟨⟨⟨⟨⟨⟨⟨⟨⟨h1, h2⟩, h3⟩, h4⟩, h5⟩, h6⟩, h7⟩, h8⟩, h9⟩, h10⟩, h11⟩, h12⟩, h13⟩ := hq5
  exact ⟨h1, h2, h3, h5, h7, h8, h9, h10, h11, h12, h14, h15⟩

noncomputable def FVal (h : Heap) (as : Nat → Addr) (N : Nat) (env : Env) (ρ : En) (m cm : Str → Option Value) : Prop := ∀ x v, ρ x = some v → x < vnames.length ∧ ∃ u, Rep h as N u v ∧
    ((env.kindOf (vn x) = some .local ∧ m (vn x) = some u) ∨ (env.kindOf (vn x) = some .cell ∧ (∃ c, env.cells.lookup (vn x) = some c) ∧ cm (vn x) = some u))

section
variable {prog : Program} {w : World} {h₀ h h' : Heap} {as as' as'' as₀ as₁ : Nat → Addr} {σ σ' σ'' σ₀ σ₁ σ₂ : St} {s s' s'' s₁ s₂ s₀ : Shared} {u u' : Value} {v v' v₁ v₂ r : AV} {A : Around} {n k N : Nat} {env : Env} {sc : Scope} {ρ ρ' ρ₁ : En} {mg mb : Str → Option Value} {fl : Fl}

theorem binds_val (E₀ : EnvOk env sc) (xs : List Nat) : ∀ {us : List Value} {vs : List AV} {ρ ρ₁ : En} {m cm : Str → Option Value}, (∀ x ∈ xs, okv x = true ∧ (has sc (vn x) .local || has sc (vn x) .cell) = true) → bindP xs vs ρ = some ρ₁ → All2 (Rep h as N) us vs →
    FVal h as N env ρ m cm → FVal h as N env ρ₁ (bindL env.kindOf ((xs.map vn).zip us) m) (bindC env.kindOf ((xs.map vn).zip us) cm) := by
  induction xs with
  | nil =>
    intro us vs ρ ρ₁ m cm ok b q F
    cases q with
    | cons _ _ => simp [bindP] at b
    | nil => cases b; exact F
  | cons x xs ih =>
    intro us vs ρ ρ₁ m cm ok b q F
    cases q with
    | nil => simp [bindP] at b
    | cons hu q =>
    rename_i u v us vs
    have b' : bindP xs vs (upd ρ x (some v)) = some ρ₁ := b
    refine el_A (ok x List.mem_cons_self) fun hx hk => ?_
    have hxl : x < vnames.length := of_decide_eq_true hx
    rw [List.map_cons, List.zip_cons_cons]
    unfold bindL bindC
    refine ih (fun y hy => ok y (List.mem_cons_of_mem _ hy)) b' q fun y v' hy => ?_
    rw [Bool.or_eq_true] at hk
    have split : (env.kindOf (vn x) = some .local) ∨ (env.kindOf (vn x) = some .cell ∧ ∃ c, env.cells.lookup (vn x) = some c) := by
      rcases hk with hk | hk
      · exact .inl (E₀.loc _ hk)
      · exact .inr (E₀.cel _ hk)
    by_cases hyx : y = x
    · subst hyx
      rw [upd_eq] at hy; cases hy
      refine ⟨hxl, u, hu, ?_⟩
      rcases split with hl | ⟨hc, hcc⟩
      · left; rw [if_pos hl]; exact ⟨hl, if_pos rfl⟩
      · have hnl : ¬ env.kindOf (vn y) = some .local := by rw [hc]; decide
        right; rw [if_neg hnl]; exact ⟨hc, hcc, if_pos rfl⟩
    · rw [upd_ne _ _ hyx] at hy
      refine el_AEA (F y v' hy) fun hyl u' r' k => ?_
      have hne := vn_ne hxl hyl hyx
      refine ⟨hyl, u', r', ?_⟩
      rcases k with ⟨k1, k2⟩ | ⟨k1, k2, k3⟩
      · left
        refine ⟨k1, ?_⟩
        rcases split with hl | ⟨hc, hcc⟩
        · rw [if_pos hl]; simp only [if_neg hne]; exact k2
        · have hnl : ¬ env.kindOf (vn x) = some .local := by rw [hc]; decide
          rw [if_neg hnl]; exact k2
      · right
        refine ⟨k1, k2, ?_⟩
        rcases split with hl | ⟨hc, hcc⟩
        · rw [if_pos hl]; exact k3
        · have hnl : ¬ env.kindOf (vn x) = some .local := by rw [hc]; decide
          rw [if_neg hnl]; simp only [if_neg hne]; exact k3

theorem bindP_len : ∀ {xs : List Nat} {l : List AV} {ρ ρ₁ : En}, bindP xs l ρ = some ρ₁ → xs.length = l.length
  | [], [], _, _, _ => rfl
  | [], _ :: _, _, _, e => by simp [bindP] at e
  | _ :: _, [], _, _, e => by simp [bindP] at e
  | _ :: _, _ :: _, _, _, e => by simp only [bindP] at e; simp [bindP_len e]

theorem fn_debug {f : Nat} {d : Fn} (h : fns[f]? = some d) : (fnm f == ("__debug__" : Str)) = false := by
  have hf : f < 19 := by have := (List.getElem?_eq_some_iff.mp h).1; exact Nat.lt_of_lt_of_le this (by decide +kernel)
  have : ((List.range 19).all fun f => !(fnm f == ("__debug__" : Str))) = true := by decide +kernel
  simpa using List.all_eq_true.mp this f (List.mem_range.mpr hf)

theorem nodup_vn : ∀ {ps : List Nat}, ps.Nodup → (∀ x ∈ ps, okv x = true) → (ps.map vn).Nodup
  | [], _, _ => List.nodup_nil
  | x :: ps, h, ok => by
    refine el_A (List.nodup_cons.mp h) fun h1 h2 => ?_
    rw [List.map_cons, List.nodup_cons]
    refine ⟨fun hm => ?_, nodup_vn h2 fun y hy => ok y (List.mem_cons_of_mem _ hy)⟩
    refine el_EA (List.mem_map.mp hm) fun y hy e => ?_
    have := names_inj y x (of_decide_eq_true (ok y (List.mem_cons_of_mem _ hy))) (of_decide_eq_true (ok x List.mem_cons_self)) e
    exact h1 (this ▸ hy)

theorem call_env {fd : FuncData} {L a : Addr} (hk : fd.scope.kind = .function) (hg : fd.globals = mainGlobals) (hb : fd.builtins = builtinsNs) : EnvOk (callEnvC fd L a) fd.scope where
  kind := hk
  globals := hg
  builtins := hb
  imp := fun id h => has_lookup h
  loc := fun id h => has_lookup h
  cel := fun id h => ⟨has_lookup h, by
    refine el_E (cellsFrom_has (n := L + 1) (acc := []) (mem_of_lookup (has_lookup h))) fun c hc => ?_
    exact lookup_some_of_mem hc⟩

noncomputable def flV : Fl → AV
  | .ret v => v
  | .next => .none
/-- the body of a def, its parameters bound -/
theorem body_sound (HX : ExS prog w h₀ n) {env : Env} {d : Fn} {params : Arguments} {body : List Stmt} {us : List Value} {vs : List AV} (X : FnOk d params body sc) (E₀ : EnvOk env sc) (hA : AOk A n) (S : SRel prog w h₀ s.heap as σ) (Y : InCallC s env.locals (bindL env.kindOf ((d.ps.map vn).zip us) fun _ => none) env.cells (bindC env.kindOf ((d.ps.map vn).zip us) fun _ => none) s₁)
    (hL : env.locals = s.heap.objs.size) (hcn : (env.cells.map (·.1)).Nodup) (q : All2 (Rep s.heap as σ.next) us vs) (b : bindP d.ps vs noEn = some ρ₁) (e : exs (ex n) d.body ρ₁ σ = some (fl, ρ', σ')) :
    wpAny (model prog w) A (execs body env) (fun f s' => Post prog w h₀ s as σ (flV fl) σ' (match f with | .ret v => v | _ => .none) s') NoE s₁ := by
  refine el_EEA Y.done fun h₁ tk hq2 hk => ?_; subst hq2
  have hk : Kept s.heap h₁ := hk
  have fresh : ∀ b : Nat, s.heap.objs.size ≤ b → s.heap.get? b = none := fun b hb => fresh_none hb
  have h0 : ∀ b : Nat, s.heap.objs.size ≤ b → h₀.get? b = none := fun b hb => by
    cases hq : h₀.get? b with
    | none => rfl
    | some o => have := fresh b hb; rw [S.base b o hq] at this; cases this
  have lo : ∀ l, l < σ.next → (as l : Nat) < s.heap.objs.size := fun l hl => by
    refine el_EA (S.live l hl) fun ob _ r => ?_
    refine el_EA r.getSome fun o ho _ => ?_
    exact Heap.lt_size ho
  have hi : ∀ nm (c : Nat), (nm, c) ∈ env.cells → s.heap.objs.size < c := fun nm c hm => by
    have := Y.above nm c hm
    rw [hL] at this; exact this
  have S₁ : SRel prog w h₀ h₁ as σ := S.kept hk
  have c₁ : Cx prog w h₀ env ρ₁ { s with heap := h₁, toks := tk } as σ := by
    refine ⟨S₁, _, _, Y.toInCall.ns, Y.cell, fun nm c hm => ⟨_, Y.cell nm c (lookup_of_mem hcn hm)⟩, ?_, fun l hl e => ?_, fun nm c hm l hl e => ?_, fun nm c hm e => ?_, Y.apart, ?_, fun nm c hm => ?_⟩
    · exact binds_val E₀ d.ps X.ps b (q.mono fun _ _ r => r.kept hk) fun x v hx => by cases hx
    · exact absurd (lo l hl) (by rw [e, hL]; exact Nat.lt_irrefl _)
    · exact absurd (lo l hl) (by rw [e]; exact Nat.not_lt.mpr (Nat.le_of_lt (hi nm c hm)))
    · exact absurd (hi nm c hm) (by rw [e, hL]; exact Nat.lt_irrefl _)
    · rw [hL]; exact h0 _ (Nat.le_refl _)
    · exact h0 _ (Nat.le_of_lt (hi nm c hm))
  refine wpAny_mono (x_exs HX E₀ hA d.body c₁ X.body e) (fun f s' hp => ?_) fun _ _ z => z
  refine el_EAA hp fun as' T c' hf => ?_; clear hp
  have T' : StepW (WF env) s as σ s' as' σ' := (StepW.kept S hk tk).trans S S₁ T
  have TN : Step s as σ s' as' σ' := T'.narrow fun b hb => by
    rcases hb with rfl | ⟨nm, hm⟩
    · rw [hL]; exact fresh _ (Nat.le_refl _)
    · exact fresh _ (Nat.le_of_lt (hi nm b hm))
  refine ⟨as', TN, c'.1, ?_⟩
  cases fl with
  | next => obtain rfl := hf; rfl
  | ret v => refine el_EA hf fun u hq3 R => ?_; clear hf; subst hq3; exact R

theorem AOk.deep (hA : AOk A (n + 1)) (env : Env) : AOk (A.deeper env) n := ⟨hA.hd, by have := hA.dp; show A.depth + 1 + n < 900; omega, by have := hA.un; show A.units + 3 + 10 * n < 9000; lia⟩

theorem e_call (B : Base prog w h₀ mg mb) (H : EvS prog w h₀ n) (HX : ExS prog w h₀ n) (E₀ : EnvOk env sc) (c : Cx prog w h₀ env ρ s as σ) (hA : AOk A (n + 1)) {f : Nat} {xs : List X} {es : List Expr} {np pos : Pos} (hi : has sc (fnm f) .globalImplicit = true) (m : mXs (mX k sc) xs es = true)
    (e : ((evs (ev n ρ) xs σ).bind fun p => (fns[f]?).bind fun d => (bindP d.ps p.1 noEn).bind fun ρ₁ =>
        (exs (ex n) d.body ρ₁ p.2).bind fun q => some ((match q.1 with | .ret v => v | .next => AV.none), q.2.2)) = some (v, σ')) :
    wpAny (model prog w) A (eval (.Call (.Name (fnm f) np) es [] pos) env) (Post prog w h₀ s as σ v σ') NoE s := by
  refine bind2_elim e fun vs σ₁ e₁ e => ?_
  refine bind_elim e fun d e₂ e => ?_
  refine bind_elim e fun ρ₁ e₃ e => ?_
  refine bind3_elim e fun fl ρ' σ₂ e₄ e => ?_
  cases e
  refine el_EEEEEEE (B.fn f d e₂) fun a o pm code doc params body hq4 => ?_; refine el_EAAAA hq4 fun scope hmg ho hd hcode hm => ?_; clear hq4
  have X := fn_ok hm
  refine wpAny_Call_NameR (glob_fn B E₀ c.1 hi hmg (fn_debug e₂) (Calls.callWith_function (o := o) (fd := Calls.docDef (fnm f) params body scope pm code doc) ?_))
  refine args_sound H E₀ (hA.less (Nat.le_succ n)) m e₁ c fun us s₁ as₁ T c₁ q => ?_
  refine ⟨⟨c₁.1.base _ _ ho, hd⟩, ?_⟩
  have hlen : us.length = (params.args.map (·.arg)).length := by
    rw [X.names, List.length_map, q.length, bindP_len e₃]
  have hb := bind_plain (name := fnm f) (body := body) (scope := scope) (pm := pm) (cd := code) (doc := doc) X.pos X.vararg X.kwonly X.kwarg (by rw [X.names]; exact nodup_vn X.nodup fun x hx => (X.ps x hx).1) hlen
  refine wpAny_call (codeAny_call_cells (by have := hA.dp; rw [show recursionLimit = 1000 from rfl]; omega) (c₁.1.base _ _ ho) hd (B.nolimit.keeps c₁.1.base) (hcode.keeps c₁.1.base) rfl hb rfl ?_ ?_ X.cor X.gen X.kind)
  · intro x hx
    rw [X.names] at hx
    refine el_EA (List.mem_map.mp (List.of_mem_zip (a := x.1) (b := x.2) hx).1) fun y hy e => ?_
    refine el_A (X.ps y hy) fun _ hk => ?_
    rw [← e]
    rw [Bool.or_eq_true] at hk
    rcases hk with hk | hk
    · exact .inl (has_lookup hk)
    · refine .inr ⟨has_lookup hk, ?_⟩
      refine el_E (cellsFrom_has (n := s₁.heap.objs.size + 1) (acc := []) (mem_of_lookup (has_lookup hk))) fun cc hc => ?_
      refine el_E (lookup_some_of_mem hc) fun c' hc' => ?_
      show ((cellsFrom (s₁.heap.objs.size + 1) scope.names []).lookup (vn y)).isSome = true
      rw [hc']; rfl
  · intro s₂ Y
    rw [X.names] at Y
    refine wpAny_mono (body_sound HX X (call_env (fd := Calls.docDef (fnm f) params body scope pm code doc) X.kind rfl rfl) (hA.deep _) c₁.1 Y rfl (cellsFrom_nodup (by exact List.nodup_nil) (fun _ _ h => nomatch h) X.nd) q e₃ e₄) (fun f s' p => ?_) fun _ _ z => z.elim
    have p' := Post.trans c.1 T c₁.1 p
    cases fl <;> exact p'
end
end Mine

/-! Sound -/
namespace Mine
open PySem PySem.W PyProof.Rows PySem.SeqAt

section
variable {prog : Program} {w : World} {h₀ : Heap} {n : Nat} {mg mb : Str → Option Value}

theorem cscope_of {sc scope : Scope} {free : List Nat} (h1 : (scope.kind == .function) = true) (h2 : decide (scope.names.map (·.1)).Nodup = true) (h3 : scope.names.all (fun y => y.2 != .cell) = true) (h4 : scope.names.all (fun y => y.2 != .local || has scope y.1 .local) = true)
    (h5 : scope.names.all (fun y => y.2 != .free || has sc y.1 .cell) = true) (h6 : free.all (fun x => has scope (vn x) .free) = true) : CScope sc scope free where
  kind := by simpa using h1
  nodup := by simpa using h2
  nocell := fun y hy => by simpa using List.all_eq_true.mp h3 y hy
  loc := fun y hy hl => by
    have := List.all_eq_true.mp h4 y hy
    rw [hl] at this
    exact has_lookup (by simpa using this)
  fr := fun y hy hl => by
    have := List.all_eq_true.mp h5 y hy
    rw [hl] at this
    simpa using this
  free := fun x hx => List.all_eq_true.mp h6 x hx

theorem some2 {α β : Type} {a c : α} {b d : β} (h : some (a, b) = some (c, d)) : a = c ∧ b = d := ⟨congrArg Prod.fst (Option.some.inj h), congrArg Prod.snd (Option.some.inj h)⟩
theorem isTrue_value {e : Expr} {env : Env} (h : plainV e = true) : isTrue e env (eval e env) = (do let v ← eval e env; standAt e.pos; holding [v] (truthy v)) := by
  revert h
  induction e using Expr.casesOn <;> first | exact fun _ => rfl | exact fun h => ff h

theorem ev_step (B : Base prog w h₀ mg mb) (H : EvS prog w h₀ n) (HT : TsS prog w h₀ n) (HX : ExS prog w h₀ n) : EvS prog w h₀ (n + 1) := by
  intro A env sc ρ k x e v s as σ σ' m ee E₀ c hA
  have hA' := hA.less (Nat.le_succ n)
  cases k with
  | zero => exact ff m
  | succ k =>
  cases x with
  | var x =>
    refine iv_var (P := fun e => wpAny _ _ (eval e _) _ _ _) m fun p hd => ?_
    have ee : ((ρ x).bind fun v => some (v, σ)) = some (v, σ') := ee
    refine bind_elim ee fun v' e1 ee => ?_
    cases ee
    refine el_AEE c fun S mm cm F => ?_; clear c
    exact var_sound E₀ F e1 hd fun u r => Post.here S r
  | int i =>
    refine iv_int (P := fun e => wpAny _ _ (eval e _) _ _ _) m fun kk p => ?_
    refine el_A (some2 ee) fun hq3 hq4 => ?_; subst hq3; subst hq4
    exact wpAny_Constant_int (Post.toks c.1 _ ⟨_, rfl⟩)
  | none =>
    refine iv_none (P := fun e => wpAny _ _ (eval e _) _ _ _) m fun kk p => ?_
    refine el_A (some2 ee) fun hq6 hq7 => ?_; subst hq6; subst hq7
    exact wpAny_Constant_none (Post.here c.1 rfl)
  | bool b =>
    refine iv_bool (P := fun e => wpAny _ _ (eval e _) _ _ _) m fun kk p => ?_
    refine el_A (some2 ee) fun hq9 hq10 => ?_; subst hq9; subst hq10
    exact wpAny_Constant_bool (Post.here c.1 rfl)
  | bytes0 =>
    refine iv_bytes0 (P := fun e => wpAny _ _ (eval e _) _ _ _) m fun kk p => ?_
    refine el_A (some2 ee) fun hq12 hq13 => ?_; subst hq12; subst hq13
    exact Constant_bytes (Post.toks c.1 _ ⟨Nat.zero_le _, _, rfl⟩)
  | neg1 =>
    refine iv_neg1 (P := fun e => wpAny _ _ (eval e _) _ _ _) m fun kk p p' => ?_
    refine el_A (some2 ee) fun hq15 hq16 => ?_; subst hq15; subst hq16
    exact wpAny_UnaryOp (wpAny_Constant_int (PySem.P.neg_int (Post.kept (s := s) c.1 (Kept.refl _) _ ⟨_, rfl⟩)))
  | not x =>
    refine iv_not (P := fun e => wpAny _ _ (eval e _) _ _ _) m fun a p m => ?_
    exact e_not H E₀ c hA' m ee
  | bin op l r =>
    refine iv_bin (P := fun e => wpAny _ _ (eval e _) _ _ _) m fun a b p ml mr => ?_
    exact e_bin H E₀ c hA' ml mr ee
  | and l r =>
    refine iv_and (P := fun e => wpAny _ _ (eval e _) _ _ _) m fun a b p ml mr => ?_
    exact e_and H E₀ c hA' ml mr ee
  | or l r =>
    refine iv_or (P := fun e => wpAny _ _ (eval e _) _ _ _) m fun a b p ml mr => ?_
    exact e_or H E₀ c hA' ml mr ee
  | ife x y z =>
    refine iv_ife (P := fun e => wpAny _ _ (eval e _) _ _ _) m fun a b d p m1 m2 m3 => ?_
    exact e_ife H HT E₀ c hA' m1 m2 m3 ee
  | cmp l op r =>
    refine iv_cmp (P := fun e => wpAny _ _ (eval e _) _ _ _) m fun a b p ma mb' hm => ?_
    refine el_E (cmp_bool (op := op) ee) fun bb hq23 => ?_; subst hq23
    exact wpAny_Compare1 (e_cmp (pos := p) H E₀ c hA' ma mb' hm ee fun s' as' T c' => ⟨as', T, c'.1, rfl⟩) hm
  | cmp2 l o₁ mm o₂ r =>
    refine iv_cmp2 (P := fun e => wpAny _ _ (eval e _) _ _ _) m fun a b d p ma mb' md hm => ?_
    have ee : cmp2E n ρ l mm r o₁ o₂ σ = some (v, σ') := ee
    refine el_E (cmp2_bool ee) fun bb hq26 => ?_; subst hq26
    refine wpAny_mono (e_cmp2 (pos := p) H E₀ c hA' ma mb' md hm ee).1 (fun u s' p => ?_) fun _ _ z => z
    refine el_AEA p fun hq27 as' T S' => ?_; clear p; subst hq27
    exact ⟨as', T, S', rfl⟩
  | tup es =>
    refine iv_tup (P := fun e => wpAny _ _ (eval e _) _ _ _) m fun ps q p m => ?_
    exact e_tup H E₀ c hA' m ee
  | list es =>
    refine iv_list (P := fun e => wpAny _ _ (eval e _) _ _ _) m fun ps p m => ?_
    exact e_list H E₀ c hA' m ee
  | dict0 =>
    refine iv_dict0 (P := fun e => wpAny _ _ (eval e _) _ _ _) m fun p => ?_
    refine el_A (some2 ee) fun hq31 hq32 => ?_; subst hq31; subst hq32
    exact e_dict0 c
  | idx x i =>
    refine iv_idx (P := fun e => wpAny _ _ (eval e _) _ _ _) m fun a b p m1 m2 => ?_
    exact e_idx H E₀ c hA' m1 m2 ee
  | cut x lo hi =>
    refine iv_cut (P := fun e => wpAny _ _ (eval e _) _ _ _) m fun a pl ph q p m1 m2 m3 => ?_
    exact e_cut H E₀ c hA' m1 m2 m3 ee
  | call f args =>
    refine iv_call (P := fun e => wpAny _ _ (eval e _) _ _ _) m fun np ps p hi ms => ?_
    exact e_call B H HX E₀ c hA hi ms ee
  | «bif» f args =>
    refine iv_bif (P := fun e => wpAny _ _ (eval e _) _ _ _) m fun np ps p hi ms => ?_
    exact e_bif B H E₀ c hA' hi ms ee
  | met mt o args =>
    refine iv_met (P := fun e => wpAny _ _ (eval e _) _ _ _) m fun b q ps p hb hl mo ms hlen => ?_
    exact e_met H E₀ c hA' hb hl mo ms hlen ee
  | range es => exact nomatch ee
  | enum x => exact nomatch ee
  | comp el tg x cond free =>
    refine iv_comp (P := fun e => wpAny _ _ (eval e _) _ _ _) m fun pe pt pi pc scope p C => ?_
    exact e_comp B H HT E₀ c hA' (cscope_of C.h1 C.h2 C.h3 C.h4 C.h5 C.h6) C.mt C.en C.mi C.mc C.me ee

theorem ts_value (H : EvS prog w h₀ (n + 1)) {A : Around} {env : Env} {sc : Scope} {ρ : En} {k : Nat} {x : X} {e : Expr} {b : Bool} {s : Shared} {as : Nat → Addr} {σ σ' : St}
    (m : mX k sc x e = true) (ee : ev (n + 1) ρ x σ = some (.bool b, σ')) (E₀ : EnvOk env sc) (c : Cx prog w h₀ env ρ s as σ) (hA : AOk A (n + 1))
    (he : isTrue e env (eval e env) = (do let v ← eval e env; standAt e.pos; holding [v] (truthy v))) : wpAny (model prog w) A (isTrue e env (eval e env)) (fun c s' => c = b ∧ PostS prog w h₀ s as σ σ' s') NoE s :=
  wpAny_isTrue_value (H.go E₀ c hA m ee fun u s₁ as₁ T c₁ R => by obtain rfl := R; exact wpAny_truthy_bool ⟨rfl, as₁, T, c₁.1⟩) he

theorem ts_step (H' : EvS prog w h₀ (n + 1)) (H : EvS prog w h₀ n) (HT : TsS prog w h₀ n) : TsS prog w h₀ (n + 1) := by
  intro A env sc ρ k x e b s as σ σ' m et E₀ c hA
  have ee := tst_some et
  have hA' := hA.less (Nat.le_succ n)
  cases k with
  | zero => exact ff m
  | succ k =>
  cases x with
  | not x =>
    refine iv_not (P := fun e => wpAny _ _ (isTrue e _ (eval e _)) _ _ _) m fun a p m₂ => ?_
    refine bind2_elim ee fun t σ₁ e₁ ee => ?_
    cases ee
    exact wpAny_isTrue_Not (HT.go E₀ c hA' m₂ e₁ fun s₁ as₁ T c₁ => ⟨rfl, as₁, T, c₁.1⟩)
  | and l r =>
    refine iv_and (P := fun e => wpAny _ _ (isTrue e _ (eval e _)) _ _ _) m fun a d pos m₂a m₂b => ?_; have m₂ := And.intro m₂a m₂b
    · refine bind2_elim ee fun v₁ σ₁ e₁ ee => ?_
      refine bind_elim ee fun t e₂ ee => ?_
      have hv : v₁ = .bool t := tru_some e₂
      subst hv
      refine wpAny_isTrue_BoolOp (wpAny_allTrue_And_cons (HT.go E₀ c hA' m₂.1 (b := t) (σ₁ := σ₁) (by simp [tst, e₁, tru]) fun s₁ as₁ T c₁ => ?_))
      cases t with
      | false => cases ee; exact ⟨rfl, as₁, T, c₁.1⟩
      | true =>
        refine wpAny_allTrue_And_cons (HT.go E₀ c₁ hA' m₂.2 (b := b) (σ₁ := σ') (by have ee : ev n ρ r σ₁ = some (.bool b, σ') := ee; simp [tst, ee, tru]) fun s₂ as₂ T₂ c₂ => ?_)
        cases b with
        | false => exact ⟨rfl, as₂, T.trans c.1 c₁.1 T₂, c₂.1⟩
        | true => exact wpAny_allTrue_And_nil ⟨rfl, as₂, T.trans c.1 c₁.1 T₂, c₂.1⟩
  | or l r =>
    refine iv_or (P := fun e => wpAny _ _ (isTrue e _ (eval e _)) _ _ _) m fun a d pos m₂a m₂b => ?_; have m₂ := And.intro m₂a m₂b
    · refine bind2_elim ee fun v₁ σ₁ e₁ ee => ?_
      refine bind_elim ee fun t e₂ ee => ?_
      have hv : v₁ = .bool t := tru_some e₂
      subst hv
      refine wpAny_isTrue_BoolOp (wpAny_allTrue_Or_cons (HT.go E₀ c hA' m₂.1 (b := t) (σ₁ := σ₁) (by simp [tst, e₁, tru]) fun s₁ as₁ T c₁ => ?_))
      cases t with
      | true => cases ee; exact ⟨rfl, as₁, T, c₁.1⟩
      | false =>
        refine wpAny_allTrue_Or_cons (HT.go E₀ c₁ hA' m₂.2 (b := b) (σ₁ := σ') (by have ee : ev n ρ r σ₁ = some (.bool b, σ') := ee; simp [tst, ee, tru]) fun s₂ as₂ T₂ c₂ => ?_)
        cases b with
        | true => exact ⟨rfl, as₂, T.trans c.1 c₁.1 T₂, c₂.1⟩
        | false => exact wpAny_allTrue_Or_nil ⟨rfl, as₂, T.trans c.1 c₁.1 T₂, c₂.1⟩
  | ife x y z =>
    refine iv_ife (P := fun e => wpAny _ _ (isTrue e _ (eval e _)) _ _ _) m fun pt pa pb pos m₂a m₂b m₂c => ?_; have m₂ := And.intro m₂a (And.intro m₂b m₂c)
    refine bind2_elim ee fun t σ₁ e₁ ee => ?_
    show wpAny _ _ (isTrue pt env (eval pt env) >>= fun t => if t then isTrue pa env (eval pa env) else isTrue pb env (eval pb env)) _ _ s
    refine wpAny_bind (HT.go E₀ c hA' m₂.1 e₁ fun s₁ as₁ T c₁ => ?_)
    cases t with
    | true => exact HT.go E₀ c₁ hA' m₂.2.1 (b := b) (σ₁ := σ') (by have ee : ev n ρ y σ₁ = some (.bool b, σ') := ee; simp [tst, ee, tru]) fun s₂ as₂ T₂ c₂ => ⟨rfl, as₂, T.trans c.1 c₁.1 T₂, c₂.1⟩
    | false => exact HT.go E₀ c₁ hA' m₂.2.2 (b := b) (σ₁ := σ') (by have ee : ev n ρ z σ₁ = some (.bool b, σ') := ee; simp [tst, ee, tru]) fun s₂ as₂ T₂ c₂ => ⟨rfl, as₂, T.trans c.1 c₁.1 T₂, c₂.1⟩
  | cmp l op r =>
    refine iv_cmp (P := fun e => wpAny _ _ (isTrue e _ (eval e _)) _ _ _) m fun a d pos ma mb' hm => ?_
    exact wpAny_isTrue_Compare1 (e_cmp (pos := pos) H E₀ c hA' ma mb' hm ee fun s' as' T c' => wpAny_truthy_bool ⟨rfl, as', T, c'.1⟩) hm
  | cmp2 l o₁ mm o₂ r =>
    refine iv_cmp2 (P := fun e => wpAny _ _ (isTrue e _ (eval e _)) _ _ _) m fun a d d' pos ma mb' md hm => ?_
    exact (e_cmp2 (pos := pos) H E₀ c hA' ma mb' md hm ee).2 _
  | neg1 => exact nomatch ee
  | range es => exact nomatch ee
  | enum x => exact nomatch ee
  | _ => exact ts_value H' m ee E₀ c hA (isTrue_value (mX_plainV m rfl))

theorem ex_step (B : Base prog w h₀ mg mb) (H : EvS prog w h₀ n) (HT : TsS prog w h₀ n) (HX : ExS prog w h₀ n) : ExS prog w h₀ (n + 1) := by
  intro A env sc ρ ρ' k y t fl s as σ σ' m ee E₀ c hA
  have hA' := hA.less (Nat.le_succ n)
  cases k with
  | zero => exact ff m
  | succ k =>
  cases y with
  | set x e =>
    refine iy_set (P := fun t => wpAny _ _ (exec t _) _ _ _) m fun np v p hx hk hl me => ?_
    exact x_set H E₀ c hA' hx hk hl me ee
  | setT xs e =>
    refine iy_setT (P := fun t => wpAny _ _ (exec t _) _ _ _) m fun ts q q' v p mn hl ok me nd => ?_
    exact x_setT H E₀ c hA' mn hl ok me nd ee
  | setI o i e =>
    refine iy_setI (P := fun t => wpAny _ _ (exec t _) _ _ _) m fun po pi q v p hl me mo mi => ?_
    exact x_setI H E₀ c hA' hl me mo mi ee
  | exp e =>
    refine iy_exp (P := fun t => wpAny _ _ (exec t _) _ _ _) m fun v p hl me => ?_
    exact x_exp H E₀ c hA' hl me ee
  | ite x a b =>
    refine iy_ite (P := fun t => wpAny _ _ (exec t _) _ _ _) m fun pc pa pb p m1 m2 m3 => ?_
    exact x_ite HT HX E₀ c hA' m1 m2 m3 ee
  | forT tg x b =>
    refine iy_for (P := fun t => wpAny _ _ (exec t _) _ _ _) m fun pt pi pb p mt en mi mbd => ?_
    exact x_for B H HX E₀ c hA' mt en mi mbd ee
  | whl x b =>
    refine iy_whl (P := fun t => wpAny _ _ (exec t _) _ _ _) m fun pc pb p m1 m2 => ?_
    exact x_whl HT HX E₀ c hA' m1 m2 ee
  | ret e =>
    refine iy_ret (P := fun t => wpAny _ _ (exec t _) _ _ _) m fun v p m => ?_
    exact x_ret H E₀ c hA' m ee

theorem sound (B : Base prog w h₀ mg mb) : ∀ n, EvS prog w h₀ n ∧ TsS prog w h₀ n ∧ ExS prog w h₀ n
  | 0 => ⟨fun _ e => (by cases e), fun _ e => (by cases e), fun _ e => (by cases e)⟩
  | n + 1 => by
    refine el_AA (sound B n) fun H HT HX => ?_
    have H' : EvS prog w h₀ (n + 1) := ev_step B H HT HX
    have HT' : TsS prog w h₀ (n + 1) := ts_step H' H HT
    have HX' : ExS prog w h₀ (n + 1) := ex_step B H HT HX
    exact ⟨H', HT', HX'⟩
end
end Mine

/-! LawE -/
namespace Mine

theorem on_l {α : Type} {σ : St} {l : Nat} {xs : List AV} {f : List AV → Option α} {g : List (Int × AV) → Option α} (h : σ.get l = some (.list xs)) : σ.on l f g = f xs := by unfold St.on; rw [h]
theorem on_d {α : Type} {σ : St} {l : Nat} {xs : List (Int × AV)} {f : List AV → Option α} {g : List (Int × AV) → Option α} (h : σ.get l = some (.dict xs)) : σ.on l f g = g xs := by unfold St.on; rw [h]
/-! stores -/
noncomputable def WfS (σ : St) : Prop := ∀ l, σ.next ≤ l → σ.obj l = none
structure Fr (L : List Nat) (σ σ' : St) : Prop where
  le : σ.next ≤ σ'.next
  keep : ∀ l, l < σ.next → l ∉ L → σ'.obj l = σ.obj l
  kind : ∀ l, l < σ.next → (σ'.obj l).isSome = (σ.obj l).isSome
  wf : WfS σ → WfS σ'

section
variable {σ σ' σ'' : St} {L L' : List Nat} {l l' : Nat} {d d' : AD}

theorem updD {α : Type} (f : Nat → α) (k x : Nat) (v : α) : upd f k v x = if x = k then v else f x := rfl
theorem get_lt (h : WfS σ) (e : σ.get l = some d) : l < σ.next := by
  rcases Nat.lt_or_ge l σ.next with hl | hl
  · exact hl
  · unfold St.get at e; rw [h l hl] at e; cases e
theorem put_of_get (e : σ.get l = some d') : ∃ o, σ.obj l = some o ∧ σ.put l d = some ⟨σ.next, upd σ.obj l (some ⟨o.v + 1, d⟩)⟩ := by
  unfold St.get at e
  cases ho : σ.obj l with
  | none => rw [ho] at e; cases e
  | some o => exact ⟨o, rfl, by unfold St.put; rw [ho]⟩
/-- what a store becomes when an object is written -/
noncomputable def St.w (σ : St) (l : Nat) (d : AD) : St := ⟨σ.next, upd σ.obj l (some ⟨((σ.obj l).map (·.v)).getD 0 + 1, d⟩)⟩
theorem put_w (e : σ.get l = some d') : σ.put l d = some (σ.w l d) := by
  refine el_EA (put_of_get (d := d) e) fun o ho hp => ?_
  rw [hp]; unfold St.w; rw [ho]; rfl
theorem get_w : (σ.w l d).get l' = if l' = l then some d else σ.get l' := by
  unfold St.w St.get
  simp only [updD]
  split <;> rfl
theorem get_alloc : (σ.alloc d).get l' = if l' = σ.next then some d else σ.get l' := by
  unfold St.alloc St.get
  simp only [updD]
  split <;> rfl
theorem next_w : (σ.w l d).next = σ.next := rfl
theorem next_alloc : (σ.alloc d).next = σ.next + 1 := rfl
theorem wf_w (h : WfS σ) (hl : l < σ.next) : WfS (σ.w l d) := fun k hk => by
  unfold St.w
  simp only [updD]
  rw [if_neg (by have : σ.next ≤ k := hk; lia)]
  exact h k hk
theorem wf_alloc (h : WfS σ) : WfS (σ.alloc d) := fun k hk => by
  have hk' : σ.next + 1 ≤ k := hk
  unfold St.alloc
  simp only [updD]
  rw [if_neg (by omega)]
  exact h k (by lia)
theorem Fr.refl : Fr L σ σ := ⟨Nat.le_refl _, fun _ _ _ => rfl, fun _ _ => rfl, fun h => h⟩
theorem Fr.trans (a : Fr L σ σ') (b : Fr L σ' σ'') : Fr L σ σ'' :=
  ⟨Nat.le_trans a.le b.le, fun l hl hn => (b.keep l (Nat.lt_of_lt_of_le hl a.le) hn).trans (a.keep l hl hn), fun l hl => (b.kind l (Nat.lt_of_lt_of_le hl a.le)).trans (a.kind l hl), fun h => b.wf (a.wf h)⟩
theorem Fr.mono (a : Fr L σ σ') (h : ∀ l, l < σ.next → l ∈ L → l ∈ L') : Fr L' σ σ' := ⟨a.le, fun l hl hn => a.keep l hl fun hm => hn (h l hl hm), a.kind, a.wf⟩
/-- what is written later is new -/
theorem Fr.fresh (a : Fr L σ σ') (b : Fr L' σ' σ'') (h : ∀ l ∈ L', l ∈ L ∨ σ.next ≤ l) : Fr L σ σ'' :=
  ⟨Nat.le_trans a.le b.le, fun l hl hn => (b.keep l (Nat.lt_of_lt_of_le hl a.le) fun hm => by
    rcases h l hm with h | h
    · exact hn h
    · lia).trans (a.keep l hl hn), fun l hl => (b.kind l (Nat.lt_of_lt_of_le hl a.le)).trans (a.kind l hl), fun h => b.wf (a.wf h)⟩
theorem fr_w (e : σ.get l = some d') (hm : l ∈ L) : Fr L σ (σ.w l d) := by
  refine ⟨Nat.le_refl _, fun k _ hn => ?_, fun k _ => ?_, fun h => wf_w h (get_lt h e)⟩
  · unfold St.w; simp only [updD]; rw [if_neg (fun (h : k = l) => hn (h ▸ hm))]
  · unfold St.w; simp only [updD]
    split
    · rename_i h; subst h
      unfold St.get at e
      cases ho : σ.obj k with
      | none => rw [ho] at e; cases e
      | some o => rfl
    · rfl
theorem fr_alloc : Fr L σ (σ.alloc d) := by
  refine ⟨Nat.le_succ _, fun k hk _ => ?_, fun k hk => ?_, wf_alloc⟩ <;> (unfold St.alloc; simp only [updD]; rw [if_neg (Nat.ne_of_lt hk)])
theorem Fr.get (a : Fr L σ σ') (hl : l < σ.next) (hn : l ∉ L) : σ'.get l = σ.get l := by unfold St.get; rw [a.keep l hl hn]
end

/-! the box -/
structure Box (σ : St) (b q : Nat) (seed : Int) (xs : List Int) : Prop where
  bx : σ.get b = some (.list [.loc q, .int seed])
  qx : σ.get q = some (.list (xs.map .int))
  ne : b ≠ q
  lo : 0 ≤ seed
  hi : seed < 2147483647
  sm : xs.length ≤ 64

theorem ev_call (n : Nat) (ρ : En) (f : Nat) (args : List X) (σ : St) : ev (n + 1) ρ (.call f args) σ = (evs (ev n ρ) args σ).bind fun p => runF n f p.1 p.2 := by
  rw [ev]; rfl


theorem exs_next {f : Y → En → St → Option (Fl × En × St)} {y : Y} {ys : List Y} {ρ ρ₁ : En} {σ σ₁ : St} (h : f y ρ σ = some (.next, ρ₁, σ₁)) : exs f (y :: ys) ρ σ = exs f ys ρ₁ σ₁ := by
  rw [exs, h]; rfl
theorem exs_ret {f : Y → En → St → Option (Fl × En × St)} {y : Y} {ys : List Y} {ρ ρ₁ : En} {σ σ₁ : St} {v : AV} (h : f y ρ σ = some (.ret v, ρ₁, σ₁)) : exs f (y :: ys) ρ σ = some (.ret v, ρ₁, σ₁) := by
  rw [exs, h]; rfl
theorem exs_nil {f : Y → En → St → Option (Fl × En × St)} {ρ : En} {σ : St} : exs f [] ρ σ = some (.next, ρ, σ) := rfl
theorem runF_ret {n f : Nat} {vs : List AV} {σ σ' : St} {d : Fn} {ρ ρ' : En} {v : AV} (hf : fns[f]? = some d) (hb : bindP d.ps vs noEn = some ρ) (h : exs (ex n) d.body ρ σ = some (.ret v, ρ', σ')) : runF n f vs σ = some (v, σ') := by
  unfold runF; rw [hf]; show (bindP d.ps vs noEn).bind _ = _; rw [hb]; show (exs (ex n) d.body ρ σ).bind _ = _; rw [h]; rfl
theorem ex_ret {n : Nat} {e : X} {ρ : En} {σ σ' : St} {v : AV} (h : ev n ρ e σ = some (v, σ')) : ex (n + 1) (.ret e) ρ σ = some (.ret v, ρ, σ') := by
  rw [ex]; simp [h]
theorem ex_set {n x : Nat} {e : X} {ρ : En} {σ σ' : St} {v : AV} (h : ev n ρ e σ = some (v, σ')) : ex (n + 1) (.set x e) ρ σ = some (.next, upd ρ x (some v), σ') := by
  rw [ex]; simp [h]
theorem ex_setT {n : Nat} {xs : List Nat} {e : X} {ρ ρ₁ : En} {σ σ' : St} {v : AV} (h : ev n ρ e σ = some (v, σ')) (hb : bindT (.many xs) v ρ = some ρ₁) : ex (n + 1) (.setT xs e) ρ σ = some (.next, ρ₁, σ') := by
  rw [ex]; simp [h, hb]
theorem ex_ite {n : Nat} {c : X} {a b : List Y} {ρ : En} {σ σ' : St} {t : Bool} (h : ev n ρ c σ = some (.bool t, σ')) : ex (n + 1) (.ite c a b) ρ σ = if t then exs (ex n) a ρ σ' else exs (ex n) b ρ σ' := by
  rw [ex]; simp [tst, h, tru]
theorem ex_ite_t {n : Nat} {c : X} {a b : List Y} {ρ : En} {σ σ' : St} (h : ev n ρ c σ = some (.bool true, σ')) : ex (n + 1) (.ite c a b) ρ σ = exs (ex n) a ρ σ' := (ex_ite h).trans rfl
theorem ex_ite_f {n : Nat} {c : X} {a b : List Y} {ρ : En} {σ σ' : St} (h : ev n ρ c σ = some (.bool false, σ')) : ex (n + 1) (.ite c a b) ρ σ = exs (ex n) b ρ σ' := (ex_ite h).trans rfl
theorem ev_and_f {n : Nat} {l r : X} {ρ : En} {σ σ' : St} (h : ev n ρ l σ = some (.bool false, σ')) : ev (n + 1) ρ (.and l r) σ = some (.bool false, σ') := by
  rw [ev]; rw [h]; rfl
theorem ev_and_t {n : Nat} {l r : X} {ρ : En} {σ σ' : St} (h : ev n ρ l σ = some (.bool true, σ')) : ev (n + 1) ρ (.and l r) σ = ev n ρ r σ' := by
  rw [ev]; rw [h]; rfl
theorem ev_or_f {n : Nat} {l r : X} {ρ : En} {σ σ' : St} (h : ev n ρ l σ = some (.bool false, σ')) : ev (n + 1) ρ (.or l r) σ = ev n ρ r σ' := by
  rw [ev]; rw [h]; rfl
theorem ev_or_t {n : Nat} {l r : X} {ρ : En} {σ σ' : St} (h : ev n ρ l σ = some (.bool true, σ')) : ev (n + 1) ρ (.or l r) σ = some (.bool true, σ') := by
  rw [ev]; rw [h]; rfl
theorem ev_cmp {n : Nat} {op : Cop} {l r : X} {ρ : En} {σ σ₁ σ₂ : St} {v w : AV} {b : Bool} (h : ev n ρ l σ = some (v, σ₁)) (h' : ev n ρ r σ₁ = some (w, σ₂)) (hc : acmp op v w σ₂ = some b) : ev (n + 1) ρ (.cmp l op r) σ = some (.bool b, σ₂) := by
  rw [ev]; rw [h]; show ((ev n ρ r σ₁).bind _) = _; rw [h']; show ((acmp op v w σ₂).bind _) = _; rw [hc]; rfl
theorem ev_bin {n : Nat} {op : Bop} {l r : X} {ρ : En} {σ σ₁ σ₂ : St} {v w : AV} (h : ev n ρ l σ = some (v, σ₁)) (h' : ev n ρ r σ₁ = some (w, σ₂)) : ev (n + 1) ρ (.bin op l r) σ = abin op v w σ₂ := by
  rw [ev]; rw [h]; show ((ev n ρ r σ₁).bind _) = _; rw [h']; rfl
theorem ev_cmp2_f {n : Nat} {o₁ o₂ : Cop} {l m r : X} {ρ : En} {σ σ₁ σ₂ : St} {v w : AV} (h : ev n ρ l σ = some (v, σ₁)) (h' : ev n ρ m σ₁ = some (w, σ₂)) (hc : acmp o₁ v w σ₂ = some false) : ev (n + 1) ρ (.cmp2 l o₁ m o₂ r) σ = some (.bool false, σ₂) := by
  rw [ev]; rw [h]; show ((ev n ρ m σ₁).bind _) = _; rw [h']; show ((acmp o₁ v w σ₂).bind _) = _; rw [hc]; rfl
theorem ev_cmp2_t {n : Nat} {o₁ o₂ : Cop} {l m r : X} {ρ : En} {σ σ₁ σ₂ σ₃ : St} {v w z : AV} {b : Bool} (h : ev n ρ l σ = some (v, σ₁)) (h' : ev n ρ m σ₁ = some (w, σ₂)) (hc : acmp o₁ v w σ₂ = some true) (h'' : ev n ρ r σ₂ = some (z, σ₃)) (hc' : acmp o₂ w z σ₃ = some b) :
    ev (n + 1) ρ (.cmp2 l o₁ m o₂ r) σ = some (.bool b, σ₃) := by
  rw [ev]; rw [h]; show ((ev n ρ m σ₁).bind _) = _; rw [h']; show ((acmp o₁ v w σ₂).bind _) = _; rw [hc]
  show ((ev n ρ r σ₂).bind _) = _; rw [h'']; show ((acmp o₂ w z σ₃).bind _) = _; rw [hc']; rfl
theorem ev_not {n : Nat} {e : X} {ρ : En} {σ σ' : St} {b : Bool} (h : ev n ρ e σ = some (.bool b, σ')) : ev (n + 1) ρ (.not e) σ = some (.bool (!b), σ') := by
  rw [ev]; simp [tst, h, tru]
theorem ev_ife_t {n : Nat} {c x y : X} {ρ : En} {σ σ' : St} (h : ev n ρ c σ = some (.bool true, σ')) : ev (n + 1) ρ (.ife c x y) σ = ev n ρ x σ' := by
  rw [ev]; simp [tst, h, tru]
theorem ev_ife_f {n : Nat} {c x y : X} {ρ : En} {σ σ' : St} (h : ev n ρ c σ = some (.bool false, σ')) : ev (n + 1) ρ (.ife c x y) σ = ev n ρ y σ' := by
  rw [ev]; simp [tst, h, tru]
theorem ev_var {n x : Nat} {ρ : En} {σ : St} {v : AV} (h : ρ x = some v) : ev (n + 1) ρ (.var x) σ = some (v, σ) := by
  rw [ev]; rw [h]; rfl
theorem ev_comp {n : Nat} {el s : X} {tg : Tg} {c : Option X} {free : List Nat} {ρ : En} {σ σ₁ σ₂ : St} {items ys : List AV} {wl : Option Nat} (h : itemsOf (ev n ρ) s σ = some (items, wl, σ₁)) (h' : compl tg wl σ₁ (tsto (ev n) c) (fun ρ' => ev n ρ' el) items (restr free ρ) σ₁ = some (ys, σ₂)) :
    ev (n + 1) ρ (.comp el tg s c free) σ = newL ys σ₂ := by
  rw [ev]; rw [h]; show ((compl tg wl σ₁ (tsto (ev n) c) (fun ρ' => ev n ρ' el) items (restr free ρ) σ₁).bind _) = _; rw [h']; rfl
theorem ex_exp {n : Nat} {e : X} {ρ : En} {σ σ' : St} {v : AV} (h : ev n ρ e σ = some (v, σ')) : ex (n + 1) (.exp e) ρ σ = some (.next, ρ, σ') := by
  rw [ex]; simp [h]
theorem exs_one {f : Y → En → St → Option (Fl × En × St)} {y : Y} {ρ ρ₁ : En} {σ σ₁ : St} (h : f y ρ σ = some (.next, ρ₁, σ₁)) : exs f [y] ρ σ = some (.next, ρ₁, σ₁) := exs_next h
theorem ex_for {n : Nat} {tg : Tg} {s : X} {b : List Y} {ρ : En} {σ σ' : St} {items : List AV} {wl : Option Nat} (h : itemsOf (ev n ρ) s σ = some (items, wl, σ')) : ex (n + 1) (.forT tg s b) ρ σ = forl tg wl σ' (exs (ex n) b) items ρ σ' := by
  rw [ex]; simp [h]

theorem box_take (n : Nat) {σ : St} {b q : Nat} {seed : Int} {xs : List Int} {wide : Int} (B : Box σ b q seed xs) (hw : 0 < wide) :
    ∃ r σ' seed' xs', runF (n + 12) 13 [.loc b, .int wide] σ = some (.int r, σ') ∧ 0 ≤ r ∧ r < wide ∧ Box σ' b q seed' xs' ∧ Fr [b, q] σ σ' ∧ σ'.next = σ.next := by
  obtain ⟨hb, hq, ne, lo, hi, sm⟩ := B
  cases xs with
  | nil =>
    have e1 : σ.put b (.list [.loc q, .int ((seed * 48271 + 11) % 2147483647)]) = some (σ.w b (.list [.loc q, .int ((seed * 48271 + 11) % 2147483647)])) := put_w hb
    have s1 : seed.natAbs < 1099511627776 := by lia
    have g1 : (σ.w b (.list [.loc q, .int ((seed * 48271 + 11) % 2147483647)])).get b = some (.list [.loc q, .int ((seed * 48271 + 11) % 2147483647)]) := by rw [get_w, if_pos rfl]
    refine ⟨((seed * 48271 + 11) % 2147483647) / 97 % wide, σ.w b (.list [.loc q, .int ((seed * 48271 + 11) % 2147483647)]), (seed * 48271 + 11) % 2147483647, [], ?_, Int.emod_nonneg _ (by lia), Int.emod_lt_of_pos _ hw, ⟨g1, ?_, ne, Int.emod_nonneg _ (by lia), Int.emod_lt_of_pos _ (by lia), by simp⟩, fr_w hb (by simp), rfl⟩
    · refine runF_ret (d := f13) (ρ' := upd (upd noEn 24 (some (.loc b))) 25 (some (.int wide))) rfl rfl ?_
      refine (exs_next (ρ₁ := upd (upd noEn 24 (some (.loc b))) 25 (some (.int wide))) (σ₁ := σ) ?_).trans ((exs_next (ρ₁ := upd (upd noEn 24 (some (.loc b))) 25 (some (.int wide))) (σ₁ := σ.w b (.list [.loc q, .int ((seed * 48271 + 11) % 2147483647)])) ?_).trans (exs_ret (ex_ret ?_)))
      · refine (ex_ite (t := false) (σ' := σ) ?_).trans rfl
        simp [ev, evs, aidx, abif, acmp, updD, hb, hq, AV.by, St.on, args, no, no2, int2]
      · simp [ex, ev, abin, aidx, aset, updD, hb, s1, e1, AV.by, St.on, int2, no]
      · generalize (seed * 48271 + 11) % 2147483647 = z at *
        simp [ev, abin, aidx, updD, g1, hw, AV.by, St.on, int2, no]
    · rw [get_w, if_neg (Ne.symm ne)]; exact hq
  | cons x xs =>
    have e1 : σ.put q (.list (xs.map .int)) = some (σ.w q (.list (xs.map .int))) := put_w hq
    have h0 : (0 : Int) < (xs.length : Int) + 1 := by lia
    refine ⟨x % wide, σ.w q (.list (xs.map .int)), seed, xs, ?_, Int.emod_nonneg _ (by lia), Int.emod_lt_of_pos _ hw, ⟨?_, ?_, ne, lo, hi, ?_⟩, fr_w hq (by simp), rfl⟩
    · refine runF_ret (d := f13) (ρ' := upd (upd noEn 24 (some (.loc b))) 25 (some (.int wide))) rfl rfl (exs_ret ((ex_ite (t := true) (σ' := σ) ?_).trans (exs_ret (ex_ret ?_))))
      · simp [ev, evs, aidx, abif, acmp, updD, hb, hq, h0, AV.by, St.on, args, no, no2, int2]
      · simp [ev, evs, aidx, amet, abin, kindOf, AD.isL, updD, hb, hq, e1, hw, AV.by, St.on, args, no, no2, int2, popHead]
    · rw [get_w, if_neg ne]; exact hb
    · rw [get_w, if_pos rfl]
    · simp at sm; lia
end Mine

/-! LawF -/
namespace Mine

noncomputable abbrev Pc := Int × List UInt8
noncomputable def pc (p : Pc) : AV := .tup [.int p.1, .bytes p.2]

theorem forl_cons {tg : Tg} {w : Option Nat} {σ₀ : St} {b : En → St → Option (Fl × En × St)} {v : AV} {vs : List AV} {ρ ρ₁ ρ₂ : En} {σ σ₁ : St} (h1 : bindT tg v ρ = some ρ₁) (h2 : b ρ₁ σ = some (.next, ρ₂, σ₁)) (h3 : chk w σ₀ σ₁ = true) :
    forl tg w σ₀ b (v :: vs) ρ σ = forl tg w σ₀ b vs ρ₂ σ₁ := by
  rw [forl, h1]; simp [h2, h3]
theorem forl_ret {tg : Tg} {w : Option Nat} {σ₀ : St} {b : En → St → Option (Fl × En × St)} {v r : AV} {vs : List AV} {ρ ρ₁ ρ₂ : En} {σ σ₁ : St} (h1 : bindT tg v ρ = some ρ₁) (h2 : b ρ₁ σ = some (.ret r, ρ₂, σ₁)) :
    forl tg w σ₀ b (v :: vs) ρ σ = some (.ret r, ρ₂, σ₁) := by
  rw [forl, h1]; simp [h2]
theorem forl_nil {tg : Tg} {w : Option Nat} {σ₀ : St} {b : En → St → Option (Fl × En × St)} {ρ : En} {σ : St} : forl tg w σ₀ b [] ρ σ = some (.next, ρ, σ) := rfl

/-! add_piece -/
noncomputable def addStep (q : List Pc × Int × List UInt8) (p : Pc) : List Pc × Int × List UInt8 :=
  if p.1 + p.2.length < q.2.1 ∨ q.2.1 + q.2.2.length < p.1 then (q.1 ++ [p], q.2.1, q.2.2)
  else (q.1, min q.2.1 p.1, q.2.2.take (max 0 (p.1 - q.2.1)).toNat ++ p.2 ++ q.2.2.drop (max 0 (p.1 + p.2.length - q.2.1)).toNat)

noncomputable def addBody : List Y := match f0.body with
  | [_, _, .forT _ _ b, _] => b
  | _ => []

theorem add_turn (n : Nat) {ρ : En} {σ : St} {f : Nat} {F : List Pc} {b s : Int} {j d : List UInt8} (h3 : ρ 3 = some (.loc f)) (h4 : ρ 4 = some (.int b)) (h5 : ρ 5 = some (.bytes j)) (h6 : ρ 6 = some (.int s)) (h7 : ρ 7 = some (.bytes d))
    (hf : σ.get f = some (.list (F.map pc))) (hF : F.length < 1000) (hj : j.length + d.length ≤ 100000) :
    ∃ ρ' σ', exs (ex (n + 12)) addBody ρ σ = some (.next, ρ', σ') ∧ ρ' 3 = some (.loc f) ∧ ρ' 4 = some (.int (addStep (F, b, j) (s, d)).2.1) ∧ ρ' 5 = some (.bytes (addStep (F, b, j) (s, d)).2.2) ∧
      σ'.get f = some (.list ((addStep (F, b, j) (s, d)).1.map pc)) ∧ Fr [f] σ σ' ∧ σ'.next = σ.next := by
  have hb : addBody = [.setT [8, 9] (.tup [.bin .add (.var 6) (.bif .len [.var 7]), .bin .add (.var 4) (.bif .len [.var 5])]),
        .ite (.or (.cmp (.var 8) .lt (.var 4)) (.cmp (.var 9) .lt (.var 6)))
          [
            .exp (.met .append (.var 3) [.tup [.var 6, .var 7]])]
          [
            .set 10 (.cut (.var 5) none (some (.bif .max [.int 0, .bin .sub (.var 6) (.var 4)]))),
            .set 11 (.cut (.var 5) (some (.bif .max [.int 0, .bin .sub (.var 8) (.var 4)])) none),
            .setT [4, 5] (.tup [.bif .min [.var 4, .var 6], .bin .add (.bin .add (.var 10) (.var 7)) (.var 11)])]] := rfl
  rw [hb]
  have e1 : ex (n + 12) (.setT [8, 9] (.tup [.bin .add (.var 6) (.bif .len [.var 7]), .bin .add (.var 4) (.bif .len [.var 5])])) ρ σ = some (.next, upd (upd ρ 8 (some (.int (s + d.length)))) 9 (some (.int (b + j.length))), σ) := by
    refine ex_setT (v := .tup [.int (s + d.length), .int (b + j.length)]) ?_ rfl
    simp [ev, evs, abif, abin, atomsOf, h4, h5, h6, h7, lim, AV.by, St.on, args, no, no2, int2]
  rw [exs_next e1]
  generalize hρ : upd (upd ρ 8 (some (.int (s + d.length)))) 9 (some (.int (b + j.length))) = ρ₁
  have g3 : ρ₁ 3 = some (.loc f) := by rw [← hρ]; exact h3
  have g4 : ρ₁ 4 = some (.int b) := by rw [← hρ]; exact h4
  have g5 : ρ₁ 5 = some (.bytes j) := by rw [← hρ]; exact h5
  have g6 : ρ₁ 6 = some (.int s) := by rw [← hρ]; exact h6
  have g7 : ρ₁ 7 = some (.bytes d) := by rw [← hρ]; exact h7
  have g8 : ρ₁ 8 = some (.int (s + d.length)) := by rw [← hρ]; rfl
  have g9 : ρ₁ 9 = some (.int (b + j.length)) := by rw [← hρ]; rfl
  have ec : ev (n + 11) ρ₁ (.or (.cmp (.var 8) .lt (.var 4)) (.cmp (.var 9) .lt (.var 6))) σ = some (.bool (decide (s + d.length < b ∨ b + j.length < s)), σ) := by
    by_cases hc : s + (d.length : Int) < b
    · simp [ev, acmp, tru, g4, g6, g8, g9, hc, AV.by, St.on, int2, no]
    · simp [ev, acmp, tru, g4, g6, g8, g9, hc, AV.by, St.on, int2, no]
  by_cases hc : s + (d.length : Int) < b ∨ b + (j.length : Int) < s
  · rw [decide_eq_true hc] at ec
    have ep : σ.put f (.list (F.map pc ++ [pc (s, d)])) = some (σ.w f (.list (F.map pc ++ [pc (s, d)]))) := put_w hf
    have hst : addStep (F, b, j) (s, d) = (F ++ [(s, d)], b, j) := by unfold addStep; rw [if_pos hc]
    refine ⟨ρ₁, σ.w f (.list (F.map pc ++ [pc (s, d)])), ?_, g3, ?_, ?_, ?_, fr_w hf (by simp), rfl⟩
    · refine exs_one ((ex_ite_t ec).trans (exs_one (ex_exp (v := .none) ?_)))
      have hl : (F.map pc).length < lim := by unfold lim; simp; omega
      have hl' : F.length < lim := by unfold lim; omega
      have ep' : σ.put f (.list (F.map pc ++ [.tup [.int s, .bytes d]])) = some (σ.w f (.list (F.map pc ++ [pc (s, d)]))) := ep
      have hl2 : F.length < 1000000 := by omega
      simp [ev, evs, atomsOf, kindOf, amet, AD.isL, g3, g6, g7, lim, hf, hl2, ep', AV.by, St.on, args, no, no2, popHead]
    · rw [hst]; exact g4
    · rw [hst]; exact g5
    · rw [hst, get_w, if_pos rfl]; simp
  · rw [decide_eq_false hc] at ec
    have hst : addStep (F, b, j) (s, d) = (F, min b s, j.take (max 0 (s - b)).toNat ++ d ++ j.drop (max 0 (s + d.length - b)).toNat) := by unfold addStep; rw [if_neg hc]
    rw [hst]
    have l1 : (j.take (max 0 (s - b)).toNat).length + d.length ≤ lim := by simp [lim]; omega
    have l2 : (j.take (max 0 (s - b)).toNat ++ d).length + (j.drop (max 0 (s + d.length - b)).toNat).length ≤ lim := by simp [lim]; omega
    have m1 : (0 : Int) ≤ max 0 (s - b) := by omega
    have m2 : (0 : Int) ≤ max 0 (s + d.length - b) := by omega
    generalize hx : (max 0 (s - b)) = mx at *
    generalize hy : (max 0 (s + (d.length : Int) - b)) = my at *
    have a1 : ex (n + 11) (.set 10 (.cut (.var 5) none (some (.bif .max [.int 0, .bin .sub (.var 6) (.var 4)])))) ρ₁ σ = some (.next, upd ρ₁ 10 (some (.bytes (j.take mx.toNat))), σ) := by
      refine ex_set ?_
      simp [ev, evs, evo, abif, abin, acut, bound, g4, g5, g6, hx, m1, AV.by, St.on, args, no, no2, int2]
    have a2 : ex (n + 11) (.set 11 (.cut (.var 5) (some (.bif .max [.int 0, .bin .sub (.var 8) (.var 4)])) none)) (upd ρ₁ 10 (some (.bytes (j.take mx.toNat)))) σ = some (.next, upd (upd ρ₁ 10 (some (.bytes (j.take mx.toNat)))) 11 (some (.bytes (j.drop my.toNat))), σ) := by
      refine ex_set ?_
      simp [ev, evs, evo, abif, abin, acut, bound, updD, g4, g5, g8, hy, m2, AV.by, St.on, args, no, no2, int2]
    refine ⟨_, σ, exs_one ((ex_ite_f ec).trans ((exs_next a1).trans ((exs_next a2).trans (exs_one (ex_setT (v := .tup [.int (min b s), .bytes (j.take mx.toNat ++ d ++ j.drop my.toNat)]) ?_ rfl))))), ?_, ?_, ?_, hf, Fr.refl, rfl⟩
    · have n1 : min mx.toNat j.length + d.length ≤ 1000000 := by omega
      have n2 : min mx.toNat j.length + d.length + (j.length - my.toNat) ≤ 1000000 := by grind
      have n3 : min mx.toNat j.length + (d.length + (j.length - my.toNat)) ≤ 1000000 := by lia
      simp [ev, evs, abif, abin, atomsOf, updD, g4, g6, g7, lim, n1, n2, n3, AV.by, St.on, args, no, no2, int2]
    · simp [updD, g3]
    · simp [updD]
    · simp [updD]
end Mine

/-! LawG -/
namespace Mine

noncomputable def tot (P : List Pc) : Nat := (P.map fun p => p.2.length).sum
theorem tot_cons (p : Pc) (P : List Pc) : tot (p :: P) = p.2.length + tot P := by simp [tot]

theorem addStep_len (F : List Pc) (b s : Int) (j d : List UInt8) : (addStep (F, b, j) (s, d)).1.length ≤ F.length + 1 ∧ (addStep (F, b, j) (s, d)).2.2.length ≤ j.length + d.length := by
  unfold addStep
  split
  · simp
  · simp only [List.length_append, List.length_take, List.length_drop]
    refine ⟨by lia, by omega⟩

theorem bindT_pair {x y : Nat} {a b : At} {ρ : En} : bindT (.many [x, y]) (.tup [a, b]) ρ = some (upd (upd ρ x (some (.a a))) y (some (.a b))) := rfl

theorem add_loop (n : Nat) {f l : Nat} {σ₀ : St} (hfl : l ≠ f) : ∀ (P : List Pc) {ρ : En} {σ : St} {F : List Pc} {b : Int} {j : List UInt8}, ρ 3 = some (.loc f) → ρ 4 = some (.int b) → ρ 5 = some (.bytes j) →
    σ.get f = some (.list (F.map pc)) → l < σ.next → σ.obj l = σ₀.obj l → F.length + P.length < 1000 → j.length + tot P ≤ 100000 →
    ∃ ρ' σ', forl (.many [6, 7]) (some l) σ₀ (exs (ex (n + 12)) addBody) (P.map pc) ρ σ = some (.next, ρ', σ') ∧ ρ' 3 = some (.loc f) ∧ ρ' 4 = some (.int (P.foldl addStep (F, b, j)).2.1) ∧ ρ' 5 = some (.bytes (P.foldl addStep (F, b, j)).2.2) ∧
      σ'.get f = some (.list ((P.foldl addStep (F, b, j)).1.map pc)) ∧ Fr [f] σ σ' ∧ σ'.next = σ.next
  | [], ρ, σ, F, b, j, h3, h4, h5, hf, _, _, _, _ => ⟨ρ, σ, forl_nil, h3, h4, h5, hf, Fr.refl, rfl⟩
  | (s, d) :: P, ρ, σ, F, b, j, h3, h4, h5, hf, hl, ho, hF, hj => by
    rw [tot_cons] at hj
    simp only [List.length_cons] at hF
    dsimp only at hj
    refine el_EEAAAA (add_turn n (ρ := upd (upd ρ 6 (some (.int s))) 7 (some (.bytes d))) (σ := σ) (f := f) (F := F) (b := b) (s := s) (j := j) (d := d) h3 h4 h5 rfl rfl hf (by lia) (by lia)) fun ρ₁ σ₁ e g3 g4 g5 hq1 => ?_; refine el_AA hq1 fun gf fr nx => ?_; clear hq1
    refine el_A (addStep_len F b s j d) fun q1 q2 => ?_
    have ho₁ : σ₁.obj l = σ₀.obj l := (fr.keep l hl (by simpa using hfl)).trans ho
    refine el_EEAAAA (add_loop n hfl P (ρ := ρ₁) (σ := σ₁) (F := (addStep (F, b, j) (s, d)).1) (b := (addStep (F, b, j) (s, d)).2.1) (j := (addStep (F, b, j) (s, d)).2.2) g3 g4 g5 gf (by lia) ho₁ (by lia) (by lia)) fun ρ₂ σ₂ e' k3 k4 k5 hq2 => ?_; refine el_AA hq2 fun kf fr' nx' => ?_; clear hq2
    refine ⟨ρ₂, σ₂, ?_, k3, k4, k5, kf, fr.trans fr', nx'.trans nx⟩
    rw [List.map_cons]
    exact (forl_cons (ρ₁ := upd (upd ρ 6 (some (.int s))) 7 (some (.bytes d))) rfl e (by simp [chk, ho₁])).trans e'

noncomputable def addR (P : List Pc) (o : Int) (d : List UInt8) : List Pc :=
  let q := P.foldl addStep ([], o, d)
  insAt (insPos q.2.1 (q.1.map (·.1))) (q.1 ++ [(q.2.1, q.2.2)])

theorem insAt_map {α β : Type} (g : α → β) (pos : Nat) (l : List α) : insAt pos (l.map g) = (insAt pos l).map g := by
  unfold insAt
  simp only [List.length_map, List.map_append, List.map_take, List.map_drop]

theorem insAt_le {α : Type} (pos : Nat) (l : List α) : (insAt pos l).length ≤ l.length + 1 := by
  unfold insAt
  simp only [List.length_append, List.length_take, List.length_drop]
  omega
theorem addR_len (P : List Pc) (o : Int) (d : List UInt8) : (addR P o d).length ≤ (P.foldl addStep ([], o, d)).1.length + 2 := by
  unfold addR
  refine Nat.le_trans (insAt_le _ _) ?_
  simp

theorem heads_pc : ∀ (P : List Pc), heads (P.map pc) = some (P.map (·.1))
  | [] => rfl
  | p :: P => by
    rw [List.map_cons, heads, heads_pc P]
    simp [pc, headI]

theorem sortT_pc {F : List Pc} {b : Int} {j : List UInt8} (hp : (F.map (·.1)).Pairwise (· < ·)) (hb : b ∉ F.map (·.1)) (hl : F.length < 63) :
    sortT ((F ++ [(b, j)]).map pc) = some ((insAt (insPos b (F.map (·.1))) (F ++ [(b, j)])).map pc) := by
  unfold sortT
  rw [heads_pc]
  have h1 : ((F ++ [(b, j)]).map (·.1)).length - 1 = F.length := by simp
  have h2 : ((F ++ [(b, j)]).map (·.1)).take F.length = F.map (·.1) := by
    rw [List.map_append, List.take_append_of_le_length (by simp), List.take_of_length_le (by simp)]
  have h3 : ((F ++ [(b, j)]).map (·.1)).getD F.length 0 = b := by simp [List.getD]
  show (if _ then _ else _) = _
  rw [h1, h2, h3, if_pos ⟨by simp, by simp; lia, hp, hb⟩, insAt_map]

/-- a fresh list -/
structure Out (σ : St) (r : Nat) (xs : List AV) (σ' : St) : Prop where
  get : σ'.get r = some (.list xs)
  fr : Fr [] σ σ'
  wf : WfS σ'
  new : σ.next ≤ r
  lt : r < σ'.next

theorem newL_out {σ σ' : St} {xs : List AV} (fr : Fr [] σ σ') (wf : WfS σ') (h : xs.length ≤ 1000000) : newL xs σ' = some (.loc σ'.next, σ'.alloc (.list xs)) ∧ Out σ σ'.next xs (σ'.alloc (.list xs)) := by
  unfold newL
  rw [if_pos (by unfold lim; exact h)]
  exact ⟨rfl, by rw [get_alloc, if_pos rfl], fr.trans fr_alloc, wf_alloc wf, fr.le, Nat.lt_succ_self _⟩

theorem run_add (n : Nat) {σ : St} {l : Nat} {P : List Pc} {o : Int} {d : List UInt8} (wf : WfS σ) (hl : σ.get l = some (.list (P.map pc))) (hd : d ≠ []) (hP : P.length < 60) (ht : d.length + tot P ≤ 100000)
    (hs : ((P.foldl addStep ([], o, d)).1.map (·.1)).Pairwise (· < ·)) (hb : (P.foldl addStep ([], o, d)).2.1 ∉ (P.foldl addStep ([], o, d)).1.map (·.1)) (hlen : (P.foldl addStep ([], o, d)).1.length < 63) :
    ∃ r σ', runF (n + 14) 0 [.loc l, .int o, .bytes d] σ = some (.loc r, σ') ∧ Out σ r ((addR P o d).map pc) σ' := by
  have hlt := get_lt wf hl
  have hne : l ≠ σ.next := Nat.ne_of_lt hlt
  have hd' : ¬ ((d.length : Int) = 0) := by
    intro h; apply hd; exact List.length_eq_zero_iff.mp (by lia)
  generalize hρ0 : upd (upd (upd noEn 0 (some (.loc l))) 1 (some (.int o))) 2 (some (.bytes d)) = ρ₀
  have g0 : ρ₀ 0 = some (.loc l) := by rw [← hρ0]; rfl
  have g1 : ρ₀ 1 = some (.int o) := by rw [← hρ0]; rfl
  have g2 : ρ₀ 2 = some (.bytes d) := by rw [← hρ0]; rfl
  generalize hσ1 : σ.alloc (.list []) = σ₁
  have wf₁ : WfS σ₁ := by rw [← hσ1]; exact wf_alloc wf
  have fr₁ : Fr [] σ σ₁ := by rw [← hσ1]; exact fr_alloc
  have nx₁ : σ₁.next = σ.next + 1 := by rw [← hσ1]; rfl
  have gf : σ₁.get σ.next = some (.list (([] : List Pc).map pc)) := by rw [← hσ1, get_alloc, if_pos rfl]; rfl
  have gl : σ₁.get l = some (.list (P.map pc)) := by rw [← hσ1, get_alloc, if_neg hne]; exact hl
  generalize hρ1 : upd (upd (upd ρ₀ 3 (some (.loc σ.next))) 4 (some (.int o))) 5 (some (.bytes d)) = ρ₁
  have k0 : ρ₁ 0 = some (.loc l) := by rw [← hρ1]; exact g0
  have k3 : ρ₁ 3 = some (.loc σ.next) := by rw [← hρ1]; rfl
  have k4 : ρ₁ 4 = some (.int o) := by rw [← hρ1]; rfl
  have k5 : ρ₁ 5 = some (.bytes d) := by rw [← hρ1]; rfl
  refine el_EEAAAA (add_loop (n + 1) (σ₀ := σ₁) hne P k3 k4 k5 gf (by lia) rfl (by simp; lia) (by omega)) fun ρ₂ σ₂ e m3 m4 m5 hq3 => ?_; refine el_AA hq3 fun mf fr₂ nx₂ => ?_; clear hq3
  generalize hq : P.foldl addStep ([], o, d) = q at *
  obtain ⟨F, b, j⟩ := q
  dsimp only at hs hb hlen m3 m4 m5 mf
  have wf₂ : WfS σ₂ := fr₂.wf wf₁
  have fr₂' : Fr [] σ σ₂ := fr₁.fresh fr₂ (by simp)
  -- the end
  have W3 := wf_alloc (d := .list [pc (b, j)]) wf₂
  refine el_A (newL_out (xs := [pc (b, j)]) fr₂' wf₂ (by simp)) fun n1 O1 => ?_
  have hF3 : (σ₂.alloc (.list [pc (b, j)])).get σ.next = some (.list (F.map pc)) := by
    rw [get_alloc, if_neg (by have := fr₂.le; lia)]; exact mf
  refine el_A (newL_out (xs := (F ++ [(b, j)]).map pc) O1.fr O1.wf (by simp; lia)) fun n2 O2 => ?_
  refine el_A (newL_out (xs := (addR P o d).map pc) O2.fr O2.wf (by have := (addR_len P o d); rw [hq] at this; simp; simp at this; lia)) fun n3 O3 => ?_
  refine ⟨_, _, runF_ret (d := f0) (ρ := ρ₀) (ρ' := ρ₂) rfl (by rw [← hρ0]; rfl) ?_, O3⟩
  have s1 : ex (n + 14) (.ite (.cmp (.bif .len [.var 2]) .eq (.int 0)) [.ret (.bif .list [.var 0])] []) ρ₀ σ = some (.next, ρ₀, σ) := by
    refine (ex_ite_f ?_).trans exs_nil
    simp [ev, evs, abif, acmp, aeq, kinV, kin, g2, hd, AV.by, St.on, args, no, no2, int2, eqB, eqN]
  have s2 : ex (n + 14) (.setT [3, 4, 5] (.tup [.list [], .var 1, .bif .bytes [.var 2]])) ρ₀ σ = some (.next, ρ₁, σ₁) := by
    refine ex_setT (v := .tup [.loc σ.next, .int o, .bytes d]) ?_ (by rw [← hρ1]; rfl)
    simp [ev, evs, abif, newL, atomsOf, g1, g2, lim, hσ1, AV.by, St.on, args, no, no2, int2]
  have s3 : ex (n + 14) (.forT (.many [6, 7]) (.var 0) addBody) ρ₁ σ₁ = some (.next, ρ₂, σ₂) := by
    refine (ex_for (items := P.map pc) (wl := some l) (σ' := σ₁) ?_).trans e
    simp [itemsOf, ev, k0, gl]
  have s4 : ev (n + 13) ρ₂ (.bif .sorted [.bin .add (.var 3) (.list [.tup [.var 4, .var 5]])]) σ₂ = newL ((addR P o d).map pc) ((σ₂.alloc (.list [pc (b, j)])).alloc (.list ((F ++ [(b, j)]).map pc))) := by
    have hs3 := sortT_pc (j := j) hs hb hlen
    have hR : addR P o d = insAt (insPos b (F.map (·.1))) (F ++ [(b, j)]) := by unfold addR; rw [hq]
    rw [hR]
    have hc : ((F ++ [(b, j)]).map pc) = F.map pc ++ [.tup [.int b, .bytes j]] := by simp [pc]
    have hc1 : pc (b, j) = .tup [.int b, .bytes j] := rfl
    have n2' : newL (F.map pc ++ [.tup [.int b, .bytes j]]) (σ₂.alloc (.list [pc (b, j)])) = some (.loc (σ₂.next + 1), (σ₂.alloc (.list [pc (b, j)])).alloc (.list (F.map pc ++ [.tup [.int b, .bytes j]]))) := by rw [← hc]; exact n2
    have g2' : ((σ₂.alloc (.list [pc (b, j)])).alloc (.list (F.map pc ++ [.tup [.int b, .bytes j]]))).get (σ₂.next + 1) = some (.list (F.map pc ++ [.tup [.int b, .bytes j]])) := by rw [get_alloc]; exact if_pos rfl
    have g1' : (σ₂.alloc (.list [pc (b, j)])).get σ₂.next = some (.list [.tup [.int b, .bytes j]]) := by rw [get_alloc]; exact if_pos rfl
    have n1' : newL [.tup [.int b, .bytes j]] σ₂ = some (.loc σ₂.next, σ₂.alloc (.list [pc (b, j)])) := n1
    rw [hc]
    rw [hc] at hs3
    simp only [ev, evs, abif, abin, atomsOf, m3, m4, m5, Option.bind_some, Option.map_some, n1', hF3, g1', n2', g2', hs3, AV.by, St.on, args, no, no2, int2]
    simp [lim, n1', hF3, g1', n2', g2', hs3]
  show exs (ex (n + 14)) [.ite (.cmp (.bif .len [.var 2]) .eq (.int 0)) [.ret (.bif .list [.var 0])] [], .setT [3, 4, 5] (.tup [.list [], .var 1, .bif .bytes [.var 2]]), .forT (.many [6, 7]) (.var 0) addBody, .ret (.bif .sorted [.bin .add (.var 3) (.list [.tup [.var 4, .var 5]])])] ρ₀ σ = _
  rw [exs_next s1, exs_next s2, exs_next s3]
  exact exs_ret (ex_ret (s4.trans n3))
end Mine

/-! LawH -/
namespace Mine

theorem run_add0 (n : Nat) {σ : St} {l : Nat} {xs : List AV} {o : Int} (wf : WfS σ) (hl : σ.get l = some (.list xs)) (hP : xs.length ≤ 1000000) :
    ∃ r σ', runF (n + 14) 0 [.loc l, .int o, .bytes []] σ = some (.loc r, σ') ∧ Out σ r xs σ' := by
  refine el_A (newL_out (σ := σ) (xs := xs) Fr.refl wf hP) fun n1 O1 => ?_
  refine ⟨_, _, runF_ret (d := f0) (ρ := upd (upd (upd noEn 0 (some (.loc l))) 1 (some (.int o))) 2 (some (.bytes []))) (ρ' := upd (upd (upd noEn 0 (some (.loc l))) 1 (some (.int o))) 2 (some (.bytes []))) rfl rfl ?_, O1⟩
  refine exs_ret ((ex_ite_t (σ' := σ) ?_).trans (exs_ret (ex_ret ?_)))
  · simp [ev, evs, abif, acmp, aeq, kinV, kin, updD, AV.by, St.on, args, no, no2, int2, eqB, eqN]
  · simp [ev, evs, abif, updD, hl, n1, AV.by, St.on, args, no, no2, int2]

/-! agrees -/
noncomputable def agree1 (o : Int) (d : List UInt8) (p : Pc) : Bool :=
  !(decide (max p.1 o < min (p.1 + p.2.length) (o + d.length)) && !decide ((p.2.take (min (p.1 + p.2.length) (o + d.length) - p.1).toNat).drop (max p.1 o - p.1).toNat = (d.take (min (p.1 + p.2.length) (o + d.length) - o).toNat).drop (max p.1 o - o).toNat))

noncomputable def agBody : List Y := match f5.body with
  | [.forT _ _ b, _] => b
  | _ => []

theorem agree_turn (n : Nat) {ρ : En} {σ : St} {s o : Int} {e d : List UInt8} (h1 : ρ 1 = some (.int o)) (h2 : ρ 2 = some (.bytes d)) (h6 : ρ 6 = some (.int s)) (h7 : ρ 7 = some (.bytes e)) :
    ∃ ρ', exs (ex (n + 12)) agBody ρ σ = some (if agree1 o d (s, e) then .next else .ret (.bool false), ρ', σ) ∧ ρ' 1 = some (.int o) ∧ ρ' 2 = some (.bytes d) := by
  have hb : agBody = [.setT [14, 15] (.tup [.bif .max [.var 6, .var 1], .bif .min [.bin .add (.var 6) (.bif .len [.var 7]), .bin .add (.var 1) (.bif .len [.var 2])]]),
        .ite (.and (.cmp (.var 14) .lt (.var 15)) (.cmp (.cut (.var 7) (some (.bin .sub (.var 14) (.var 6))) (some (.bin .sub (.var 15) (.var 6)))) .ne (.cut (.var 2) (some (.bin .sub (.var 14) (.var 1))) (some (.bin .sub (.var 15) (.var 1))))))
          [
            .ret (.bool false)]
          []] := rfl
  rw [hb]
  have e1 : ex (n + 12) (.setT [14, 15] (.tup [.bif .max [.var 6, .var 1], .bif .min [.bin .add (.var 6) (.bif .len [.var 7]), .bin .add (.var 1) (.bif .len [.var 2])]])) ρ σ = some (.next, upd (upd ρ 14 (some (.int (max s o)))) 15 (some (.int (min (s + e.length) (o + d.length)))), σ) := by
    refine ex_setT (v := .tup [.int (max s o), .int (min (s + e.length) (o + d.length))]) ?_ rfl
    simp [ev, evs, abif, abin, atomsOf, h1, h2, h6, h7, lim, AV.by, St.on, args, no, no2, int2]
  rw [exs_next e1]
  unfold agree1
  generalize hx : max s o = lo
  generalize hy : min (s + (e.length : Int)) (o + (d.length : Int)) = hi
  generalize hρ : upd (upd ρ 14 (some (.int lo))) 15 (some (.int hi)) = ρ₁
  have g1 : ρ₁ 1 = some (.int o) := by rw [← hρ]; exact h1
  have g2 : ρ₁ 2 = some (.bytes d) := by rw [← hρ]; exact h2
  have g6 : ρ₁ 6 = some (.int s) := by rw [← hρ]; exact h6
  have g7 : ρ₁ 7 = some (.bytes e) := by rw [← hρ]; exact h7
  have g14 : ρ₁ 14 = some (.int lo) := by rw [← hρ]; rfl
  have g15 : ρ₁ 15 = some (.int hi) := by rw [← hρ]; rfl
  have n1 : s ≤ lo := by omega
  have n2 : o ≤ lo := by omega
  refine ⟨ρ₁, ?_, g1, g2⟩
  by_cases hc : lo < hi
  · have n3 : s ≤ hi := by omega
    have n4 : o ≤ hi := by omega
    have q1 : ev (n + 9) ρ₁ (.cut (.var 7) (some (.bin .sub (.var 14) (.var 6))) (some (.bin .sub (.var 15) (.var 6)))) σ = some (.bytes ((e.take (hi - s).toNat).drop (lo - s).toNat), σ) := by
      simp [ev, evo, abin, acut, bound, g6, g7, g14, g15, n1, n3, AV.by, St.on, int2, no]
    have q2 : ev (n + 9) ρ₁ (.cut (.var 2) (some (.bin .sub (.var 14) (.var 1))) (some (.bin .sub (.var 15) (.var 1)))) σ = some (.bytes ((d.take (hi - o).toNat).drop (lo - o).toNat), σ) := by
      simp [ev, evo, abin, acut, bound, g1, g2, g14, g15, n2, n4, AV.by, St.on, int2, no]
    by_cases hq : (e.take (hi - s).toNat).drop (lo - s).toNat = (d.take (hi - o).toNat).drop (lo - o).toNat
    · refine (exs_one (ρ₁ := ρ₁) (σ₁ := σ) ((ex_ite_f (σ' := σ) ?_).trans exs_nil)).trans (by simp [hc, hq])
      refine (ev_and_t (ev_cmp (ev_var g14) (ev_var g15) (b := true) (by simp [acmp, hc, AV.by, St.on, int2, no]))).trans (ev_cmp q1 q2 ?_)
      simp [acmp, aeq, kinV, kin, hq, AV.by, St.on, int2, no, eqB, eqN]
    · refine (exs_ret (v := .bool false) (ρ₁ := ρ₁) (σ₁ := σ) ((ex_ite_t (σ' := σ) ?_).trans (exs_ret (ex_ret ?_)))).trans (by simp [hc, hq])
      · refine (ev_and_t (ev_cmp (ev_var g14) (ev_var g15) (b := true) (by simp [acmp, hc, AV.by, St.on, int2, no]))).trans (ev_cmp q1 q2 ?_)
        simp [acmp, aeq, kinV, kin, hq, AV.by, St.on, int2, no, eqB, eqN]
      · simp [ev]
  · refine (exs_one (ρ₁ := ρ₁) (σ₁ := σ) ((ex_ite_f (σ' := σ) ?_).trans exs_nil)).trans (by simp [hc])
    refine ev_and_f (ev_cmp (ev_var g14) (ev_var g15) ?_)
    simp [acmp, hc, AV.by, St.on, int2, no]

theorem agree_loop (n : Nat) {l : Nat} {σ : St} {o : Int} {d : List UInt8} : ∀ (P : List Pc) {ρ : En}, ρ 1 = some (.int o) → ρ 2 = some (.bytes d) →
    ∃ ρ', forl (.many [6, 7]) (some l) σ (exs (ex (n + 12)) agBody) (P.map pc) ρ σ = some (if P.all (agree1 o d) then .next else .ret (.bool false), ρ', σ)
  | [], ρ, _, _ => ⟨ρ, rfl⟩
  | (s, e) :: P, ρ, h1, h2 => by
    refine el_EAA (agree_turn n (ρ := upd (upd ρ 6 (some (.int s))) 7 (some (.bytes e))) (σ := σ) (s := s) (e := e) (o := o) (d := d) h1 h2 rfl rfl) fun ρ₁ ee g1 g2 => ?_
    rw [List.map_cons]
    by_cases ha : agree1 o d (s, e) = true
    · rw [if_pos ha] at ee
      obtain ⟨ρ₂, e'⟩ := agree_loop n P g1 g2
      refine ⟨ρ₂, (forl_cons (ρ₁ := upd (upd ρ 6 (some (.int s))) 7 (some (.bytes e))) rfl ee (by simp [chk])).trans ?_⟩
      rw [e', List.all_cons, ha, Bool.true_and]
    · rw [if_neg ha] at ee
      refine ⟨ρ₁, (forl_ret (ρ₁ := upd (upd ρ 6 (some (.int s))) 7 (some (.bytes e))) rfl ee).trans ?_⟩
      simp [ha]

theorem run_agrees (n : Nat) {σ : St} {l : Nat} {P : List Pc} {o : Int} {d : List UInt8} (hl : σ.get l = some (.list (P.map pc))) : runF (n + 14) 5 [.loc l, .int o, .bytes d] σ = some (.bool (P.all (agree1 o d)), σ) := by
  generalize hρ0 : upd (upd (upd noEn 0 (some (.loc l))) 1 (some (.int o))) 2 (some (.bytes d)) = ρ₀
  have g0 : ρ₀ 0 = some (.loc l) := by rw [← hρ0]; rfl
  have g1 : ρ₀ 1 = some (.int o) := by rw [← hρ0]; rfl
  have g2 : ρ₀ 2 = some (.bytes d) := by rw [← hρ0]; rfl
  refine el_E (agree_loop (n + 1) (l := l) (σ := σ) P g1 g2) fun ρ' e => ?_
  have s1 : ex (n + 14) (.forT (.many [6, 7]) (.var 0) agBody) ρ₀ σ = some (if P.all (agree1 o d) then .next else .ret (.bool false), ρ', σ) := by
    refine (ex_for (items := P.map pc) (wl := some l) (σ' := σ) ?_).trans e
    simp [itemsOf, ev, g0, hl]
  refine runF_ret (d := f5) (ρ := ρ₀) (ρ' := ρ') rfl (by rw [← hρ0]; rfl) ?_
  show exs (ex (n + 14)) [.forT (.many [6, 7]) (.var 0) agBody, .ret (.bool true)] ρ₀ σ = _
  cases ha : P.all (agree1 o d) with
  | true => rw [ha] at s1; rw [exs_next s1]; exact exs_ret (ex_ret (by simp [ev]))
  | false => rw [ha] at s1; exact exs_ret s1

/-! octet_at -/
noncomputable def octIn (at' : Int) (p : Pc) : Bool := decide (p.1 ≤ at' ∧ at' < p.1 + p.2.length)
noncomputable def octF (at' : Int) : List Pc → AV
  | [] => .none
  | p :: P => if octIn at' p then (match p.2[(at' - p.1).toNat]? with | some u => .int u.toNat | none => .none) else octF at' P

noncomputable def octBody : List Y := match f4.body with
  | [.forT _ _ b, _] => b
  | _ => []

theorem oct_cond (n : Nat) {ρ : En} {σ : St} {s a : Int} {e : List UInt8} (h12 : ρ 12 = some (.int a)) (h6 : ρ 6 = some (.int s)) (h7 : ρ 7 = some (.bytes e)) :
    ev (n + 8) ρ (.cmp2 (.var 6) .le (.var 12) .lt (.bin .add (.var 6) (.bif .len [.var 7]))) σ = some (.bool (octIn a (s, e)), σ) := by
  unfold octIn
  by_cases h1 : s ≤ a
  · have q : ev (n + 7) ρ (.bin .add (.var 6) (.bif .len [.var 7])) σ = some (.int (s + e.length), σ) := by
      refine (ev_bin (ev_var h6) (w := .int e.length) (σ₂ := σ) ?_).trans (by simp [abin, AV.by, St.on, int2, no])
      simp [ev, evs, abif, h7, AV.by, St.on, args, no, no2, int2]
    refine ev_cmp2_t (ev_var h6) (ev_var h12) (by simp [acmp, h1, AV.by, St.on, int2, no]) q ?_
    simp [acmp, h1, AV.by, St.on, int2, no]
  · refine (ev_cmp2_f (ev_var h6) (ev_var h12) (by simp [acmp, AV.by, St.on, int2, no]; omega)).trans ?_
    simp [h1]

theorem octIn_get {a : Int} {p : Pc} (h : octIn a p = true) : 0 ≤ a - p.1 ∧ ∃ u, p.2[(a - p.1).toNat]? = some u := by
  simp only [octIn, decide_eq_true_eq] at h
  refine ⟨by omega, ?_⟩
  have : (a - p.1).toNat < p.2.length := by omega
  exact ⟨p.2[(a - p.1).toNat], by simp [this]⟩

theorem oct_loop (n : Nat) {l : Nat} {σ : St} {a : Int} : ∀ (P : List Pc) {ρ : En}, ρ 12 = some (.int a) →
    ∃ ρ', forl (.many [6, 7]) (some l) σ (exs (ex (n + 12)) octBody) (P.map pc) ρ σ = some (if P.any (octIn a) then .ret (octF a P) else .next, ρ', σ)
  | [], ρ, _ => ⟨ρ, rfl⟩
  | (s, e) :: P, ρ, h => by
    generalize hρ : upd (upd ρ 6 (some (.int s))) 7 (some (.bytes e)) = ρ₁
    have g12 : ρ₁ 12 = some (.int a) := by rw [← hρ]; exact h
    have g6 : ρ₁ 6 = some (.int s) := by rw [← hρ]; rfl
    have g7 : ρ₁ 7 = some (.bytes e) := by rw [← hρ]; rfl
    have hc := oct_cond (n + 3) (σ := σ) g12 g6 g7
    have hb : octBody = [.ite (.cmp2 (.var 6) .le (.var 12) .lt (.bin .add (.var 6) (.bif .len [.var 7]))) [.ret (.idx (.var 7) (.bin .sub (.var 12) (.var 6)))] []] := rfl
    rw [List.map_cons]
    by_cases ho : octIn a (s, e) = true
    · rw [ho] at hc
      refine el_AE (octIn_get ho) fun n1 u hu => ?_
      have n2 : s ≤ a := by have : 0 ≤ a - s := n1; omega
      dsimp only at hu
      have e1 : exs (ex (n + 12)) octBody ρ₁ σ = some (.ret (.int u.toNat), ρ₁, σ) := by
        rw [hb]
        refine exs_ret ((ex_ite_t hc).trans (exs_ret (ex_ret ?_)))
        simp [ev, abin, aidx, g12, g6, g7, n2, hu, AV.by, St.on, int2, no]
      refine ⟨ρ₁, (forl_ret (ρ₁ := ρ₁) (by rw [← hρ]; rfl) e1).trans ?_⟩
      simp [ho, octF, hu]
    · have ho' : octIn a (s, e) = false := by simpa using ho
      rw [ho'] at hc
      have e1 : exs (ex (n + 12)) octBody ρ₁ σ = some (.next, ρ₁, σ) := by
        rw [hb]
        exact exs_one ((ex_ite_f hc).trans exs_nil)
      obtain ⟨ρ₂, e'⟩ := oct_loop n P g12
      refine ⟨ρ₂, (forl_cons (ρ₁ := ρ₁) (by rw [← hρ]; rfl) e1 (by simp [chk])).trans ?_⟩
      rw [e', List.any_cons, ho', Bool.false_or, octF, ho']; rfl

theorem octF_none {a : Int} : ∀ {P : List Pc}, P.any (octIn a) = false → octF a P = .none
  | [], _ => rfl
  | p :: P, h => by
    simp only [List.any_cons, Bool.or_eq_false_iff] at h
    rw [octF, h.1]
    exact octF_none h.2

theorem run_oct (n : Nat) {σ : St} {l : Nat} {P : List Pc} {a : Int} (hl : σ.get l = some (.list (P.map pc))) : runF (n + 14) 4 [.loc l, .int a] σ = some (octF a P, σ) := by
  generalize hρ0 : upd (upd noEn 0 (some (.loc l))) 12 (some (.int a)) = ρ₀
  have g0 : ρ₀ 0 = some (.loc l) := by rw [← hρ0]; rfl
  have g12 : ρ₀ 12 = some (.int a) := by rw [← hρ0]; rfl
  refine el_E (oct_loop (n + 1) (l := l) (σ := σ) P g12) fun ρ' e => ?_
  have s1 : ex (n + 14) (.forT (.many [6, 7]) (.var 0) octBody) ρ₀ σ = some (if P.any (octIn a) then .ret (octF a P) else .next, ρ', σ) := by
    refine (ex_for (items := P.map pc) (wl := some l) (σ' := σ) ?_).trans e
    simp [itemsOf, ev, g0, hl]
  refine runF_ret (d := f4) (ρ := ρ₀) (ρ' := ρ') rfl (by rw [← hρ0]; rfl) ?_
  show exs (ex (n + 14)) [.forT (.many [6, 7]) (.var 0) octBody, .ret .none] ρ₀ σ = _
  cases ha : P.any (octIn a) with
  | true => rw [ha] at s1; exact exs_ret s1
  | false => rw [ha] at s1; rw [exs_next s1, octF_none ha]; exact exs_ret (ex_ret (by simp [ev]))
end Mine

/-! LawI -/
namespace Mine

theorem compl_filter {tg : Tg} {w : Option Nat} {σ₀ σ : St} {c : En → St → Option (Bool × St)} {el : En → St → Option (AV × St)} {J : En → Prop} {p : AV → Bool} {g : AV → AV} (hc : chk w σ₀ σ = true) :
    ∀ (items : List AV) {ρ : En}, (∀ v ∈ items, ∀ ρ, J ρ → ∃ ρ₁, bindT tg v ρ = some ρ₁ ∧ J ρ₁ ∧ c ρ₁ σ = some (p v, σ) ∧ (p v = true → el ρ₁ σ = some (g v, σ))) → J ρ → compl tg w σ₀ c el items ρ σ = some ((items.filter p).map g, σ)
  | [], ρ, _, _ => rfl
  | v :: items, ρ, h, hJ => by
    refine el_EAAA (h v List.mem_cons_self ρ hJ) fun ρ₁ h1 h2 h3 h4 => ?_
    have ih := compl_filter hc items (fun v hv => h v (List.mem_cons_of_mem _ hv)) h2
    rw [compl, h1]
    show ((c ρ₁ σ).bind _) = _
    rw [h3]
    cases hp : p v with
    | true =>
      show ((el ρ₁ σ).bind _) = _
      rw [h4 hp]
      show (if chk w σ₀ σ = true then ((compl tg w σ₀ c el items ρ₁ σ).bind _) else none) = _
      rw [if_pos hc, ih]
      simp [hp]
    | false =>
      show (if chk w σ₀ σ = true then compl tg w σ₀ c el items ρ₁ σ else none) = _
      rw [if_pos hc, ih]
      simp [hp]

theorem filter_true {α : Type} (l : List α) : l.filter (fun _ => true) = l := List.filter_eq_self.mpr fun _ _ => rfl

/-! covered -/
noncomputable def covF (p : Pc) : AV := .tup [.int p.1, .int (p.1 + p.2.length)]
noncomputable def covV : AV → AV
  | .tup [.int s, .bytes d] => .tup [.int s, .int (s + d.length)]
  | v => v
theorem covV_pc (p : Pc) : covV (pc p) = covF p := rfl

theorem run_cov (n : Nat) {σ : St} {l : Nat} {P : List Pc} (wf : WfS σ) (hl : σ.get l = some (.list (P.map pc))) (hz : P.length ≤ 1000000) : ∃ r σ', runF (n + 14) 3 [.loc l] σ = some (.loc r, σ') ∧ Out σ r (P.map covF) σ' := by
  refine el_A (newL_out (σ := σ) (xs := P.map covF) Fr.refl wf (by simpa using hz)) fun n1 O1 => ?_
  refine ⟨_, _, runF_ret (d := f3) (ρ := upd noEn 0 (some (.loc l))) (ρ' := upd noEn 0 (some (.loc l))) rfl rfl (exs_ret (ex_ret ?_)), O1⟩
  have hs : itemsOf (ev (n + 12) (upd noEn 0 (some (.loc l)))) (.var 0) σ = some (P.map pc, some l, σ) := by
    simp [itemsOf, ev, updD, hl]
  have hc := compl_filter (tg := .many [6, 7]) (w := some l) (σ₀ := σ) (σ := σ) (c := tsto (ev (n + 12)) none) (el := fun ρ' => ev (n + 12) ρ' (.tup [.var 6, .bin .add (.var 6) (.bif .len [.var 7])])) (J := fun _ => True) (p := fun _ => true) (g := covV) (by simp [chk]) (P.map pc) (ρ := restr [] (upd noEn 0 (some (.loc l)))) (fun v hv ρ _ => by
    refine el_EA (List.mem_map.mp hv) fun q _ hq1 => ?_; subst hq1
    refine ⟨upd (upd ρ 6 (some (.int q.1))) 7 (some (.bytes q.2)), rfl, trivial, rfl, fun _ => ?_⟩
    simp [ev, evs, abif, abin, atomsOf, updD, covV, pc, lim, AV.by, St.on, args, no, no2, int2]) trivial
  rw [filter_true, List.map_map] at hc
  have hm : (P.map (covV ∘ pc)) = P.map covF := rfl
  rw [hm] at hc
  exact (ev_comp hs hc).trans n1

/-! highest_of -/
noncomputable def highF (P : List Pc) : Int := match P.getLast? with
  | some p => p.1 + p.2.length
  | none => 0
theorem run_high (n : Nat) {σ : St} {l : Nat} {P : List Pc} (hl : σ.get l = some (.list (P.map pc))) : runF (n + 14) 2 [.loc l] σ = some (.int (highF P), σ) := by
  refine runF_ret (d := f2) (ρ := upd noEn 0 (some (.loc l))) (ρ' := upd noEn 0 (some (.loc l))) rfl rfl (exs_ret (ex_ret ?_))
  have hlen : ev (n + 11) (upd noEn 0 (some (.loc l))) (.bif .len [.var 0]) σ = some (.int P.length, σ) := by simp [ev, evs, abif, updD, hl, AV.by, St.on, args, no, no2, int2]
  cases hP : P.getLast? with
  | none =>
    have : P = [] := List.getLast?_eq_none_iff.mp hP
    subst this
    refine (ev_ife_t (σ' := σ) (ev_cmp hlen (w := .int 0) (by simp [ev]) (by simp [acmp, aeq, kinV, kin, AV.by, St.on, int2, no, eqB, eqN]))).trans ?_
    simp [ev, highF]
  | some p =>
    have hne : P ≠ [] := fun h => by subst h; simp at hP
    have hne' : ¬ ((P.length : Int) = 0) := by intro h; exact hne (List.length_eq_zero_iff.mp (by lia))
    refine (ev_ife_f (σ' := σ) (ev_cmp hlen (w := .int 0) (by simp [ev]) (by simp [acmp, aeq, kinV, kin, hne, AV.by, St.on, int2, no, eqB, eqN]))).trans ?_
    have hlast : ev (n + 9) (upd noEn 0 (some (.loc l))) (.idx (.var 0) .neg1) σ = some (pc p, σ) := by
      simp [ev, aidx, updD, hl, hP, AV.by, St.on, no]
    have h1 : ev (n + 11) (upd noEn 0 (some (.loc l))) (.idx (.idx (.var 0) .neg1) (.int 0)) σ = some (.int p.1, σ) := by
      simp [ev, aidx, updD, hl, hP, pc, AV.by, St.on, no]
    have h2 : ev (n + 11) (upd noEn 0 (some (.loc l))) (.bif .len [.idx (.idx (.var 0) .neg1) (.int 1)]) σ = some (.int p.2.length, σ) := by
      simp [ev, evs, abif, aidx, updD, hl, hP, pc, AV.by, St.on, args, no, no2, int2]
    refine (ev_bin h1 h2).trans ?_
    simp [abin, highF, hP, AV.by, St.on, int2, no]

/-! taken_from -/
noncomputable def takeStep (a : Int) (q : List UInt8 × List Pc) (p : Pc) : List UInt8 × List Pc :=
  if octIn a p then (p.2.drop (a - p.1).toNat, q.2) else if a < p.1 then (q.1, q.2 ++ [p]) else q
noncomputable def tkBody : List Y := match f1.body with
  | [_, .forT _ _ b, _] => b
  | _ => []

theorem take_loop (n : Nat) {f l : Nat} {σ₀ : St} {a : Int} (hfl : l ≠ f) : ∀ (P : List Pc) {ρ : En} {σ : St} {F : List Pc} {j : List UInt8}, ρ 12 = some (.int a) → ρ 13 = some (.loc f) → ρ 3 = some (.bytes j) →
    σ.get f = some (.list (F.map pc)) → l < σ.next → σ.obj l = σ₀.obj l → F.length + P.length < 1000 →
    ∃ ρ' σ', forl (.many [6, 7]) (some l) σ₀ (exs (ex (n + 12)) tkBody) (P.map pc) ρ σ = some (.next, ρ', σ') ∧ ρ' 13 = some (.loc f) ∧ ρ' 3 = some (.bytes (P.foldl (takeStep a) (j, F)).1) ∧
      σ'.get f = some (.list ((P.foldl (takeStep a) (j, F)).2.map pc)) ∧ Fr [f] σ σ' ∧ σ'.next = σ.next
  | [], ρ, σ, F, j, h12, h13, h3, hf, _, _, _ => ⟨ρ, σ, forl_nil, h13, h3, hf, Fr.refl, rfl⟩
  | (s, d) :: P, ρ, σ, F, j, h12, h13, h3, hf, hl, ho, hF => by
    simp only [List.length_cons] at hF
    generalize hρ : upd (upd ρ 6 (some (.int s))) 7 (some (.bytes d)) = ρ₁
    have g12 : ρ₁ 12 = some (.int a) := by rw [← hρ]; exact h12
    have g13 : ρ₁ 13 = some (.loc f) := by rw [← hρ]; exact h13
    have g3 : ρ₁ 3 = some (.bytes j) := by rw [← hρ]; exact h3
    have g6 : ρ₁ 6 = some (.int s) := by rw [← hρ]; rfl
    have g7 : ρ₁ 7 = some (.bytes d) := by rw [← hρ]; rfl
    have hc := oct_cond (n + 3) (σ := σ) g12 g6 g7
    have hb : tkBody = [.ite (.cmp2 (.var 6) .le (.var 12) .lt (.bin .add (.var 6) (.bif .len [.var 7]))) [.set 3 (.cut (.var 7) (some (.bin .sub (.var 12) (.var 6))) none)]
      [.ite (.cmp (.var 6) .gt (.var 12)) [.exp (.met .append (.var 13) [.tup [.var 6, .var 7]])] []]] := rfl
    rw [List.map_cons, List.foldl_cons]
    have hbt : bindT (.many [6, 7]) (pc (s, d)) ρ = some ρ₁ := by rw [← hρ]; rfl
    by_cases ho1 : octIn a (s, d) = true
    · rw [ho1] at hc
      refine el_AE (octIn_get ho1) fun n1 u hu => ?_
      have n2 : s ≤ a := by have : 0 ≤ a - s := n1; lia
      have e1 : exs (ex (n + 12)) tkBody ρ₁ σ = some (.next, upd ρ₁ 3 (some (.bytes (d.drop (a - s).toNat))), σ) := by
        rw [hb]
        refine exs_one ((ex_ite_t hc).trans (exs_one (ex_set ?_)))
        simp [ev, evo, abin, acut, bound, g12, g6, g7, n2, AV.by, St.on, int2, no]
      have hst : takeStep a (j, F) (s, d) = (d.drop (a - s).toNat, F) := by unfold takeStep; rw [if_pos ho1]
      refine el_EEAAAAA (take_loop n (a := a) hfl P (ρ := upd ρ₁ 3 (some (.bytes (d.drop (a - s).toNat)))) (σ := σ) (F := F) (j := d.drop (a - s).toNat) g12 g13 rfl hf hl ho (by omega)) fun ρ₂ σ₂ e' k13 k3 kf fr nx => ?_
      rw [hst]
      exact ⟨ρ₂, σ₂, (forl_cons hbt e1 (by simp [chk, ho])).trans e', k13, k3, kf, fr, nx⟩
    · have ho' : octIn a (s, d) = false := by simpa using ho1
      rw [ho'] at hc
      by_cases hgt : a < s
      · have hst : takeStep a (j, F) (s, d) = (j, F ++ [(s, d)]) := by unfold takeStep; rw [if_neg ho1, if_pos hgt]
        have ep : σ.put f (.list (F.map pc ++ [.tup [.int s, .bytes d]])) = some (σ.w f (.list (F.map pc ++ [.tup [.int s, .bytes d]]))) := put_w hf
        have hl2 : F.length < 1000000 := by omega
        have e1 : exs (ex (n + 12)) tkBody ρ₁ σ = some (.next, ρ₁, σ.w f (.list (F.map pc ++ [.tup [.int s, .bytes d]]))) := by
          rw [hb]
          refine exs_one ((ex_ite_f hc).trans (exs_one ((ex_ite_t (σ' := σ) (ev_cmp (ev_var g6) (ev_var g12) (by simp [acmp, hgt, AV.by, St.on, int2, no]))).trans (exs_one (ex_exp (v := .none) ?_)))))
          simp [ev, evs, atomsOf, kindOf, amet, AD.isL, g13, g6, g7, lim, hf, hl2, ep, AV.by, St.on, args, no, no2, popHead]
        have fr1 : Fr [f] σ (σ.w f (.list (F.map pc ++ [.tup [.int s, .bytes d]]))) := fr_w hf (by simp)
        have ho2 : (σ.w f (.list (F.map pc ++ [.tup [.int s, .bytes d]]))).obj l = σ₀.obj l := (fr1.keep l hl (by simpa using hfl)).trans ho
        refine el_EEAAAAA (take_loop n (a := a) hfl P (ρ := ρ₁) (σ := σ.w f (.list (F.map pc ++ [.tup [.int s, .bytes d]]))) (F := F ++ [(s, d)]) (j := j) g12 g13 g3 (by rw [get_w, if_pos rfl]; simp [pc]) hl ho2 (by simp; omega)) fun ρ₂ σ₂ e' k13 k3 kf fr nx => ?_
        rw [hst]
        exact ⟨ρ₂, σ₂, (forl_cons hbt e1 (by simp [chk, ho2])).trans e', k13, k3, kf, fr1.trans fr, nx⟩
      · have hst : takeStep a (j, F) (s, d) = (j, F) := by unfold takeStep; rw [if_neg ho1, if_neg hgt]
        have e1 : exs (ex (n + 12)) tkBody ρ₁ σ = some (.next, ρ₁, σ) := by
          rw [hb]
          exact exs_one ((ex_ite_f hc).trans (exs_one ((ex_ite_f (σ' := σ) (ev_cmp (ev_var g6) (ev_var g12) (by simp [acmp, hgt, AV.by, St.on, int2, no]))).trans exs_nil)))
        refine el_EEAAAAA (take_loop n (a := a) hfl P (ρ := ρ₁) (σ := σ) (F := F) (j := j) g12 g13 g3 hf hl ho (by omega)) fun ρ₂ σ₂ e' k13 k3 kf fr nx => ?_
        rw [hst]
        exact ⟨ρ₂, σ₂, (forl_cons hbt e1 (by simp [chk, ho])).trans e', k13, k3, kf, fr, nx⟩

theorem run_taken (n : Nat) {σ : St} {l : Nat} {P : List Pc} {a : Int} (wf : WfS σ) (hl : σ.get l = some (.list (P.map pc))) (hP : P.length < 1000) :
    ∃ r σ', runF (n + 14) 1 [.loc l, .int a] σ = some (.tup [.bytes (P.foldl (takeStep a) ([], [])).1, .loc r], σ') ∧ Out σ r ((P.foldl (takeStep a) ([], [])).2.map pc) σ' := by
  have hlt := get_lt wf hl
  have hne : l ≠ σ.next := Nat.ne_of_lt hlt
  generalize hρ0 : upd (upd noEn 0 (some (.loc l))) 12 (some (.int a)) = ρ₀
  have g0 : ρ₀ 0 = some (.loc l) := by rw [← hρ0]; rfl
  have g12 : ρ₀ 12 = some (.int a) := by rw [← hρ0]; rfl
  generalize hσ1 : σ.alloc (.list []) = σ₁
  have wf₁ : WfS σ₁ := by rw [← hσ1]; exact wf_alloc wf
  have fr₁ : Fr [] σ σ₁ := by rw [← hσ1]; exact fr_alloc
  have nx₁ : σ₁.next = σ.next + 1 := by rw [← hσ1]; rfl
  have gf : σ₁.get σ.next = some (.list (([] : List Pc).map pc)) := by rw [← hσ1, get_alloc, if_pos rfl]; rfl
  have gl : σ₁.get l = some (.list (P.map pc)) := by rw [← hσ1, get_alloc, if_neg hne]; exact hl
  generalize hρ1 : upd (upd ρ₀ 3 (some (.bytes []))) 13 (some (.loc σ.next)) = ρ₁
  have k0 : ρ₁ 0 = some (.loc l) := by rw [← hρ1]; exact g0
  have k12 : ρ₁ 12 = some (.int a) := by rw [← hρ1]; exact g12
  have k3 : ρ₁ 3 = some (.bytes []) := by rw [← hρ1]; rfl
  have k13 : ρ₁ 13 = some (.loc σ.next) := by rw [← hρ1]; rfl
  refine el_EEAAAAA (take_loop (n + 1) (σ₀ := σ₁) hne P k12 k13 k3 gf (by lia) rfl (by simp; omega)) fun ρ₂ σ₂ e m13 m3 mf fr₂ nx₂ => ?_
  have s2 : ex (n + 14) (.setT [3, 13] (.tup [.bytes0, .list []])) ρ₀ σ = some (.next, ρ₁, σ₁) := by
    refine ex_setT (v := .tup [.bytes [], .loc σ.next]) ?_ (by rw [← hρ1]; rfl)
    simp [ev, evs, newL, atomsOf, lim, hσ1]
  have s3 : ex (n + 14) (.forT (.many [6, 7]) (.var 0) tkBody) ρ₁ σ₁ = some (.next, ρ₂, σ₂) := by
    refine (ex_for (items := P.map pc) (wl := some l) (σ' := σ₁) ?_).trans e
    simp [itemsOf, ev, k0, gl]
  refine ⟨σ.next, σ₂, runF_ret (d := f1) (ρ := ρ₀) (ρ' := ρ₂) rfl (by rw [← hρ0]; rfl) ?_, mf, fr₁.fresh fr₂ (by simp), fr₂.wf wf₁, Nat.le_refl _, by lia⟩
  show exs (ex (n + 14)) [.setT [3, 13] (.tup [.bytes0, .list []]), .forT (.many [6, 7]) (.var 0) tkBody, .ret (.tup [.var 3, .var 13])] ρ₀ σ = _
  rw [exs_next s2, exs_next s3]
  refine exs_ret (ex_ret ?_)
  simp [ev, evs, atomsOf, m3, m13, lim]
end Mine

/-! LawP -/
namespace Mine

/-! normal lists of pieces -/
noncomputable def AtP (p : Pc) (a : Int) (u : UInt8) : Prop := p.1 ≤ a ∧ p.2[(a - p.1).toNat]? = some u
noncomputable def Has (P : List Pc) (a : Int) (u : UInt8) : Prop := ∃ p ∈ P, AtP p a u
noncomputable def Sep (p q : Pc) : Prop := p.1 + p.2.length < q.1
structure Nrm (P : List Pc) : Prop where
  ne : ∀ p ∈ P, p.2 ≠ []
  sep : P.Pairwise Sep

section
variable {p q : Pc} {P Q : List Pc} {a : Int} {u v : UInt8}
theorem AtP.lo (h : AtP p a u) : p.1 ≤ a := h.1
theorem AtP.hi (h : AtP p a u) : a < p.1 + p.2.length := by
  refine el_A h fun h1 h2 => ?_; clear h
  refine el_E (List.getElem?_eq_some_iff.mp h2) fun h3 _ => ?_
  omega
theorem AtP.ex (h : p.1 ≤ a) (h' : a < p.1 + p.2.length) : ∃ u, AtP p a u := by
  have : (a - p.1).toNat < p.2.length := by omega
  exact ⟨p.2[(a - p.1).toNat], h, by simp [this]⟩
theorem AtP.fn (h : AtP p a u) (h' : AtP p a v) : u = v := by
  have := h.2.symm.trans h'.2
  simpa using this
theorem has_nil : ¬ Has [] a u := by rintro ⟨_, h, _⟩; cases h
theorem has_cons : Has (p :: P) a u ↔ AtP p a u ∨ Has P a u := by
  unfold Has; simp
theorem has_append : Has (P ++ Q) a u ↔ Has P a u ∨ Has Q a u := by
  unfold Has; simp only [List.mem_append]
  constructor
  · rintro ⟨x, h | h, k⟩
    · exact .inl ⟨x, h, k⟩
    · exact .inr ⟨x, h, k⟩
  · rintro (⟨x, h, k⟩ | ⟨x, h, k⟩)
    · exact ⟨x, .inl h, k⟩
    · exact ⟨x, .inr h, k⟩
theorem has_one : Has [p] a u ↔ AtP p a u := by rw [has_cons]; simp [has_nil]
theorem Nrm.nil : Nrm [] := ⟨by simp, .nil⟩
theorem nrm_cons : Nrm (p :: P) ↔ p.2 ≠ [] ∧ (∀ q ∈ P, Sep p q) ∧ Nrm P := by
  constructor
  · rintro ⟨h1, h2⟩
    rw [List.pairwise_cons] at h2
    exact ⟨h1 p List.mem_cons_self, h2.1, fun q hq => h1 q (List.mem_cons_of_mem _ hq), h2.2⟩
  · rintro ⟨h1, h2, h3, h4⟩
    refine ⟨fun q hq => ?_, List.pairwise_cons.mpr ⟨h2, h4⟩⟩
    rcases List.mem_cons.mp hq with rfl | hq
    · exact h1
    · exact h3 q hq
theorem has_after (h : ∀ q ∈ P, Sep p q) (k : Has P a u) : p.1 + p.2.length < a := by
  refine el_EA k fun q hq k => ?_
  have := h q hq
  have := k.lo
  unfold Sep at *
  lia
theorem len_pos (h : p.2 ≠ []) : 0 < p.2.length := List.length_pos_iff.mpr h

theorem nrm_uniq : ∀ {P Q : List Pc}, Nrm P → Nrm Q → (∀ a u, Has P a u ↔ Has Q a u) → P = Q
  | [], [], _, _, _ => rfl
  | [], q :: Q, _, hQ, h => by
    have hq := len_pos (nrm_cons.mp hQ).1
    refine el_E (AtP.ex (p := q) (a := q.1) (Int.le_refl _) (by omega)) fun u hu => ?_
    exact absurd ((h q.1 u).mpr (has_cons.mpr (.inl hu))) has_nil
  | p :: P, [], hP, _, h => by
    have hp := len_pos (nrm_cons.mp hP).1
    refine el_E (AtP.ex (p := p) (a := p.1) (Int.le_refl _) (by omega)) fun u hu => ?_
    exact absurd ((h p.1 u).mp (has_cons.mpr (.inl hu))) has_nil
  | p :: P, q :: Q, hP, hQ, h => by
    refine el_AA (nrm_cons.mp hP) fun p1 p2 p3 => ?_
    refine el_AA (nrm_cons.mp hQ) fun q1 q2 q3 => ?_
    have hp := len_pos p1
    have hq := len_pos q1
    have e1 : p.1 = q.1 := by
      refine el_E (AtP.ex (p := p) (a := p.1) (Int.le_refl _) (by omega)) fun u hu => ?_
      refine el_E (AtP.ex (p := q) (a := q.1) (Int.le_refl _) (by lia)) fun v hv => ?_
      have h1 : q.1 ≤ p.1 := by
        rcases has_cons.mp ((h p.1 u).mp (has_cons.mpr (.inl hu))) with k | k
        · exact k.lo
        · have := has_after q2 k; omega
      have h2 : p.1 ≤ q.1 := by
        rcases has_cons.mp ((h q.1 v).mpr (has_cons.mpr (.inl hv))) with k | k
        · exact k.lo
        · have := has_after p2 k; omega
      lia
    have e2 : p.2.length = q.2.length := by
      rcases Nat.lt_trichotomy p.2.length q.2.length with hl | hl | hl
      · exfalso
        refine el_E (AtP.ex (p := q) (a := p.1 + p.2.length) (by omega) (by omega)) fun u hu => ?_
        rcases has_cons.mp ((h _ u).mpr (has_cons.mpr (.inl hu))) with k | k
        · have := k.hi; omega
        · have := has_after p2 k; omega
      · exact hl
      · exfalso
        refine el_E (AtP.ex (p := p) (a := q.1 + q.2.length) (by omega) (by omega)) fun u hu => ?_
        rcases has_cons.mp ((h _ u).mp (has_cons.mpr (.inl hu))) with k | k
        · have := k.hi; omega
        · have := has_after q2 k; omega
    have e3 : p.2 = q.2 := by
      apply List.ext_getElem e2
      intro i h1 h2
      have hu : AtP p (p.1 + i) p.2[i] := ⟨by lia, by
        have : (p.1 + (i : Int) - p.1).toNat = i := by lia
        rw [this]; simp [h1]⟩
      rcases has_cons.mp ((h _ _).mp (has_cons.mpr (.inl hu))) with k | k
      · have k2 := k.2
        have : (p.1 + (i : Int) - q.1).toNat = i := by lia
        rw [this] at k2
        have := (List.getElem?_eq_some_iff.mp k2).2
        exact this.symm
      · have := has_after q2 k; lia
    have e4 : P = Q := by
      refine nrm_uniq p3 q3 fun a u => ⟨fun k => ?_, fun k => ?_⟩
      · have ha := has_after p2 k
        rcases has_cons.mp ((h a u).mp (has_cons.mpr (.inr k))) with k' | k'
        · have := k'.hi; omega
        · exact k'
      · have ha := has_after q2 k
        rcases has_cons.mp ((h a u).mpr (has_cons.mpr (.inr k))) with k' | k'
        · have := k'.hi; omega
        · exact k'
    rw [e4, show p = q from Prod.ext e1 e3]

theorem has_fn : ∀ {P : List Pc}, Nrm P → Has P a u → Has P a v → u = v
  | [], _, h, _ => absurd h has_nil
  | p :: P, hP, h, h' => by
    refine el_AA (nrm_cons.mp hP) fun p1 p2 p3 => ?_
    rcases has_cons.mp h with k | k <;> rcases has_cons.mp h' with k' | k'
    · exact k.fn k'
    · have := has_after p2 k'; have := k.hi; omega
    · have := has_after p2 k; have := k'.hi; omega
    · exact has_fn p3 k k'

/-- bounds on the places bound the list -/
theorem nrm_tot {hi : Int} : ∀ {P : List Pc} {lo : Int}, Nrm P → lo ≤ hi → (∀ a u, Has P a u → lo ≤ a ∧ a < hi) → P.length ≤ tot P ∧ (tot P : Int) ≤ hi - lo
  | [], lo, _, hl, _ => by simp [tot]; omega
  | p :: P, lo, hP, hl, h => by
    refine el_AA (nrm_cons.mp hP) fun p1 p2 p3 => ?_
    have hp := len_pos p1
    refine el_E (AtP.ex (p := p) (a := p.1) (Int.le_refl _) (by lia)) fun u hu => ?_
    refine el_E (AtP.ex (p := p) (a := p.1 + p.2.length - 1) (by lia) (by lia)) fun v hv => ?_
    have a1 := h _ _ (has_cons.mpr (.inl hu))
    have a2 := h _ _ (has_cons.mpr (.inl hv))
    have ih := nrm_tot (lo := p.1 + p.2.length) p3 (by omega) fun a u k => ⟨by have := has_after p2 k; lia, (h a u (has_cons.mpr (.inr k))).2⟩
    rw [tot_cons, List.length_cons]
    omega
end

/-! add_piece keeps them normal -/
theorem addsub (a b : Int) : a + b - a = b := by lia
theorem tn (a : Int) (n : Nat) : (a + (n : Int) - a).toNat = n := by rw [addsub, Int.toNat_natCast]
theorem le_add {a b : Int} (h : a ≤ b) : ∃ n : Nat, b = a + n := (Int.le.dest h).elim fun n e => ⟨n, e.symm⟩
theorem atP_nat {b : Int} {l : List UInt8} {i : Nat} {u : UInt8} : AtP (b, l) (b + i) u ↔ l[i]? = some u := by
  unfold AtP; rw [tn]; exact ⟨fun h => h.2, fun h => ⟨Int.le_add_of_nonneg_right (Int.natCast_nonneg i), h⟩⟩
theorem join1 {j e : List UInt8} {k i : Nat} (hk : k ≤ j.length) : (j.take k ++ e ++ j.drop (k + e.length))[i]? = if i < k then j[i]? else if i < k + e.length then e[i - k]? else j[i]? := by
  have hl : (j.take k).length = k := by rw [List.length_take, Nat.min_eq_left hk]
  rw [List.append_assoc]
  by_cases c1 : i < k
  · rw [if_pos c1, List.getElem?_append_left (by rw [hl]; exact c1), List.getElem?_take_of_lt c1]
  · rw [if_neg c1, List.getElem?_append_right (by rw [hl]; exact Nat.not_lt.mp c1), hl]
    by_cases c2 : i < k + e.length
    · rw [if_pos c2, List.getElem?_append_left (by omega)]
    · rw [if_neg c2, List.getElem?_append_right (by omega), List.getElem?_drop]
      congr 1; omega
theorem join2 {j e : List UInt8} {k i : Nat} (hk : k ≤ e.length) : (e ++ j.drop (e.length - k))[i]? = if i < e.length then e[i]? else j[i - k]? := by
  by_cases c : i < e.length
  · rw [if_pos c, List.getElem?_append_left c]
  · rw [if_neg c, List.getElem?_append_right (Nat.not_lt.mp c), List.getElem?_drop]
    congr 1; lia
theorem some_lt {l : List UInt8} {i : Nat} {u : UInt8} (h : l[i]? = some u) : i < l.length := (List.getElem?_eq_some_iff.mp h).1
theorem atP_join {b s a : Int} {j e : List UInt8} {u : UInt8} (h1 : b ≤ s + e.length) (h2 : s ≤ b + j.length) :
    AtP (min b s, j.take (max 0 (s - b)).toNat ++ e ++ j.drop (max 0 (s + e.length - b)).toNat) a u ↔ AtP (s, e) a u ∨ (AtP (b, j) a u ∧ ¬ (s ≤ a ∧ a < s + e.length)) := by
  rcases Int.le_total b s with hbs | hbs
  · obtain ⟨k, rfl⟩ := le_add hbs
    have hk : k ≤ j.length := by lia
    have t1 : (max 0 (b + (k : Int) - b)).toNat = k := by rw [addsub, Int.max_eq_right (Int.natCast_nonneg k), Int.toNat_natCast]
    have t3 : (max 0 (b + (k : Int) + e.length - b)).toNat = k + e.length := by rw [Int.add_assoc, addsub, ← Int.natCast_add, Int.max_eq_right (Int.natCast_nonneg _), Int.toNat_natCast]
    rw [t1, t3, Int.min_eq_left hbs]
    by_cases hab : b ≤ a
    · obtain ⟨i, rfl⟩ := le_add hab
      rw [atP_nat, atP_nat, join1 hk]
      by_cases c1 : i < k
      · rw [if_pos c1]
        exact ⟨fun h => .inr ⟨h, by lia⟩, fun h => h.elim (fun h => absurd h.1 (by dsimp only; lia)) (·.1)⟩
      · have e1 : b + (i : Int) = (b + k) + ((i - k : Nat) : Int) := by lia
        have e2 : AtP (b + k, e) (b + i) u ↔ e[i - k]? = some u := by rw [e1]; exact atP_nat
        rw [if_neg c1, e2]
        by_cases c2 : i < k + e.length
        · rw [if_pos c2]
          exact ⟨.inl, fun h => h.elim id fun h => absurd ⟨by lia, by lia⟩ h.2⟩
        · rw [if_neg c2]
          exact ⟨fun h => .inr ⟨h, by lia⟩, fun h => h.elim (fun h => absurd (some_lt h) (by lia)) (·.1)⟩
    · exact ⟨fun h => absurd h.1 hab, fun h => h.elim (fun h => absurd (Int.le_trans hbs h.1) hab) fun h => absurd h.1.1 hab⟩
  · obtain ⟨k, rfl⟩ := le_add hbs
    have hk : k ≤ e.length := by lia
    have t1 : (max 0 (s - (s + (k : Int)))).toNat = 0 := by rw [Int.max_eq_left (by lia)]; rfl
    have t3 : (max 0 (s + (e.length : Int) - (s + k))).toNat = e.length - k := by rw [Int.max_eq_right (by lia), show s + (e.length : Int) - (s + k) = ((e.length - k : Nat) : Int) from by lia, Int.toNat_natCast]
    rw [t1, t3, Int.min_eq_right hbs, List.take_zero, List.nil_append]
    by_cases hab : s ≤ a
    · obtain ⟨i, rfl⟩ := le_add hab
      rw [atP_nat, atP_nat, join2 hk]
      by_cases c : i < e.length
      · rw [if_pos c]
        exact ⟨.inl, fun h => h.elim id fun h => absurd ⟨by lia, by lia⟩ h.2⟩
      · have e2 : AtP (s + k, j) (s + i) u ↔ j[i - k]? = some u := by rw [show s + (i : Int) = (s + k) + ((i - k : Nat) : Int) from by lia]; exact atP_nat
        rw [if_neg c, e2]
        exact ⟨fun h => .inr ⟨h, by lia⟩, fun h => h.elim (fun h => absurd (some_lt h) c) (·.1)⟩
    · exact ⟨fun h => absurd h.1 hab, fun h => h.elim (fun h => absurd h.1 hab) fun h => absurd (Int.le_trans hbs h.1.1) hab⟩

/-- what the fold knows: R: the pieces passed; o, d: what is added -/
structure AddI (o : Int) (d : List UInt8) (R : List Pc) (q : List Pc × Int × List UInt8) : Prop where
  sub : ∀ p ∈ q.1, p ∈ R
  nrm : Nrm q.1
  ne : q.2.2 ≠ []
  apart : ∀ p ∈ q.1, p.1 + p.2.length < q.2.1 ∨ q.2.1 + q.2.2.length < p.1
  has : ∀ a u, Has q.1 a u ∨ AtP q.2 a u ↔ Has R a u ∨ (AtP (o, d) a u ∧ ∀ v, ¬ Has R a v)

theorem AddI.step {o : Int} {d : List UInt8} {R : List Pc} {q : List Pc × Int × List UInt8} {p : Pc} (I : AddI o d R q) (hR : ∀ r ∈ R, Sep r p) (hp : p.2 ≠ []) : AddI o d (R ++ [p]) (addStep q p) := by
  obtain ⟨sub, nrm, ne, apart, has⟩ := I
  obtain ⟨F, b, j⟩ := q
  obtain ⟨s, e⟩ := p
  dsimp only at *
  have hRa : ∀ a u, Has R a u → a < s := fun a u ⟨r, hr, k⟩ => by
    have := hR r hr; unfold Sep at this; dsimp only at this; have := k.hi; lia
  have hFa : ∀ a u, Has F a u → a < s := fun a u ⟨r, hr, k⟩ => hRa a u ⟨r, sub r hr, k⟩
  unfold addStep
  dsimp only
  split
  · rename_i hc
    constructor
    · intro p hp'
      dsimp only at hp'
      simp only [List.mem_append, List.mem_singleton] at hp' ⊢
      rcases hp' with h | h
      · exact .inl (sub p h)
      · exact .inr h
    · dsimp only
      refine ⟨?_, List.pairwise_append.mpr ⟨nrm.sep, List.pairwise_singleton _ _, ?_⟩⟩
      · intro p hp'
        simp only [List.mem_append, List.mem_singleton] at hp'
        rcases hp' with h | rfl
        · exact nrm.ne p h
        · exact hp
      · intro r hr p' hp'
        rw [List.mem_singleton] at hp'; subst hp'
        exact hR r (sub r hr)
    · exact ne
    · intro p hp'
      dsimp only at hp'
      simp only [List.mem_append, List.mem_singleton] at hp'
      rcases hp' with h | rfl
      · exact apart p h
      · exact hc
    · intro a u
      have hk := has a u
      simp only [has_append, has_one]
      have d1 : AtP (b, j) a u → ¬ (s ≤ a ∧ a < s + e.length) := fun k => by
        have h1 := k.lo; have h2 := k.hi; dsimp only at h1 h2; lia
      have d2 : ∀ v, AtP (s, e) a v → s ≤ a ∧ a < s + e.length := fun v k => ⟨k.lo, k.hi⟩
      constructor
      · rintro ((k | k) | k)
        · rcases hk.mp (.inl k) with k' | ⟨k1, k2⟩
          · exact .inl (.inl k')
          · refine .inr ⟨k1, fun v kv => ?_⟩
            rcases kv with kv | kv
            · exact k2 v kv
            · have := hFa a u k; have := (d2 v kv).1; lia
        · exact .inl (.inr k)
        · rcases hk.mp (.inr k) with k' | ⟨k1, k2⟩
          · exact .inl (.inl k')
          · refine .inr ⟨k1, fun v kv => ?_⟩
            rcases kv with kv | kv
            · exact k2 v kv
            · exact d1 k (d2 v kv)
      · rintro ((k | k) | ⟨k1, k2⟩)
        · rcases hk.mpr (.inl k) with k' | k'
          · exact .inl (.inl k')
          · exact .inr k'
        · exact .inl (.inr k)
        · rcases hk.mpr (.inr ⟨k1, fun v kv => k2 v (.inl kv)⟩) with k' | k'
          · exact .inl (.inl k')
          · exact .inr k'
  · rename_i hc
    have hc1 : b ≤ s + e.length := by omega
    have hc2 : s ≤ b + j.length := by omega
    constructor
    · intro p hp'
      exact List.mem_append.mpr (.inl (sub p hp'))
    · exact nrm
    · dsimp only
      intro hz
      simp only [List.append_eq_nil_iff] at hz
      exact hp hz.1.2
    · intro p hp'
      dsimp only at hp' ⊢
      have h1 := apart p hp'
      have h2 := hR p (sub p hp')
      have h3 := len_pos (nrm.ne p hp')
      unfold Sep at h2
      dsimp only at h2
      left
      lia
    · intro a u
      dsimp only
      have hk := has a u
      rw [atP_join hc1 hc2]
      simp only [has_append, has_one]
      have d2 : ∀ v, AtP (s, e) a v → s ≤ a ∧ a < s + e.length := fun v k => ⟨k.lo, k.hi⟩
      constructor
      · rintro (k | k | ⟨k, kn⟩)
        · rcases hk.mp (.inl k) with k' | ⟨k1, k2⟩
          · exact .inl (.inl k')
          · refine .inr ⟨k1, fun v kv => ?_⟩
            rcases kv with kv | kv
            · exact k2 v kv
            · have := hFa a u k; have := (d2 v kv).1; lia
        · exact .inl (.inr k)
        · rcases hk.mp (.inr k) with k' | ⟨k1, k2⟩
          · exact .inl (.inl k')
          · refine .inr ⟨k1, fun v kv => ?_⟩
            rcases kv with kv | kv
            · exact k2 v kv
            · exact kn (d2 v kv)
      · rintro ((k | k) | ⟨k1, k2⟩)
        · rcases hk.mpr (.inl k) with k' | k'
          · exact .inl k'
          · refine .inr (.inr ⟨k', ?_⟩)
            have := hRa a u k
            omega
        · exact .inr (.inl k)
        · rcases hk.mpr (.inr ⟨k1, fun v kv => k2 v (.inl kv)⟩) with k' | k'
          · exact .inl k'
          · refine .inr (.inr ⟨k', fun kk => ?_⟩)
            refine el_E (AtP.ex (p := (s, e)) kk.1 kk.2) fun v kv => ?_
            exact k2 v (.inr kv)

theorem AddI.fold {o : Int} {d : List UInt8} : ∀ (P : List Pc) {R : List Pc} {q : List Pc × Int × List UInt8}, AddI o d R q → Nrm (R ++ P) → AddI o d (R ++ P) (P.foldl addStep q)
  | [], R, q, I, _ => by simpa using I
  | p :: P, R, q, I, h => by
    have e : R ++ p :: P = (R ++ [p]) ++ P := by simp
    rw [e] at h ⊢
    rw [List.foldl_cons]
    refine AddI.fold P (I.step ?_ ?_) h
    · intro r hr
      have := (List.pairwise_append.mp (e ▸ h.sep : (R ++ p :: P).Pairwise Sep)).2.2
      exact this r hr p List.mem_cons_self
    · exact h.ne p (by simp)

theorem addI {P : List Pc} {o : Int} {d : List UInt8} (h : Nrm P) (hd : d ≠ []) : AddI o d P (P.foldl addStep ([], o, d)) := by
  have := AddI.fold (o := o) (d := d) P (R := []) (q := ([], o, d)) ⟨by simp, .nil, hd, by simp, fun a u => by
    simp [has_nil]⟩ (by simpa using h)
  simpa using this

noncomputable def insB (x : Pc) : List Pc → List Pc
  | [] => [x]
  | p :: F => if p.1 < x.1 then p :: insB x F else x :: p :: F

theorem insAt_insB {x : Pc} : ∀ (F : List Pc), insAt (insPos x.1 (F.map (·.1))) (F ++ [x]) = insB x F := by
  have h0 : ∀ (pos : Nat) (F : List Pc), pos ≤ F.length → insAt pos (F ++ [x]) = F.take pos ++ x :: F.drop pos := by
    intro pos F h
    unfold insAt
    have h1 : (F ++ [x]).length - 1 = F.length := by simp
    rw [h1, List.take_append_of_le_length h, List.drop_append_of_le_length (Nat.le_refl _), List.drop_length, List.nil_append, List.take_append_of_le_length (Nat.le_refl _), List.take_length, List.append_assoc]
    rfl
  have h1 : ∀ (F : List Pc), insPos x.1 (F.map (·.1)) ≤ F.length := by
    intro F
    induction F with
    | nil => simp [insPos]
    | cons p F ih => simp only [List.map_cons, insPos]; split <;> simp <;> omega
  intro F
  rw [h0 _ _ (h1 F)]
  induction F with
  | nil => rfl
  | cons p F ih =>
    simp only [List.map_cons, insPos, insB]
    split
    · rw [List.take_succ_cons, List.drop_succ_cons, List.cons_append, ih]
    · simp

theorem mem_insB {x y : Pc} : ∀ {F : List Pc}, y ∈ insB x F ↔ y = x ∨ y ∈ F
  | [] => by simp [insB]
  | p :: F => by
    simp only [insB]
    split
    · simp only [List.mem_cons, mem_insB (F := F)]
      constructor <;> (rintro (h | h | h) <;> simp [h])
    · simp

theorem insB_nrm {x : Pc} (hx : x.2 ≠ []) : ∀ {F : List Pc}, Nrm F → (∀ p ∈ F, p.1 + p.2.length < x.1 ∨ x.1 + x.2.length < p.1) → Nrm (insB x F)
  | [], _, _ => nrm_cons.mpr ⟨hx, by simp, .nil⟩
  | p :: F, h, k => by
    refine el_AA (nrm_cons.mp h) fun p1 p2 p3 => ?_
    have hp := len_pos p1
    have kp := k p List.mem_cons_self
    simp only [insB]
    split
    · rename_i hc
      refine nrm_cons.mpr ⟨p1, fun q hq => ?_, insB_nrm hx p3 fun q hq => k q (List.mem_cons_of_mem _ hq)⟩
      rcases mem_insB.mp hq with rfl | hq
      · unfold Sep; lia
      · exact p2 q hq
    · rename_i hc
      have hs : Sep x p := by unfold Sep; lia
      refine nrm_cons.mpr ⟨hx, fun q hq => ?_, h⟩
      rcases List.mem_cons.mp hq with rfl | hq
      · exact hs
      · have := p2 q hq
        unfold Sep at *
        lia

theorem addR_insB (P : List Pc) (o : Int) (d : List UInt8) : addR P o d = insB (P.foldl addStep ([], o, d)).2 (P.foldl addStep ([], o, d)).1 := by
  unfold addR
  exact insAt_insB (x := (P.foldl addStep ([], o, d)).2) _

theorem addR_nrm {P : List Pc} {o : Int} {d : List UInt8} (h : Nrm P) (hd : d ≠ []) : Nrm (addR P o d) := by
  have I := addI (o := o) h hd
  rw [addR_insB]
  exact insB_nrm I.ne I.nrm I.apart
theorem addR_has {P : List Pc} {o : Int} {d : List UInt8} (h : Nrm P) (hd : d ≠ []) (a : Int) (u : UInt8) : Has (addR P o d) a u ↔ Has P a u ∨ (AtP (o, d) a u ∧ ∀ v, ¬ Has P a v) := by
  have I := addI (o := o) h hd
  rw [addR_insB, ← I.has a u]
  unfold Has
  simp only [mem_insB]
  constructor
  · rintro ⟨p, rfl | hp, k⟩
    · exact .inr k
    · exact .inl ⟨p, hp, k⟩
  · rintro (⟨p, hp, k⟩ | k)
    · exact ⟨p, .inr hp, k⟩
    · exact ⟨_, .inl rfl, k⟩
theorem add_asc {P : List Pc} (h : Nrm P) : (P.map (·.1)).Pairwise (· < ·) := by
  rw [List.pairwise_map]
  refine h.sep.imp ?_
  intro p q hs
  unfold Sep at hs
  lia
theorem add_notin {P : List Pc} {o : Int} {d : List UInt8} (h : Nrm P) (hd : d ≠ []) : (P.foldl addStep ([], o, d)).2.1 ∉ (P.foldl addStep ([], o, d)).1.map (·.1) := by
  have I := addI (o := o) h hd
  intro hm
  refine el_EA (List.mem_map.mp hm) fun p hp e => ?_
  have h1 := I.apart p hp
  lia
theorem addStep_le (P : List Pc) : ∀ (q : List Pc × Int × List UInt8), (P.foldl addStep q).1.length ≤ q.1.length + P.length := by
  induction P with
  | nil => intro q; simp
  | cons p P ih =>
    intro q
    rw [List.foldl_cons]
    refine Nat.le_trans (ih _) ?_
    have := (addStep_len q.1 q.2.1 p.1 q.2.2 p.2).1
    have e : addStep (q.1, q.2.1, q.2.2) (p.1, p.2) = addStep q p := rfl
    rw [e] at this
    simp only [List.length_cons]
    lia

/-- add_piece on a normal list -/
theorem run_add' (n : Nat) {σ : St} {l : Nat} {P : List Pc} {o : Int} {d : List UInt8} (wf : WfS σ) (hl : σ.get l = some (.list (P.map pc))) (hP : P.length < 60) (ht : d.length + tot P ≤ 100000) (hN : Nrm P) :
    ∃ r σ' P', runF (n + 14) 0 [.loc l, .int o, .bytes d] σ = some (.loc r, σ') ∧ Out σ r (P'.map pc) σ' ∧ Nrm P' ∧ ∀ a u, Has P' a u ↔ Has P a u ∨ (AtP (o, d) a u ∧ ∀ v, ¬ Has P a v) := by
  by_cases hd : d = []
  · subst hd
    refine el_EEA (run_add0 n (o := o) wf hl (by simp; lia)) fun r σ' e O => ?_
    refine ⟨r, σ', P, e, O, hN, fun a u => ?_⟩
    have : ¬ AtP (o, []) a u := fun k => by have := k.2; simp at this
    simp [this]
  · have I := addI (o := o) hN hd
    have hz := addStep_le P ([], o, d)
    simp only [List.length_nil] at hz
    refine el_EEA (run_add n (o := o) wf hl hd hP ht (add_asc I.nrm) (add_notin hN hd) (by lia)) fun r σ' e O => ?_
    exact ⟨r, σ', _, e, O, addR_nrm hN hd, addR_has hN hd⟩
end Mine

/-! LawQ -/
namespace Mine

theorem forl_inv {α : Type} {tg : Tg} {w : Option Nat} {σ₀ : St} {b : En → St → Option (Fl × En × St)} {it : α → AV} {J : List α → En → St → Prop}
    (h : ∀ x rest ρ σ, J (x :: rest) ρ σ → ∃ ρ₁ ρ₂ σ₂, bindT tg (it x) ρ = some ρ₁ ∧ b ρ₁ σ = some (.next, ρ₂, σ₂) ∧ chk w σ₀ σ₂ = true ∧ J rest ρ₂ σ₂) :
    ∀ (items : List α) {ρ : En} {σ : St}, J items ρ σ → ∃ ρ' σ', forl tg w σ₀ b (items.map it) ρ σ = some (.next, ρ', σ') ∧ J [] ρ' σ'
  | [], ρ, σ, hJ => ⟨ρ, σ, rfl, hJ⟩
  | x :: items, ρ, σ, hJ => by
    refine el_EEEAAA (h x items ρ σ hJ) fun ρ₁ ρ₂ σ₂ h1 h2 h3 h4 => ?_
    refine el_EEA (forl_inv h items h4) fun ρ' σ' e hJ' => ?_
    exact ⟨ρ', σ', (forl_cons h1 h2 h3).trans e, hJ'⟩

/-! sorting ints -/
theorem mem_insI {a b : Int} : ∀ {l : List Int}, a ∈ insI b l ↔ a = b ∨ a ∈ l
  | [] => by simp [insI]
  | c :: l => by
    simp only [insI]
    split
    · simp
    · simp only [List.mem_cons, mem_insI (l := l)]
      constructor <;> (rintro (h | h | h) <;> simp [h])
theorem len_insI {b : Int} : ∀ {l : List Int}, (insI b l).length = l.length + 1
  | [] => rfl
  | c :: l => by
    simp only [insI]
    split
    · simp
    · simp [len_insI (l := l)]
theorem asc_insI {b : Int} : ∀ {l : List Int}, l.Pairwise (· < ·) → b ∉ l → (insI b l).Pairwise (· < ·)
  | [], _, _ => by simp [insI]
  | c :: l, h, hb => by
    refine el_A (List.pairwise_cons.mp h) fun h1 h2 => ?_
    simp only [List.mem_cons, not_or] at hb
    simp only [insI]
    split
    · rename_i hc
      refine List.pairwise_cons.mpr ⟨fun x hx => ?_, h⟩
      rcases List.mem_cons.mp hx with rfl | hx
      · lia
      · have := h1 x hx; omega
    · rename_i hc
      refine List.pairwise_cons.mpr ⟨fun x hx => ?_, asc_insI h2 hb.2⟩
      rcases mem_insI.mp hx with rfl | hx
      · lia
      · exact h1 x hx
theorem mem_sortI {a : Int} : ∀ {l : List Int}, a ∈ sortI l ↔ a ∈ l
  | [] => by simp [sortI]
  | c :: l => by
    have ih := mem_sortI (a := a) (l := l)
    show a ∈ insI c (sortI l) ↔ _
    rw [mem_insI, ih, List.mem_cons]
theorem len_sortI : ∀ {l : List Int}, (sortI l).length = l.length
  | [] => rfl
  | c :: l => by
    have ih := len_sortI (l := l)
    show (insI c (sortI l)).length = _
    rw [len_insI, ih]; rfl
theorem asc_sortI : ∀ {l : List Int}, l.Nodup → (sortI l).Pairwise (· < ·)
  | [], _ => by simp [sortI]
  | c :: l, h => by
    refine el_A (List.nodup_cons.mp h) fun h1 h2 => ?_
    exact asc_insI (asc_sortI h2) fun k => h1 (mem_sortI.mp k)

/-! the dict of octets -/
noncomputable abbrev Kn := List (Int × UInt8)
noncomputable def kv (p : Int × UInt8) : Int × AV := (p.1, .int p.2.toNat)
noncomputable def kget (K : Kn) (a : Int) : Option UInt8 := (K.find? fun p => decide (p.1 = a)).map (·.2)
theorem dget_cons {k a : Int} {v : AV} {l : List (Int × AV)} : dget ((k, v) :: l) a = if k = a then some v else dget l a := by
  unfold dget
  rw [List.find?_cons]
  by_cases h : k = a <;> simp [h]
theorem kget_cons {k a : Int} {v : UInt8} {l : Kn} : kget ((k, v) :: l) a = if k = a then some v else kget l a := by
  unfold kget
  rw [List.find?_cons]
  by_cases h : k = a <;> simp [h]
theorem dget_kv {a : Int} : ∀ {K : Kn}, dget (K.map kv) a = (kget K a).map fun u => .int u.toNat
  | [] => rfl
  | (k, v) :: K => by
    rw [List.map_cons]
    show dget ((k, _) :: K.map kv) a = _
    rw [dget_cons, kget_cons, dget_kv (K := K)]
    split <;> rfl
theorem kget_mem {a : Int} {u : UInt8} : ∀ {K : Kn}, (K.map (·.1)).Nodup → (kget K a = some u ↔ (a, u) ∈ K)
  | [], _ => by simp [kget]
  | (k, v) :: K, h => by
    rw [List.map_cons] at h
    refine el_A (List.nodup_cons.mp h) fun h1 h2 => ?_
    rw [kget_cons, List.mem_cons, ← kget_mem h2]
    by_cases hk : k = a
    · subst hk
      rw [if_pos rfl]
      constructor
      · intro e; cases e; exact .inl rfl
      · rintro (e | e)
        · cases e; rfl
        · exfalso
          have := (kget_mem h2).mp e
          exact h1 (List.mem_map.mpr ⟨_, this, rfl⟩)
    · rw [if_neg hk]
      constructor
      · intro e; exact .inr e
      · rintro (e | e)
        · cases e; exact absurd rfl hk
        · exact e
theorem kget_none {a : Int} : ∀ {K : Kn}, kget K a = none ↔ a ∉ K.map (·.1)
  | [] => by simp [kget]
  | (k, v) :: K => by
    rw [kget_cons, List.map_cons, List.mem_cons, not_or, ← kget_none]
    split
    · rename_i h; subst h; simp
    · rename_i h
      constructor
      · intro e; exact ⟨fun h' => h h'.symm, e⟩
      · exact fun h => h.2

/-! rows -/
noncomputable def rowStep (F : List Pc) (a : Int) (u : UInt8) : List Pc := match F.getLast? with
  | some p => if p.1 + p.2.length = a then F.set (F.length - 1) (p.1, p.2 ++ [u]) else F ++ [(a, [u])]
  | none => F ++ [(a, [u])]

theorem set_last {α : Type} (G : List α) (p x : α) : (G ++ [p]).set ((G ++ [p]).length - 1) x = G ++ [x] := by
  have : (G ++ [p]).length - 1 = G.length := by simp
  rw [this, List.set_append_right _ _ (Nat.le_refl _)]
  simp

theorem tot_append (P Q : List Pc) : tot (P ++ Q) = tot P + tot Q := by simp [tot]
theorem tot_one (p : Pc) : tot [p] = p.2.length := by simp [tot]

theorem nrm_append {F G : List Pc} : Nrm (F ++ G) ↔ Nrm F ∧ Nrm G ∧ ∀ p ∈ F, ∀ q ∈ G, Sep p q := by
  constructor
  · rintro ⟨h1, h2⟩
    refine el_AA (List.pairwise_append.mp h2) fun a b c => ?_
    exact ⟨⟨fun p hp => h1 p (List.mem_append.mpr (.inl hp)), a⟩, ⟨fun p hp => h1 p (List.mem_append.mpr (.inr hp)), b⟩, c⟩
  · rintro ⟨⟨h1, a⟩, ⟨h2, b⟩, c⟩
    exact ⟨fun p hp => (List.mem_append.mp hp).elim (h1 p) (h2 p), List.pairwise_append.mpr ⟨a, b, c⟩⟩
theorem nrm_one {p : Pc} (h : p.2 ≠ []) : Nrm [p] := nrm_cons.mpr ⟨h, by simp, .nil⟩

theorem atP_snoc {s a b : Int} {d : List UInt8} {u v : UInt8} (h : s + d.length = a) : AtP (s, d ++ [u]) b v ↔ AtP (s, d) b v ∨ (b = a ∧ v = u) := by
  unfold AtP
  dsimp only
  by_cases hs : s ≤ b
  · rcases Int.lt_trichotomy b a with hb | hb | hb
    · rw [List.getElem?_append_left (by omega)]
      constructor
      · exact .inl
      · rintro (k | ⟨k, _⟩)
        · exact k
        · omega
    · subst hb
      rw [List.getElem?_append_right (by omega)]
      have e : (b - s).toNat - d.length = 0 := by omega
      have e2 : (b - s).toNat = d.length := by omega
      rw [e, e2]
      simp only [List.getElem?_cons_zero, List.getElem?_eq_none (Nat.le_refl d.length)]
      constructor
      · rintro ⟨_, k⟩; cases k; exact .inr ⟨trivial, rfl⟩
      · rintro (⟨_, k⟩ | ⟨_, rfl⟩)
        · cases k
        · exact ⟨hs, rfl⟩
    · rw [List.getElem?_eq_none (by simp; omega), List.getElem?_eq_none (by omega)]
      constructor
      · rintro ⟨_, k⟩; cases k
      · rintro (⟨_, k⟩ | ⟨k, _⟩)
        · cases k
        · omega
  · constructor
    · rintro ⟨k, _⟩; omega
    · rintro (⟨k, _⟩ | ⟨k, _⟩) <;> omega

theorem atP_sing {a b : Int} {u v : UInt8} : AtP (a, [u]) b v ↔ b = a ∧ v = u := by
  have := atP_snoc (s := a) (d := []) (a := a) (b := b) (u := u) (v := v) (by simp)
  rw [List.nil_append] at this
  rw [this]
  constructor
  · rintro (k | k)
    · have := k.2; simp at this
    · exact k
  · exact .inr

theorem rowStep_inv {F : List Pc} {a : Int} {u : UInt8} (hF : Nrm F) (hl : ∀ p ∈ F, p.1 + p.2.length ≤ a) :
    Nrm (rowStep F a u) ∧ (∀ b v, Has (rowStep F a u) b v ↔ Has F b v ∨ (b = a ∧ v = u)) ∧ (∀ p ∈ rowStep F a u, p.1 + p.2.length ≤ a + 1) ∧ tot (rowStep F a u) = tot F + 1 := by
  rcases List.eq_nil_or_concat F with rfl | ⟨G, p, hG⟩
  · have e : rowStep [] a u = [(a, [u])] := rfl
    rw [e]
    refine ⟨nrm_one (by simp), fun b v => ?_, by simp, by simp [tot]⟩
    rw [has_one, atP_sing]; simp [has_nil]
  · subst hG
    rw [List.concat_eq_append] at *
    refine el_AA (nrm_append.mp hF) fun n1 n2 n3 => ?_
    have hp : p.2 ≠ [] := n2.ne p (by simp)
    have hpl := hl p (by simp)
    unfold rowStep
    rw [List.getLast?_concat]
    dsimp only
    split
    · rename_i hc
      rw [set_last]
      refine ⟨nrm_append.mpr ⟨n1, nrm_one (by simp), fun r hr q hq => ?_⟩, fun b v => ?_, fun r hr => ?_, ?_⟩
      · rw [List.mem_singleton] at hq; subst hq
        exact n3 r hr p (by simp)
      · rw [has_append, has_append, has_one, has_one, atP_snoc hc]
        constructor
        · rintro (k | k | k)
          · exact .inl (.inl k)
          · exact .inl (.inr k)
          · exact .inr k
        · rintro ((k | k) | k)
          · exact .inl k
          · exact .inr (.inl k)
          · exact .inr (.inr k)
      · rcases List.mem_append.mp hr with hr | hr
        · have := hl r (List.mem_append.mpr (.inl hr)); lia
        · rw [List.mem_singleton] at hr; subst hr; simp; lia
      · rw [tot_append, tot_append, tot_one, tot_one]; simp; lia
    · rename_i hc
      refine ⟨nrm_append.mpr ⟨hF, nrm_one (by simp), fun r hr q hq => ?_⟩, fun b v => ?_, fun r hr => ?_, ?_⟩
      · rw [List.mem_singleton] at hq; subst hq
        have hra := hl r hr
        unfold Sep
        rcases List.mem_append.mp hr with hr | hr
        · have := n3 r hr p (by simp)
          have h0 := len_pos hp
          unfold Sep at this
          dsimp only
          omega
        · rw [List.mem_singleton] at hr; subst hr; dsimp only; lia
      · rw [has_append, has_one, atP_sing]
      · rcases List.mem_append.mp hr with hr | hr
        · have := hl r hr; lia
        · rw [List.mem_singleton] at hr; subst hr; simp
      · rw [tot_append, tot_one]; simp

/-! spans -/
noncomputable abbrev Sn := Int × Int
noncomputable def sp (p : Sn) : AV := .tup [.int p.1, .int p.2]
noncomputable def Mem (S : List Sn) (a : Int) : Prop := ∃ p ∈ S, p.1 ≤ a ∧ a < p.2
noncomputable def SepS (p q : Sn) : Prop := p.2 < q.1
structure NrmS (S : List Sn) : Prop where
  ne : ∀ p ∈ S, p.1 < p.2
  sep : S.Pairwise SepS
noncomputable def wid (S : List Sn) : Int := (S.map fun p => p.2 - p.1).sum
section
variable {p q : Sn} {P Q : List Sn} {a : Int}
theorem mem_nil : ¬ Mem [] a := by rintro ⟨_, h, _⟩; cases h
theorem mem_cons : Mem (p :: P) a ↔ (p.1 ≤ a ∧ a < p.2) ∨ Mem P a := by unfold Mem; simp
theorem mem_one : Mem [p] a ↔ (p.1 ≤ a ∧ a < p.2) := by rw [mem_cons]; simp [mem_nil]
theorem mem_append' : Mem (P ++ Q) a ↔ Mem P a ∨ Mem Q a := by
  unfold Mem; simp only [List.mem_append]
  constructor
  · rintro ⟨x, h | h, k⟩
    · exact .inl ⟨x, h, k⟩
    · exact .inr ⟨x, h, k⟩
  · rintro (⟨x, h, k⟩ | ⟨x, h, k⟩)
    · exact ⟨x, .inl h, k⟩
    · exact ⟨x, .inr h, k⟩
theorem NrmS.nil : NrmS [] := ⟨by simp, .nil⟩
theorem nrmS_cons : NrmS (p :: P) ↔ p.1 < p.2 ∧ (∀ q ∈ P, p.2 < q.1) ∧ NrmS P := by
  constructor
  · rintro ⟨h1, h2⟩
    rw [List.pairwise_cons] at h2
    exact ⟨h1 p List.mem_cons_self, h2.1, fun q hq => h1 q (List.mem_cons_of_mem _ hq), h2.2⟩
  · rintro ⟨h1, h2, h3, h4⟩
    refine ⟨fun q hq => ?_, List.pairwise_cons.mpr ⟨h2, h4⟩⟩
    rcases List.mem_cons.mp hq with rfl | hq
    · exact h1
    · exact h3 q hq
theorem nrmS_one (h : p.1 < p.2) : NrmS [p] := nrmS_cons.mpr ⟨h, by simp, .nil⟩
theorem nrmS_append : NrmS (P ++ Q) ↔ NrmS P ∧ NrmS Q ∧ ∀ p ∈ P, ∀ q ∈ Q, p.2 < q.1 := by
  constructor
  · rintro ⟨h1, h2⟩
    refine el_AA (List.pairwise_append.mp h2) fun a b c => ?_
    exact ⟨⟨fun p hp => h1 p (List.mem_append.mpr (.inl hp)), a⟩, ⟨fun p hp => h1 p (List.mem_append.mpr (.inr hp)), b⟩, c⟩
  · rintro ⟨⟨h1, a⟩, ⟨h2, b⟩, c⟩
    exact ⟨fun p hp => (List.mem_append.mp hp).elim (h1 p) (h2 p), List.pairwise_append.mpr ⟨a, b, c⟩⟩
theorem mem_after (h : ∀ q ∈ P, p.2 < q.1) (k : Mem P a) : p.2 < a := by
  refine el_EAA k fun q hq k1 k2 => ?_; clear k
  have := h q hq
  omega
theorem nrmS_uniq : ∀ {P Q : List Sn}, NrmS P → NrmS Q → (∀ a, Mem P a ↔ Mem Q a) → P = Q
  | [], [], _, _, _ => rfl
  | [], q :: Q, _, hQ, h => absurd ((h q.1).mpr (mem_cons.mpr (.inl ⟨Int.le_refl _, (nrmS_cons.mp hQ).1⟩))) mem_nil
  | p :: P, [], hP, _, h => absurd ((h p.1).mp (mem_cons.mpr (.inl ⟨Int.le_refl _, (nrmS_cons.mp hP).1⟩))) mem_nil
  | p :: P, q :: Q, hP, hQ, h => by
    refine el_AA (nrmS_cons.mp hP) fun p1 p2 p3 => ?_
    refine el_AA (nrmS_cons.mp hQ) fun q1 q2 q3 => ?_
    have e1 : p.1 = q.1 := by
      have h1 : q.1 ≤ p.1 := by
        rcases mem_cons.mp ((h p.1).mp (mem_cons.mpr (.inl ⟨Int.le_refl _, p1⟩))) with k | k
        · exact k.1
        · have := mem_after q2 k; omega
      have h2 : p.1 ≤ q.1 := by
        rcases mem_cons.mp ((h q.1).mpr (mem_cons.mpr (.inl ⟨Int.le_refl _, q1⟩))) with k | k
        · exact k.1
        · have := mem_after p2 k; omega
      lia
    have e2 : p.2 = q.2 := by
      rcases Int.lt_trichotomy p.2 q.2 with hl | hl | hl
      · exfalso
        rcases mem_cons.mp ((h p.2).mpr (mem_cons.mpr (.inl ⟨by omega, hl⟩))) with k | k
        · omega
        · have := mem_after p2 k; omega
      · exact hl
      · exfalso
        rcases mem_cons.mp ((h q.2).mp (mem_cons.mpr (.inl ⟨by omega, hl⟩))) with k | k
        · omega
        · have := mem_after q2 k; omega
    have e4 : P = Q := by
      refine nrmS_uniq p3 q3 fun a => ⟨fun k => ?_, fun k => ?_⟩
      · have ha := mem_after p2 k
        rcases mem_cons.mp ((h a).mp (mem_cons.mpr (.inr k))) with k' | k'
        · omega
        · exact k'
      · have ha := mem_after q2 k
        rcases mem_cons.mp ((h a).mpr (mem_cons.mpr (.inr k))) with k' | k'
        · omega
        · exact k'
    rw [e4, show p = q from Prod.ext e1 e2]
theorem wid_append : wid (P ++ Q) = wid P + wid Q := by simp [wid]
theorem wid_one : wid [p] = p.2 - p.1 := by simp [wid]
theorem nrmS_len {hi : Int} : ∀ {P : List Sn} {lo : Int}, NrmS P → lo ≤ hi → (∀ a, Mem P a → lo ≤ a ∧ a < hi) → (P.length : Int) ≤ hi - lo
  | [], lo, _, hl, _ => by simp; omega
  | p :: P, lo, hP, hl, h => by
    refine el_AA (nrmS_cons.mp hP) fun p1 p2 p3 => ?_
    have a1 := h p.1 (mem_cons.mpr (.inl ⟨Int.le_refl _, p1⟩))
    have a2 := h (p.2 - 1) (mem_cons.mpr (.inl ⟨by lia, by lia⟩))
    have ih := nrmS_len (lo := p.2) p3 (by lia) fun a k => ⟨by have := mem_after p2 k; lia, (h a (mem_cons.mpr (.inr k))).2⟩
    rw [List.length_cons]
    lia
end

noncomputable def pairStep (F : List Sn) (a : Int) : List Sn := match F.getLast? with
  | some p => if p.2 = a then F.set (F.length - 1) (p.1, a + 1) else F ++ [(a, a + 1)]
  | none => F ++ [(a, a + 1)]

theorem pairStep_inv {F : List Sn} {a : Int} (hF : NrmS F) (hl : ∀ p ∈ F, p.2 ≤ a) :
    NrmS (pairStep F a) ∧ (∀ b, Mem (pairStep F a) b ↔ Mem F b ∨ b = a) ∧ (∀ p ∈ pairStep F a, p.2 ≤ a + 1) ∧ wid (pairStep F a) = wid F + 1 ∧ (pairStep F a).length ≤ F.length + 1 := by
  rcases List.eq_nil_or_concat F with rfl | ⟨G, p, hG⟩
  · have e : pairStep [] a = [(a, a + 1)] := rfl
    rw [e]
    refine ⟨nrmS_one (by dsimp only; lia), fun b => ?_, by simp, by simp [wid]; lia, by simp⟩
    rw [mem_one]; simp only [mem_nil, false_or]; omega
  · subst hG
    rw [List.concat_eq_append] at *
    refine el_AA (nrmS_append.mp hF) fun n1 n2 n3 => ?_
    have hp : p.1 < p.2 := n2.ne p (by simp)
    have hpl := hl p (by simp)
    unfold pairStep
    rw [List.getLast?_concat]
    dsimp only
    split
    · rename_i hc
      rw [set_last]
      refine ⟨nrmS_append.mpr ⟨n1, nrmS_one (by dsimp only; lia), fun r hr q hq => ?_⟩, fun b => ?_, fun r hr => ?_, ?_, by simp⟩
      · rw [List.mem_singleton] at hq; subst hq
        exact n3 r hr p (by simp)
      · rw [mem_append', mem_append', mem_one, mem_one]
        dsimp only
        constructor
        · rintro (k | k)
          · exact .inl (.inl k)
          · by_cases h : b = a
            · exact .inr h
            · exact .inl (.inr (by lia))
        · rintro ((k | k) | k)
          · exact .inl k
          · exact .inr (by omega)
          · exact .inr (by lia)
      · rcases List.mem_append.mp hr with hr | hr
        · have := hl r (List.mem_append.mpr (.inl hr)); omega
        · rw [List.mem_singleton] at hr; subst hr; simp
      · rw [wid_append, wid_append, wid_one, wid_one]; dsimp only; lia
    · rename_i hc
      refine ⟨nrmS_append.mpr ⟨hF, nrmS_one (by dsimp only; lia), fun r hr q hq => ?_⟩, fun b => ?_, fun r hr => ?_, ?_, by simp⟩
      · rw [List.mem_singleton] at hq; subst hq
        have hra := hl r hr
        rcases List.mem_append.mp hr with hr | hr
        · have := n3 r hr p (by simp)
          dsimp only
          omega
        · rw [List.mem_singleton] at hr; subst hr; dsimp only; lia
      · rw [mem_append', mem_one]; dsimp only
        constructor <;> (rintro (k | k); exact .inl k; exact .inr (by lia))
      · rcases List.mem_append.mp hr with hr | hr
        · have := hl r hr; omega
        · rw [List.mem_singleton] at hr; subst hr; simp
      · rw [wid_append, wid_one]; dsimp only; lia
end Mine

/-! LawR -/
namespace Mine

theorem ev_last (n : Nat) {x f : Nat} {ρ : En} {σ : St} {xs : List AV} {v : AV} (h : ρ x = some (.loc f)) (hf : σ.get f = some (.list xs)) (hv : xs.getLast? = some v) : ev (n + 2) ρ (.idx (.var x) .neg1) σ = some (v, σ) := by
  simp [ev, aidx, h, hf, hv, AV.by, St.on, no]

theorem ev_byte (n : Nat) {ρ : En} {σ : St} {k : Nat} {a : Int} {K : Kn} {u : UInt8} (h12 : ρ 12 = some (.int a)) (h26 : ρ 26 = some (.loc k)) (hk : σ.get k = some (.dict (K.map kv))) (hu : kget K a = some u) :
    ev (n + 6) ρ (.bif .bytes [.list [.idx (.var 26) (.var 12)]]) σ = some (.bytes [u], σ.alloc (.list [.int u.toNat])) := by
  have h1 : UInt8.ofNat u.toNat = u := by simp
  have h2 : u.toNat < 256 := u.toNat_lt
  simp [ev, evs, aidx, h12, h26, hk, dget_kv, hu, newL, lim, abif, get_alloc, intsOf, octs, h1, AV.by, St.on, args, no, no2, int2]
  lia

theorem ev_tup2 {n : Nat} {e₁ e₂ : X} {ρ : En} {σ σ₁ σ₂ : St} {x y : At} (h : ev n ρ e₁ σ = some (.a x, σ₁)) (h' : ev n ρ e₂ σ₁ = some (.a y, σ₂)) : ev (n + 1) ρ (.tup [e₁, e₂]) σ = some (.tup [x, y], σ₂) := by
  rw [ev]; simp [evs, h, h', atomsOf, lim]
theorem ev_append {n x f : Nat} {e : X} {ρ : En} {σ σ₁ : St} {xs₀ xs : List AV} {v : AV} (h : ρ x = some (.loc f)) (hf : σ.get f = some (.list xs₀)) (he : ev (n + 1) ρ e σ = some (v, σ₁)) (hf₁ : σ₁.get f = some (.list xs)) (hl : xs.length < 1000000) :
    ev (n + 2) ρ (.met .append (.var x) [e]) σ = some (.none, σ₁.w f (.list (xs ++ [v]))) := by
  have ep : σ₁.put f (.list (xs ++ [v])) = some (σ₁.w f (.list (xs ++ [v]))) := put_w hf₁
  rw [ev, ev_var h]
  simp [kindOf, hf, AD.isL, evs, he, hf₁, amet, lim, hl, ep, AV.by, St.on, args, no, no2, popHead]
theorem items_of {n : Nat} {e : X} {ρ : En} {σ σ₁ : St} {l : Nat} {xs : List AV} (he : ev n ρ e σ = some (.loc l, σ₁)) (hl : σ₁.get l = some (.list xs)) : itemsOf (ev n ρ) e σ = some (xs, some l, σ₁) := by
  cases n with
  | zero => cases he
  | succ n =>
  unfold itemsOf
  split
  · cases he
  · cases he
  · rw [he]; simp [hl]
theorem items_dict {n : Nat} {e : X} {ρ : En} {σ σ₁ : St} {l : Nat} {xs : List (Int × AV)} (he : ev n ρ e σ = some (.loc l, σ₁)) (hl : σ₁.get l = some (.dict xs)) : itemsOf (ev n ρ) e σ = some (xs.map fun kv => .int kv.1, some l, σ₁) := by
  cases n with
  | zero => cases he
  | succ n =>
  unfold itemsOf
  split
  · cases he
  · cases he
  · rw [he]; simp [hl]
theorem ev_sorted {n x k : Nat} {ρ : En} {σ : St} {D : List (Int × AV)} (h : ρ x = some (.loc k)) (hk : σ.get k = some (.dict D)) (hl : D.length < 64) : ev (n + 2) ρ (.bif .sorted [.var x]) σ = newL ((sortI (D.map (·.1))).map .int) σ := by
  rw [ev]
  simp only [evs, ev_var (n := n) h, Option.bind_some, abif, hk, if_pos hl, AV.by, St.on, args, no, no2, int2]

/-- whether a list is not empty -/
theorem ev_nonempty (n : Nat) {x f : Nat} {ρ : En} {σ : St} {xs : List AV} (wf : WfS σ) (h : ρ x = some (.loc f)) (hf : σ.get f = some (.list xs)) :
    ev (n + 4) ρ (.cmp (.var x) .ne (.list [])) σ = some (.bool (decide (xs ≠ [])), σ.alloc (.list [])) := by
  have hlt := get_lt wf hf
  refine ev_cmp (w := .loc σ.next) (ev_var h) (by simp [ev, evs, newL, lim]) ?_
  have g1 : (σ.alloc (.list [])).get f = some (.list xs) := by rw [get_alloc, if_neg (by lia)]; exact hf
  have g2 : (σ.alloc (.list [])).get σ.next = some (.list []) := by rw [get_alloc, if_pos rfl]
  cases xs with
  | nil => simp [acmp, aeq, g1, g2, kinL, AV.by, St.on, int2, no, eqB, eqN]
  | cons x xs => simp [acmp, aeq, g1, g2, AV.by, St.on, int2, no, eqB, eqN]

/-! rows -/
noncomputable def rowBody : List Y := match f14.body with
  | [_, .forT _ _ b, _] => b
  | _ => []

theorem map_getLast {α β : Type} (g : α → β) (G : List α) (p : α) : ((G ++ [p]).map g).getLast? = some (g p) := by simp

theorem row_turn (n : Nat) {ρ : En} {σ : St} {f k : Nat} {F : List Pc} {a : Int} {K : Kn} {u : UInt8} (wf : WfS σ) (h3 : ρ 3 = some (.loc f)) (h12 : ρ 12 = some (.int a)) (h26 : ρ 26 = some (.loc k))
    (hf : σ.get f = some (.list (F.map pc))) (hk : σ.get k = some (.dict (K.map kv))) (hu : kget K a = some u) (hF : F.length < 1000) (ht : tot F < 1000) :
    ∃ σ', exs (ex (n + 12)) rowBody ρ σ = some (.next, ρ, σ') ∧ σ'.get f = some (.list ((rowStep F a u).map pc)) ∧ Fr [f] σ σ' := by
  have hb : rowBody = [.ite (.and (.cmp (.var 3) .ne (.list [])) (.cmp (.bin .add (.idx (.idx (.var 3) (.neg1)) (.int 0)) (.bif .len [.idx (.idx (.var 3) (.neg1)) (.int 1)])) .eq (.var 12)))
          [
            .setI (.var 3) (.neg1) (.tup [.idx (.idx (.var 3) (.neg1)) (.int 0), .bin .add (.idx (.idx (.var 3) (.neg1)) (.int 1)) (.bif .bytes [.list [.idx (.var 26) (.var 12)]])])]
          [
            .exp (.met .append (.var 3) [.tup [.var 12, .bif .bytes [.list [.idx (.var 26) (.var 12)]]]])]] := rfl
  rw [hb]
  have hfl := get_lt wf hf
  have hkl := get_lt wf hk
  have hkf : k ≠ f := by rintro rfl; rw [hf] at hk; cases hk
  have he := ev_nonempty (n + 6) wf h3 hf
  generalize hσ1 : σ.alloc (.list []) = σ₁ at he
  have wf₁ : WfS σ₁ := by rw [← hσ1]; exact wf_alloc wf
  have fr₁ : Fr [f] σ σ₁ := by rw [← hσ1]; exact fr_alloc
  have nx₁ : σ₁.next = σ.next + 1 := by rw [← hσ1]; rfl
  have gf₁ : σ₁.get f = some (.list (F.map pc)) := by rw [← hσ1, get_alloc, if_neg (by lia)]; exact hf
  have gk₁ : σ₁.get k = some (.dict (K.map kv)) := by rw [← hσ1, get_alloc, if_neg (by lia)]; exact hk
  have hby := fun n => ev_byte n h12 h26 gk₁ hu
  generalize hσ2 : σ₁.alloc (.list [.int u.toNat]) = σ₂ at hby
  have fr₂ : Fr [f] σ σ₂ := by rw [← hσ2]; exact fr₁.trans fr_alloc
  have gf₂ : σ₂.get f = some (.list (F.map pc)) := by rw [← hσ2, get_alloc, if_neg (by lia)]; exact gf₁
  -- the end of the else
  have hels : exs (ex (n + 11)) [.exp (.met .append (.var 3) [.tup [.var 12, .bif .bytes [.list [.idx (.var 26) (.var 12)]]]])] ρ σ₁ = some (.next, ρ, σ₂.w f (.list (F.map pc ++ [pc (a, [u])]))) := by
    refine exs_one (ex_exp (v := .none) ?_)
    exact ev_append h3 gf₁ (ev_tup2 (ev_var h12) (hby _)) gf₂ (by simp; lia)
  have hw : ∀ X, (σ₂.w f (.list X)).get f = some (.list X) := fun X => by rw [get_w, if_pos rfl]
  rcases List.eq_nil_or_concat F with rfl | ⟨G, p, hG⟩
  · refine ⟨σ₂.w f (.list (([] : List Pc).map pc ++ [pc (a, [u])])), exs_one ((ex_ite_f (ev_and_f he)).trans hels), hw _, fr₂.trans (fr_w gf₂ (by simp))⟩
  · rw [List.concat_eq_append] at hG
    subst hG
    have hne : decide ((G ++ [p]).map pc ≠ []) = true := by simp
    rw [hne] at he
    have hla : ∀ m, ev (m + 2) ρ (.idx (.var 3) .neg1) σ₁ = some (pc p, σ₁) := fun m => ev_last m h3 gf₁ (map_getLast _ _ _)
    have h0 : ∀ m, ev (m + 3) ρ (.idx (.idx (.var 3) .neg1) (.int 0)) σ₁ = some (.int p.1, σ₁) := fun m => by
      rw [ev, hla m]; simp [ev, aidx, pc, AV.by, St.on, no]
    have h1 : ∀ m, ev (m + 3) ρ (.idx (.idx (.var 3) .neg1) (.int 1)) σ₁ = some (.bytes p.2, σ₁) := fun m => by
      rw [ev, hla m]; simp [ev, aidx, pc, AV.by, St.on, no]
    have hlen : ∀ m, ev (m + 4) ρ (.bif .len [.idx (.idx (.var 3) .neg1) (.int 1)]) σ₁ = some (.int p.2.length, σ₁) := fun m => by
      rw [ev]; simp [evs, h1 m, abif, AV.by, St.on, args, no, no2, int2]
    have hcond : ev (n + 11) ρ (.and (.cmp (.var 3) .ne (.list [])) (.cmp (.bin .add (.idx (.idx (.var 3) (.neg1)) (.int 0)) (.bif .len [.idx (.idx (.var 3) (.neg1)) (.int 1)])) .eq (.var 12))) σ = some (.bool (decide (p.1 + p.2.length = a)), σ₁) := by
      refine (ev_and_t he).trans (ev_cmp (v := .int (p.1 + p.2.length)) ((ev_bin (h0 _) (hlen _)).trans (by simp [abin, AV.by, St.on, int2, no])) (ev_var h12) ?_)
      simp [acmp, aeq, kinV, kin, AV.by, St.on, int2, no, eqB, eqN]
    by_cases hc : p.1 + (p.2.length : Int) = a
    · rw [decide_eq_true hc] at hcond
      have hst : rowStep (G ++ [p]) a u = (G ++ [p]).set ((G ++ [p]).length - 1) (p.1, p.2 ++ [u]) := by
        unfold rowStep; rw [List.getLast?_concat]; dsimp only; rw [if_pos hc]
      have htp : p.2.length < 1000 := by rw [tot_append, tot_one] at ht; lia
      refine ⟨σ₂.w f (.list ((rowStep (G ++ [p]) a u).map pc)), exs_one ((ex_ite_t hcond).trans (exs_one ?_)), hw _, fr₂.trans (fr_w gf₂ (by simp))⟩
      have hv : ev (n + 10) ρ (.tup [.idx (.idx (.var 3) (.neg1)) (.int 0), .bin .add (.idx (.idx (.var 3) (.neg1)) (.int 1)) (.bif .bytes [.list [.idx (.var 26) (.var 12)]])]) σ₁ = some (pc (p.1, p.2 ++ [u]), σ₂) := by
        have q1 : ev (n + 9) ρ (.bin .add (.idx (.idx (.var 3) (.neg1)) (.int 1)) (.bif .bytes [.list [.idx (.var 26) (.var 12)]])) σ₁ = some (.bytes (p.2 ++ [u]), σ₂) := by
          refine (ev_bin (h1 _) (hby _)).trans ?_
          have : p.2.length + 1 ≤ 1000000 := by lia
          simp [abin, lim, this, AV.by, St.on, int2, no]
        rw [ev]; simp [evs, h0, q1, atomsOf, lim, pc]
      have ha : aset (.loc f) (.int (-1)) (pc (p.1, p.2 ++ [u])) σ₂ = some (σ₂.w f (.list ((rowStep (G ++ [p]) a u).map pc))) := by
        refine (on_l gf₂).trans ?_
        rw [if_neg (by lia), if_pos (by simp), hst, List.map_set, List.length_map]
        exact put_w gf₂
      rw [ex, hv]
      simp [ev, h3, ha]
    · rw [decide_eq_false hc] at hcond
      have hst : rowStep (G ++ [p]) a u = (G ++ [p]) ++ [(a, [u])] := by
        unfold rowStep; rw [List.getLast?_concat]; dsimp only; rw [if_neg hc]
      refine ⟨_, exs_one ((ex_ite_f hcond).trans hels), ?_, fr₂.trans (fr_w gf₂ (by simp))⟩
      rw [hw, hst, List.map_append (l₁ := G ++ [p])]
      rfl

theorem nodup_nat {α : Type} {l : List α} (h : l.length < 64) : l.length ≤ 1000000 := by lia
theorem nrm_len_tot {P : List Pc} (h : ∀ p ∈ P, p.2 ≠ []) : P.length ≤ tot P := by
  induction P with
  | nil => simp
  | cons p P ih =>
    have := len_pos (h p List.mem_cons_self)
    have := ih fun q hq => h q (List.mem_cons_of_mem _ hq)
    rw [tot_cons, List.length_cons]
    lia

theorem run_rows (n : Nat) {σ : St} {k : Nat} {K : Kn} (wf : WfS σ) (hk : σ.get k = some (.dict (K.map kv))) (hn : (K.map (·.1)).Nodup) (hl : K.length < 64) :
    ∃ r σ' R, runF (n + 14) 14 [.loc k] σ = some (.loc r, σ') ∧ Out σ r (R.map pc) σ' ∧ Nrm R ∧ ∀ a u, Has R a u ↔ (a, u) ∈ K := by
  have hkl := get_lt wf hk
  generalize hρ0 : upd noEn 26 (some (.loc k)) = ρ₀
  have g26 : ρ₀ 26 = some (.loc k) := by rw [← hρ0]; rfl
  generalize hσ1 : σ.alloc (.list []) = σ₁
  have wf₁ : WfS σ₁ := by rw [← hσ1]; exact wf_alloc wf
  have fr₁ : Fr [] σ σ₁ := by rw [← hσ1]; exact fr_alloc
  have nx₁ : σ₁.next = σ.next + 1 := by rw [← hσ1]; rfl
  have gf₁ : σ₁.get σ.next = some (.list []) := by rw [← hσ1, get_alloc, if_pos rfl]
  have gk₁ : σ₁.get k = some (.dict (K.map kv)) := by rw [← hσ1, get_alloc, if_neg (by lia)]; exact hk
  refine el_A (newL_out (xs := (sortI ((K.map kv).map (·.1))).map .int) fr₁ wf₁ (by simp [len_sortI]; lia)) fun n2 O2 => ?_
  generalize hσ2 : σ₁.alloc (.list ((sortI ((K.map kv).map (·.1))).map .int)) = σ₂ at n2 O2
  have nx₂ : σ₂.next = σ₁.next + 1 := by rw [← hσ2]; rfl
  have gf₂ : σ₂.get σ.next = some (.list (([] : List Pc).map pc)) := by rw [← hσ2, get_alloc, if_neg (by lia)]; exact gf₁
  have gk₂ : σ₂.get k = some (.dict (K.map kv)) := by rw [← hσ2, get_alloc, if_neg (by lia)]; exact gk₁
  have hkeys : (K.map kv).map (·.1) = K.map (·.1) := by rw [List.map_map]; rfl
  rw [hkeys] at n2 O2 hσ2
  let J : List Int → En → St → Prop := fun rest ρ τ => ρ 3 = some (.loc σ.next) ∧ ρ 26 = some (.loc k) ∧ WfS τ ∧ Fr [σ.next] σ₂ τ ∧ rest.Pairwise (· < ·) ∧ (∀ a ∈ rest, a ∈ K.map (·.1)) ∧
    ∃ F, τ.get σ.next = some (.list (F.map pc)) ∧ Nrm F ∧ (∀ p ∈ F, ∀ a ∈ rest, p.1 + p.2.length ≤ a) ∧ (∀ a u, Has F a u ↔ (a, u) ∈ K ∧ a ∉ rest) ∧ tot F + rest.length ≤ K.length
  have hstep : ∀ (x : Int) (rest : List Int) (ρ : En) (τ : St), J (x :: rest) ρ τ → ∃ ρ₁ ρ₂ τ₂, bindT (.one 12) (.int x) ρ = some ρ₁ ∧ exs (ex (n + 13)) rowBody ρ₁ τ = some (.next, ρ₂, τ₂) ∧ chk (some σ₁.next) σ₂ τ₂ = true ∧ J rest ρ₂ τ₂ := by
    rintro x rest ρ τ ⟨h3, h26, wft, frt, has, hin, F, hgf, hF, hend, hhas, htot⟩
    have hgk : τ.get k = some (.dict (K.map kv)) := (frt.get (by lia) (by simp; lia)).trans gk₂
    refine el_A (List.pairwise_cons.mp has) fun ha1 ha2 => ?_
    refine el_EA (List.mem_map.mp (hin x List.mem_cons_self)) fun hq1 hxu hx' => ?_; obtain ⟨x', u⟩ := hq1
    dsimp only at hx'; subst hx'
    have hu : kget K x' = some u := (kget_mem hn).mpr hxu
    simp only [List.length_cons] at htot
    have hFl := nrm_len_tot hF.ne
    refine el_EAA (row_turn (n + 1) (ρ := upd ρ 12 (some (.int x'))) (u := u) wft h3 rfl h26 hgf hgk hu (by lia) (by lia)) fun τ₂ e gf' fr' => ?_
    refine el_AAA (rowStep_inv (u := u) hF (fun p hp => hend p hp x' List.mem_cons_self)) fun i1 i2 i3 i4 => ?_
    have frn : Fr [σ.next] σ₂ τ₂ := frt.trans fr'
    refine ⟨_, _, τ₂, rfl, e, ?_, h3, h26, fr'.wf wft, frn, ha2, fun a h => hin a (List.mem_cons_of_mem _ h), _, gf', i1, ?_, ?_, ?_⟩
    · simp only [chk, decide_eq_true_eq]
      exact frn.keep _ (by lia) (by simp; lia)
    · intro p hp a har
      have := i3 p hp
      have := ha1 a har
      lia
    · intro a v
      rw [i2 a v, hhas a v]
      simp only [List.mem_cons, not_or]
      constructor
      · rintro (⟨k1, k2, k3⟩ | ⟨rfl, rfl⟩)
        · exact ⟨k1, k3⟩
        · refine ⟨hxu, fun h => ?_⟩
          have := ha1 _ h; lia
      · rintro ⟨k1, k2⟩
        by_cases hax : a = x'
        · subst hax
          right
          refine ⟨rfl, ?_⟩
          have := (kget_mem hn).mpr k1
          rw [hu] at this; cases this; rfl
        · exact .inl ⟨k1, hax, k2⟩
    · lia
  have hJ0 : J (sortI (K.map (·.1))) (upd ρ₀ 3 (some (.loc σ.next))) σ₂ := by
    refine ⟨rfl, g26, O2.wf, Fr.refl, asc_sortI hn, fun a h => mem_sortI.mp h, [], gf₂, .nil, by simp, fun a u => ?_, by simp [tot, len_sortI]⟩
    simp only [has_nil, false_iff, not_and, Decidable.not_not]
    intro h
    exact mem_sortI.mpr (List.mem_map.mpr ⟨_, h, rfl⟩)
  refine el_EEAAAAA (forl_inv hstep _ hJ0) fun ρ' σ' e h3 h26 wf' fr' hq2 => ?_; refine el_AAEAAAA hq2 fun _ _ R hgR hR _ hhas htR => ?_; clear hq2
  refine ⟨σ.next, σ', R, runF_ret (d := f14) (ρ := ρ₀) (ρ' := ρ') rfl (by rw [← hρ0]; rfl) ?_, ⟨hgR, ?_, wf', Nat.le_refl _, ?_⟩, hR, fun a u => by rw [hhas a u]; simp⟩
  · have s1 : ex (n + 14) (.set 3 (.list [])) ρ₀ σ = some (.next, upd ρ₀ 3 (some (.loc σ.next)), σ₁) := by
      refine ex_set ?_
      simp [ev, evs, newL, lim, hσ1]
    have s2 : ex (n + 14) (.forT (.one 12) (.bif .sorted [.var 26]) rowBody) (upd ρ₀ 3 (some (.loc σ.next))) σ₁ = some (.next, ρ', σ') := by
      refine (ex_for (items := (sortI (K.map (·.1))).map .int) (wl := some σ₁.next) (σ' := σ₂) ?_).trans e
      have hKl : (K.map kv).length < 64 := by simp; omega
      refine items_of ?_ O2.get
      have := ev_sorted (n := n + 11) (x := 26) (ρ := upd ρ₀ 3 (some (.loc σ.next))) g26 gk₁ hKl
      rw [hkeys] at this
      exact this.trans n2
    show exs (ex (n + 14)) [.set 3 (.list []), .forT (.one 12) (.bif .sorted [.var 26]) rowBody, .ret (.var 3)] ρ₀ σ = _
    rw [exs_next s1, exs_next s2]
    exact exs_ret (ex_ret (ev_var h3))
  · refine O2.fr.fresh fr' ?_
    intro l hl; right; simp at hl; lia
  · have := fr'.le; lia
end Mine

/-! LawS -/
namespace Mine

noncomputable def pairBody : List Y := match f15.body with
  | [_, .forT _ _ b, _] => b
  | _ => []

theorem pair_turn (n : Nat) {ρ : En} {σ : St} {f : Nat} {F : List Sn} {a : Int} (wf : WfS σ) (h3 : ρ 3 = some (.loc f)) (h12 : ρ 12 = some (.int a))
    (hf : σ.get f = some (.list (F.map sp))) (hF : F.length < 1000) :
    ∃ σ', exs (ex (n + 12)) pairBody ρ σ = some (.next, ρ, σ') ∧ σ'.get f = some (.list ((pairStep F a).map sp)) ∧ Fr [f] σ σ' := by
  have hb : pairBody = [.ite (.and (.cmp (.var 3) .ne (.list [])) (.cmp (.idx (.idx (.var 3) (.neg1)) (.int 1)) .eq (.var 12)))
          [
            .setI (.var 3) (.neg1) (.tup [.idx (.idx (.var 3) (.neg1)) (.int 0), .bin .add (.var 12) (.int 1)])]
          [
            .exp (.met .append (.var 3) [.tup [.var 12, .bin .add (.var 12) (.int 1)]])]] := rfl
  rw [hb]
  have hfl := get_lt wf hf
  have he := ev_nonempty (n + 6) wf h3 hf
  generalize hσ1 : σ.alloc (.list []) = σ₁ at he
  have fr₁ : Fr [f] σ σ₁ := by rw [← hσ1]; exact fr_alloc
  have gf₁ : σ₁.get f = some (.list (F.map sp)) := by rw [← hσ1, get_alloc, if_neg (by lia)]; exact hf
  have hadd : ∀ m, ev (m + 2) ρ (.bin .add (.var 12) (.int 1)) σ₁ = some (.int (a + 1), σ₁) := fun m => (ev_bin (ev_var h12) (w := .int 1) (by rw [ev])).trans rfl
  have hels : exs (ex (n + 11)) [.exp (.met .append (.var 3) [.tup [.var 12, .bin .add (.var 12) (.int 1)]])] ρ σ₁ = some (.next, ρ, σ₁.w f (.list (F.map sp ++ [sp (a, a + 1)]))) :=
    exs_one (ex_exp (v := .none) (ev_append h3 gf₁ (ev_tup2 (ev_var h12) (hadd _)) gf₁ (by simp; lia)))
  have hw : ∀ X, (σ₁.w f (.list X)).get f = some (.list X) := fun X => by rw [get_w, if_pos rfl]
  rcases List.eq_nil_or_concat F with rfl | ⟨G, p, hG⟩
  · exact ⟨_, exs_one ((ex_ite_f (ev_and_f he)).trans hels), hw _, fr₁.trans (fr_w gf₁ (by simp))⟩
  · rw [List.concat_eq_append] at hG
    subst hG
    have hne : decide ((G ++ [p]).map sp ≠ []) = true := by simp
    rw [hne] at he
    have hla : ∀ m, ev (m + 2) ρ (.idx (.var 3) .neg1) σ₁ = some (sp p, σ₁) := fun m => ev_last m h3 gf₁ (map_getLast _ _ _)
    have h0 : ∀ m, ev (m + 3) ρ (.idx (.idx (.var 3) .neg1) (.int 0)) σ₁ = some (.int p.1, σ₁) := fun m => by
      rw [ev, hla m]; simp [ev, aidx, sp, AV.by, St.on, no]
    have h1 : ∀ m, ev (m + 3) ρ (.idx (.idx (.var 3) .neg1) (.int 1)) σ₁ = some (.int p.2, σ₁) := fun m => by
      rw [ev, hla m]; simp [ev, aidx, sp, AV.by, St.on, no]
    have hcond : ev (n + 11) ρ (.and (.cmp (.var 3) .ne (.list [])) (.cmp (.idx (.idx (.var 3) (.neg1)) (.int 1)) .eq (.var 12))) σ = some (.bool (decide (p.2 = a)), σ₁) := by
      refine (ev_and_t he).trans (ev_cmp (h1 _) (ev_var h12) ?_)
      simp [acmp, aeq, kinV, kin, AV.by, St.on, int2, no, eqB, eqN]
    by_cases hc : p.2 = a
    · rw [decide_eq_true hc] at hcond
      have hst : pairStep (G ++ [p]) a = (G ++ [p]).set ((G ++ [p]).length - 1) (p.1, a + 1) := by
        unfold pairStep; rw [List.getLast?_concat]; dsimp only; rw [if_pos hc]
      refine ⟨σ₁.w f (.list ((pairStep (G ++ [p]) a).map sp)), exs_one ((ex_ite_t hcond).trans (exs_one ?_)), hw _, fr₁.trans (fr_w gf₁ (by simp))⟩
      have hv : ev (n + 10) ρ (.tup [.idx (.idx (.var 3) (.neg1)) (.int 0), .bin .add (.var 12) (.int 1)]) σ₁ = some (sp (p.1, a + 1), σ₁) := ev_tup2 (h0 _) (hadd _)
      have ha : aset (.loc f) (.int (-1)) (sp (p.1, a + 1)) σ₁ = some (σ₁.w f (.list ((pairStep (G ++ [p]) a).map sp))) := by
        refine (on_l gf₁).trans ?_
        rw [if_neg (by omega), if_pos (by simp), hst, List.map_set, List.length_map]
        exact put_w gf₁
      rw [ex, hv]
      simp [ev, h3, ha]
    · rw [decide_eq_false hc] at hcond
      have hst : pairStep (G ++ [p]) a = (G ++ [p]) ++ [(a, a + 1)] := by
        unfold pairStep; rw [List.getLast?_concat]; dsimp only; rw [if_neg hc]
      refine ⟨_, exs_one ((ex_ite_f hcond).trans hels), ?_, fr₁.trans (fr_w gf₁ (by simp))⟩
      rw [hw, hst, List.map_append (l₁ := G ++ [p])]
      rfl

theorem run_pairs (n : Nat) {σ : St} {k : Nat} {D : List (Int × AV)} (wf : WfS σ) (hk : σ.get k = some (.dict D)) (hn : (D.map (·.1)).Nodup) (hl : D.length < 64) :
    ∃ r σ' R, runF (n + 14) 15 [.loc k] σ = some (.loc r, σ') ∧ Out σ r (R.map sp) σ' ∧ NrmS R ∧ (∀ a, Mem R a ↔ a ∈ D.map (·.1)) ∧ wid R = D.length := by
  have hkl := get_lt wf hk
  generalize hρ0 : upd noEn 26 (some (.loc k)) = ρ₀
  have g26 : ρ₀ 26 = some (.loc k) := by rw [← hρ0]; rfl
  generalize hσ1 : σ.alloc (.list []) = σ₁
  have wf₁ : WfS σ₁ := by rw [← hσ1]; exact wf_alloc wf
  have fr₁ : Fr [] σ σ₁ := by rw [← hσ1]; exact fr_alloc
  have nx₁ : σ₁.next = σ.next + 1 := by rw [← hσ1]; rfl
  have gf₁ : σ₁.get σ.next = some (.list []) := by rw [← hσ1, get_alloc, if_pos rfl]
  have gk₁ : σ₁.get k = some (.dict D) := by rw [← hσ1, get_alloc, if_neg (by lia)]; exact hk
  refine el_A (newL_out (xs := (sortI (D.map (·.1))).map .int) fr₁ wf₁ (by simp [len_sortI]; lia)) fun n2 O2 => ?_
  generalize hσ2 : σ₁.alloc (.list ((sortI (D.map (·.1))).map .int)) = σ₂ at n2 O2
  have nx₂ : σ₂.next = σ₁.next + 1 := by rw [← hσ2]; rfl
  have gf₂ : σ₂.get σ.next = some (.list (([] : List Sn).map sp)) := by rw [← hσ2, get_alloc, if_neg (by lia)]; exact gf₁
  let J : List Int → En → St → Prop := fun rest ρ τ => ρ 3 = some (.loc σ.next) ∧ WfS τ ∧ Fr [σ.next] σ₂ τ ∧ rest.Pairwise (· < ·) ∧ (∀ a ∈ rest, a ∈ D.map (·.1)) ∧
    ∃ F, τ.get σ.next = some (.list (F.map sp)) ∧ NrmS F ∧ (∀ p ∈ F, ∀ a ∈ rest, p.2 ≤ a) ∧ (∀ a, Mem F a ↔ a ∈ D.map (·.1) ∧ a ∉ rest) ∧ F.length + rest.length ≤ D.length ∧ wid F + rest.length = D.length
  have hstep : ∀ (x : Int) (rest : List Int) (ρ : En) (τ : St), J (x :: rest) ρ τ → ∃ ρ₁ ρ₂ τ₂, bindT (.one 12) (.int x) ρ = some ρ₁ ∧ exs (ex (n + 13)) pairBody ρ₁ τ = some (.next, ρ₂, τ₂) ∧ chk (some σ₁.next) σ₂ τ₂ = true ∧ J rest ρ₂ τ₂ := by
    rintro x rest ρ τ ⟨h3, wft, frt, has, hin, F, hgf, hF, hend, hhas, htot, hwid⟩
    refine el_A (List.pairwise_cons.mp has) fun ha1 ha2 => ?_
    simp only [List.length_cons] at htot hwid
    refine el_EAA (pair_turn (n + 1) (ρ := upd ρ 12 (some (.int x))) (a := x) wft h3 rfl hgf (by lia)) fun τ₂ e gf' fr' => ?_
    refine el_AAAA (pairStep_inv hF (fun p hp => hend p hp x List.mem_cons_self)) fun i1 i2 i3 i4 i5 => ?_
    have frn : Fr [σ.next] σ₂ τ₂ := frt.trans fr'
    refine ⟨_, _, τ₂, rfl, e, ?_, h3, fr'.wf wft, frn, ha2, fun a h => hin a (List.mem_cons_of_mem _ h), _, gf', i1, ?_, ?_, ?_, ?_⟩
    · simp only [chk, decide_eq_true_eq]
      exact frn.keep _ (by lia) (by simp; lia)
    · intro p hp a har
      have := i3 p hp
      have := ha1 a har
      lia
    · intro a
      rw [i2 a, hhas a]
      simp only [List.mem_cons, not_or]
      constructor
      · rintro (⟨k1, k2, k3⟩ | rfl)
        · exact ⟨k1, k3⟩
        · refine ⟨hin _ List.mem_cons_self, fun h => ?_⟩
          have := ha1 _ h; lia
      · rintro ⟨k1, k2⟩
        by_cases hax : a = x
        · exact .inr hax
        · exact .inl ⟨k1, hax, k2⟩
    · lia
    · lia
  have hJ0 : J (sortI (D.map (·.1))) (upd ρ₀ 3 (some (.loc σ.next))) σ₂ := by
    refine ⟨rfl, O2.wf, Fr.refl, asc_sortI hn, fun a h => mem_sortI.mp h, [], gf₂, .nil, by simp, fun a => ?_, by simp [len_sortI], by simp [wid, len_sortI]⟩
    simp only [mem_nil, false_iff, not_and, Decidable.not_not]
    intro h
    exact mem_sortI.mpr h
  refine el_EEAAAAA (forl_inv hstep _ hJ0) fun ρ' σ' e h3 wf' fr' _ hq1 => ?_; refine el_AEAAAAA hq1 fun _ R hgR hR _ hhas _ hwid => ?_; clear hq1
  refine ⟨σ.next, σ', R, runF_ret (d := f15) (ρ := ρ₀) (ρ' := ρ') rfl (by rw [← hρ0]; rfl) ?_, ⟨hgR, ?_, wf', Nat.le_refl _, ?_⟩, hR, fun a => by rw [hhas a]; simp, by simpa using hwid⟩
  · have s1 : ex (n + 14) (.set 3 (.list [])) ρ₀ σ = some (.next, upd ρ₀ 3 (some (.loc σ.next)), σ₁) := by
      refine ex_set ?_
      simp [ev, evs, newL, lim, hσ1]
    have s2 : ex (n + 14) (.forT (.one 12) (.bif .sorted [.var 26]) pairBody) (upd ρ₀ 3 (some (.loc σ.next))) σ₁ = some (.next, ρ', σ') := by
      refine (ex_for (items := (sortI (D.map (·.1))).map .int) (wl := some σ₁.next) (σ' := σ₂) ?_).trans e
      refine items_of ?_ O2.get
      exact (ev_sorted (n := n + 11) (x := 26) (ρ := upd ρ₀ 3 (some (.loc σ.next))) g26 gk₁ hl).trans n2
    show exs (ex (n + 14)) [.set 3 (.list []), .forT (.one 12) (.bif .sorted [.var 26]) pairBody, .ret (.var 3)] ρ₀ σ = _
    rw [exs_next s1, exs_next s2]
    exact exs_ret (ex_ret (ev_var h3))
  · refine O2.fr.fresh fr' ?_
    intro l hl; right; simp at hl; lia
  · have := fr'.le; lia
end Mine

/-! LawT -/
namespace Mine

/-! add_span -/
noncomputable abbrev Sq := List Sn × Bool × Int × Int
noncomputable def spanStep (q : Sq) (s : Sn) : Sq :=
  if s.2 < q.2.2.1 then (q.1 ++ [s], q.2) else if q.2.2.2 < s.1 then ((if q.2.1 then q.1 else q.1 ++ [(q.2.2.1, q.2.2.2)]) ++ [s], true, q.2.2)
  else (q.1, q.2.1, min q.2.2.1 s.1, max q.2.2.2 s.2)

noncomputable def asBody : List Y := match f6.body with
  | [_, _, .forT _ _ b, _] => b
  | _ => []

theorem pair_ite {n : Nat} {c : X} {a b : List Y} {ρ ρ' : En} {σ σ' : St} {P : Prop} [Decidable P] (h : ev n ρ c σ = some (.bool (decide P), σ)) (ht : P → exs (ex n) a ρ σ = some (.next, ρ', σ')) (hf : ¬ P → exs (ex n) b ρ σ = some (.next, ρ', σ')) :
    ex (n + 1) (.ite c a b) ρ σ = some (.next, ρ', σ') := by
  by_cases hp : P
  · rw [decide_eq_true hp] at h; exact (ex_ite_t h).trans (ht hp)
  · rw [decide_eq_false hp] at h; exact (ex_ite_f h).trans (hf hp)

structure AsE (ρ : En) (f : Nat) (q : Sq) : Prop where
  f : ρ 3 = some (.loc f)
  put : ρ 17 = some (.bool q.2.1)
  lo : ρ 14 = some (.int q.2.2.1)
  hi : ρ 15 = some (.int q.2.2.2)

theorem as_turn (n : Nat) {ρ : En} {σ : St} {f : Nat} {q : Sq} {s : Sn} (E : AsE ρ f q) (h18 : ρ 18 = some (.int s.1)) (h19 : ρ 19 = some (.int s.2))
    (hf : σ.get f = some (.list (q.1.map sp))) (hF : q.1.length < 1000) :
    ∃ ρ' σ', exs (ex (n + 12)) asBody ρ σ = some (.next, ρ', σ') ∧ AsE ρ' f (spanStep q s) ∧ σ'.get f = some (.list ((spanStep q s).1.map sp)) ∧ Fr [f] σ σ' ∧ σ'.next = σ.next := by
  obtain ⟨h3, h17, h14, h15⟩ := E
  obtain ⟨F, put, lo, hi⟩ := q
  dsimp only at *
  have hb : asBody = [
        .ite (.cmp (.var 19) .lt (.var 14))
          [
            .exp (.met .append (.var 3) [.tup [.var 18, .var 19]])]
          [
            .ite (.cmp (.var 15) .lt (.var 18))
              [
                .ite (.not (.var 17))
                  [
                    .exp (.met .append (.var 3) [.tup [.var 14, .var 15]]),
                    .set 17 (.bool true)]
                  [],
                .exp (.met .append (.var 3) [.tup [.var 18, .var 19]])]
              [
                .setT [14, 15] (.tup [.bif .min [.var 14, .var 18], .bif .max [.var 15, .var 19]])]]] := rfl
  rw [hb]
  have hw : ∀ X, (σ.w f (.list X)).get f = some (.list X) := fun X => by rw [get_w, if_pos rfl]
  have hl : (F.map sp).length < 1000000 := by simp; lia
  have c1 : ∀ m, ev (m + 2) ρ (.cmp (.var 19) .lt (.var 14)) σ = some (.bool (decide (s.2 < lo)), σ) := fun m => ev_cmp (ev_var h19) (ev_var h14) rfl
  have c2 : ∀ m, ev (m + 2) ρ (.cmp (.var 15) .lt (.var 18)) σ = some (.bool (decide (hi < s.1)), σ) := fun m => ev_cmp (ev_var h15) (ev_var h18) rfl
  by_cases hc1 : s.2 < lo
  · have e := c1 (n + 9)
    rw [decide_eq_true hc1] at e
    have hst : spanStep (F, put, lo, hi) s = (F ++ [s], put, lo, hi) := by unfold spanStep; dsimp only; rw [if_pos hc1]
    rw [hst]
    refine ⟨ρ, σ.w f (.list (F.map sp ++ [sp s])), exs_one ((ex_ite_t e).trans (exs_one (ex_exp (ev_append h3 hf (ev_tup2 (ev_var h18) (ev_var h19)) hf hl)))), ⟨h3, h17, h14, h15⟩, ?_, fr_w hf (by simp), rfl⟩
    rw [hw]; simp
  · have e := c1 (n + 9)
    rw [decide_eq_false hc1] at e
    by_cases hc2 : hi < s.1
    · have e2 := c2 (n + 8)
      rw [decide_eq_true hc2] at e2
      have hst : spanStep (F, put, lo, hi) s = ((if put then F else F ++ [(lo, hi)]) ++ [s], true, lo, hi) := by unfold spanStep; dsimp only; rw [if_neg hc1, if_pos hc2]
      rw [hst]
      cases put with
      | true =>
        have e3 : ex (n + 10) (.ite (.not (.var 17)) [.exp (.met .append (.var 3) [.tup [.var 14, .var 15]]), .set 17 (.bool true)] []) ρ σ = some (.next, ρ, σ) :=
          (ex_ite_f (ev_not (ev_var h17))).trans exs_nil
        refine ⟨ρ, σ.w f (.list (F.map sp ++ [sp s])), exs_one ((ex_ite_f e).trans (exs_one ((ex_ite_t e2).trans ((exs_next e3).trans (exs_one (ex_exp (ev_append h3 hf (ev_tup2 (ev_var h18) (ev_var h19)) hf hl))))))), ⟨h3, h17, h14, h15⟩, ?_, fr_w hf (by simp), rfl⟩
        rw [hw]; simp
      | false =>
        have g1 : (σ.w f (.list (F.map sp ++ [sp (lo, hi)]))).get f = some (.list (F.map sp ++ [sp (lo, hi)])) := hw _
        have fr1 : Fr [f] σ (σ.w f (.list (F.map sp ++ [sp (lo, hi)]))) := fr_w hf (by simp)
        generalize hσ1 : σ.w f (.list (F.map sp ++ [sp (lo, hi)])) = σ₁ at g1 fr1
        have nx1 : σ₁.next = σ.next := by rw [← hσ1]; rfl
        have e3 : ex (n + 10) (.ite (.not (.var 17)) [.exp (.met .append (.var 3) [.tup [.var 14, .var 15]]), .set 17 (.bool true)] []) ρ σ = some (.next, upd ρ 17 (some (.bool true)), σ₁) := by
          refine (ex_ite_t (ev_not (ev_var h17))).trans ((exs_next (ρ₁ := ρ) (σ₁ := σ₁) (ex_exp (v := .none) ?_)).trans (exs_one (ex_set ?_)))
          · rw [← hσ1]; exact ev_append h3 hf (ev_tup2 (ev_var h14) (ev_var h15)) hf hl
          · rw [ev]
        have hw1 : ∀ X, (σ₁.w f (.list X)).get f = some (.list X) := fun X => by rw [get_w, if_pos rfl]
        have k3 : upd ρ 17 (some (.bool true)) 3 = some (.loc f) := h3
        have k18 : upd ρ 17 (some (.bool true)) 18 = some (.int s.1) := h18
        have k19 : upd ρ 17 (some (.bool true)) 19 = some (.int s.2) := h19
        refine ⟨upd ρ 17 (some (.bool true)), σ₁.w f (.list ((F.map sp ++ [sp (lo, hi)]) ++ [sp s])), exs_one ((ex_ite_f e).trans (exs_one ((ex_ite_t e2).trans ((exs_next e3).trans (exs_one (ex_exp (ev_append k3 g1 (ev_tup2 (ev_var k18) (ev_var k19)) g1 (by simp; lia)))))))), ⟨k3, rfl, h14, h15⟩, ?_, fr1.trans (fr_w g1 (by simp)), nx1⟩
        rw [hw1]; simp
    · have e2 := c2 (n + 8)
      rw [decide_eq_false hc2] at e2
      have hst : spanStep (F, put, lo, hi) s = (F, put, min lo s.1, max hi s.2) := by unfold spanStep; dsimp only; rw [if_neg hc1, if_neg hc2]
      rw [hst]
      have m1 : ev (n + 8) ρ (.bif .min [.var 14, .var 18]) σ = some (.int (min lo s.1), σ) := by
        rw [ev]; simp [evs, ev_var h14, ev_var h18, abif, AV.by, St.on, args, no, no2, int2]
      have m2 : ev (n + 8) ρ (.bif .max [.var 15, .var 19]) σ = some (.int (max hi s.2), σ) := by
        rw [ev]; simp [evs, ev_var h15, ev_var h19, abif, AV.by, St.on, args, no, no2, int2]
      refine ⟨_, σ, exs_one ((ex_ite_f e).trans (exs_one ((ex_ite_f e2).trans (exs_one (ex_setT (ev_tup2 m1 m2) bindT_pair))))), ⟨h3, h17, rfl, rfl⟩, hf, Fr.refl, rfl⟩

/-- what the fold knows: R passed, T to come -/
structure AsI (lo hi : Int) (R T : List Sn) (q : Sq) : Prop where
  lt : q.2.2.1 < q.2.2.2
  nrm : NrmS q.1
  len : q.1.length ≤ R.length + 1
  next : ∀ p ∈ q.1, ∀ s ∈ T, p.2 < s.1
  no : q.2.1 = false → q.1.length ≤ R.length ∧ (∀ p ∈ q.1, p.2 < q.2.2.1) ∧ ∀ a, Mem q.1 a ∨ (q.2.2.1 ≤ a ∧ a < q.2.2.2) ↔ Mem R a ∨ (lo ≤ a ∧ a < hi)
  yes : q.2.1 = true → (∀ s ∈ T, q.2.2.2 < s.1) ∧ ∀ a, Mem q.1 a ↔ Mem R a ∨ (lo ≤ a ∧ a < hi)

theorem AsI.step {lo hi : Int} {R T : List Sn} {q : Sq} {s : Sn} (I : AsI lo hi R (s :: T) q) (hT : NrmS (s :: T)) : AsI lo hi (R ++ [s]) T (spanStep q s) := by
  obtain ⟨lt, nrm, len, next, no, yes⟩ := I
  obtain ⟨F, put, l, h⟩ := q
  dsimp only at *
  refine el_AA (nrmS_cons.mp hT) fun t1 t2 t3 => ?_
  have hs : ∀ p ∈ F, p.2 < s.1 := fun p hp => next p hp s List.mem_cons_self
  have hT' : ∀ p ∈ F, ∀ x ∈ T, p.2 < x.1 := fun p hp x hx => next p hp x (List.mem_cons_of_mem _ hx)
  have nF : NrmS (F ++ [s]) := nrmS_append.mpr ⟨nrm, nrmS_one t1, fun p hp x hx => by rw [List.mem_singleton] at hx; subst hx; exact hs p hp⟩
  have nx : ∀ p ∈ F ++ [s], ∀ x ∈ T, p.2 < x.1 := by
    intro p hp x hx
    rcases List.mem_append.mp hp with hp | hp
    · exact hT' p hp x hx
    · rw [List.mem_singleton] at hp; subst hp; exact t2 x hx
  unfold spanStep
  dsimp only
  split
  · rename_i hc
    refine ⟨lt, nF, by simp; omega, nx, fun hp => ?_, fun hp => ?_⟩
    · refine el_AA (no hp) fun n1 n2 n3 => ?_
      refine ⟨by simp; omega, fun p hp => ?_, fun a => ?_⟩
      · rcases List.mem_append.mp hp with hp | hp
        · exact n2 p hp
        · rw [List.mem_singleton] at hp; subst hp; exact hc
      · have := n3 a
        simp only [mem_append', mem_one]
        constructor
        · rintro ((k | k) | k)
          · rcases this.mp (.inl k) with k | k
            · exact .inl (.inl k)
            · exact .inr k
          · exact .inl (.inr k)
          · rcases this.mp (.inr k) with k | k
            · exact .inl (.inl k)
            · exact .inr k
        · rintro ((k | k) | k)
          · rcases this.mpr (.inl k) with k | k
            · exact .inl (.inl k)
            · exact .inr k
          · exact .inl (.inr k)
          · rcases this.mpr (.inr k) with k | k
            · exact .inl (.inl k)
            · exact .inr k
    · have := (yes hp).1 s List.mem_cons_self
      omega
  · split
    · rename_i hc1 hc2
      cases put with
      | true =>
        refine el_A (yes rfl) fun y1 y2 => ?_
        refine ⟨lt, nF, by simp; omega, nx, fun hp => absurd hp (by simp), fun _ => ⟨fun x hx => ?_, fun a => ?_⟩⟩
        · have := t2 x hx
          dsimp only
          omega
        · have := y2 a
          simp only [if_true, mem_append', mem_one]
          rw [this]
          constructor
          · rintro ((k | k) | k)
            · exact .inl (.inl k)
            · exact .inr k
            · exact .inl (.inr k)
          · rintro ((k | k) | k)
            · exact .inl (.inl k)
            · exact .inr k
            · exact .inl (.inr k)
      | false =>
        refine el_AA (no rfl) fun n1 n2 n3 => ?_
        refine ⟨lt, ?_, by simp; omega, ?_, fun hp => absurd hp (by simp), fun _ => ⟨fun x hx => ?_, fun a => ?_⟩⟩
        · show NrmS (F ++ [(l, h)] ++ [s])
          refine nrmS_append.mpr ⟨nrmS_append.mpr ⟨nrm, nrmS_one lt, fun p hp x hx => ?_⟩, nrmS_one t1, fun p hp x hx => ?_⟩
          · rw [List.mem_singleton] at hx; subst hx; exact n2 p hp
          · rw [List.mem_singleton] at hx; subst hx
            rcases List.mem_append.mp hp with hp | hp
            · exact hs p hp
            · rw [List.mem_singleton] at hp; subst hp; exact hc2
        · intro p hp x hx
          have hp : p ∈ F ++ [(l, h)] ++ [s] := hp
          have := t2 x hx
          simp only [List.mem_append, List.mem_singleton] at hp
          rcases hp with (hp | rfl) | rfl
          · exact hT' p hp x hx
          · dsimp only; omega
          · exact this
        · have := t2 x hx
          dsimp only
          omega
        · have := n3 a
          show Mem (F ++ [(l, h)] ++ [s]) a ↔ _
          simp only [mem_append', mem_one]
          rw [this]
          constructor
          · rintro ((k | k) | k)
            · exact .inl (.inl k)
            · exact .inr k
            · exact .inl (.inr k)
          · rintro ((k | k) | k)
            · exact .inl (.inl k)
            · exact .inr k
            · exact .inl (.inr k)
    · rename_i hc1 hc2
      cases put with
      | true =>
        have := (yes rfl).1 s List.mem_cons_self
        omega
      | false =>
        refine el_AA (no rfl) fun n1 n2 n3 => ?_
        refine ⟨by dsimp only; omega, nrm, by simp; omega, hT', fun _ => ⟨by simp; omega, fun p hp => ?_, fun a => ?_⟩, fun hp => absurd hp (by simp)⟩
        · have := n2 p hp; have := hs p hp; dsimp only; omega
        · have := n3 a
          have hmm : (min l s.1 ≤ a ∧ a < max h s.2) ↔ (l ≤ a ∧ a < h) ∨ (s.1 ≤ a ∧ a < s.2) := by omega
          simp only [mem_append', mem_one]
          rw [hmm]
          constructor
          · rintro (k | k | k)
            · rcases this.mp (.inl k) with k | k
              · exact .inl (.inl k)
              · exact .inr k
            · rcases this.mp (.inr k) with k | k
              · exact .inl (.inl k)
              · exact .inr k
            · exact .inl (.inr k)
          · rintro ((k | k) | k)
            · rcases this.mpr (.inl k) with k | k
              · exact .inl k
              · exact .inr (.inl k)
            · exact .inr (.inr k)
            · rcases this.mpr (.inr k) with k | k
              · exact .inl k
              · exact .inr (.inl k)

theorem run_add_span (n : Nat) {σ : St} {l : Nat} {S : List Sn} {lo hi : Int} (wf : WfS σ) (hl : σ.get l = some (.list (S.map sp))) (hN : NrmS S) (hS : S.length < 900) :
    ∃ r σ' S', runF (n + 14) 6 [.loc l, .int lo, .int hi] σ = some (.loc r, σ') ∧ Out σ r (S'.map sp) σ' ∧ NrmS S' ∧ ∀ a, Mem S' a ↔ Mem S a ∨ (lo ≤ a ∧ a < hi) := by
  have hlt := get_lt wf hl
  generalize hρ0 : upd (upd (upd noEn 16 (some (.loc l))) 14 (some (.int lo))) 15 (some (.int hi)) = ρ₀
  have g16 : ρ₀ 16 = some (.loc l) := by rw [← hρ0]; rfl
  have g14 : ρ₀ 14 = some (.int lo) := by rw [← hρ0]; rfl
  have g15 : ρ₀ 15 = some (.int hi) := by rw [← hρ0]; rfl
  have c0 : ∀ m, ev (m + 2) ρ₀ (.cmp (.var 14) .ge (.var 15)) σ = some (.bool (decide (hi ≤ lo)), σ) := fun m => ev_cmp (ev_var g14) (ev_var g15) rfl
  by_cases hc : hi ≤ lo
  · refine el_A (newL_out (σ := σ) (xs := S.map sp) Fr.refl wf (by simp; lia)) fun n1 O1 => ?_
    have e := c0 (n + 11)
    rw [decide_eq_true hc] at e
    refine ⟨_, _, S, runF_ret (d := f6) (ρ := ρ₀) (ρ' := ρ₀) rfl (by rw [← hρ0]; rfl) (exs_ret ((ex_ite_t e).trans (exs_ret (ex_ret ?_)))), O1, hN, fun a => ?_⟩
    · rw [ev]; simp [evs, ev_var g16, abif, hl, n1, AV.by, St.on, args, no, no2, int2]
    · constructor
      · exact .inl
      · rintro (k | k)
        · exact k
        · omega
  have e0 := c0 (n + 11)
  rw [decide_eq_false hc] at e0
  have s1 : ex (n + 14) (.ite (.cmp (.var 14) .ge (.var 15)) [.ret (.bif .list [.var 16])] []) ρ₀ σ = some (.next, ρ₀, σ) := (ex_ite_f e0).trans exs_nil
  generalize hσ1 : σ.alloc (.list []) = σ₁
  have wf₁ : WfS σ₁ := by rw [← hσ1]; exact wf_alloc wf
  have fr₁ : Fr [] σ σ₁ := by rw [← hσ1]; exact fr_alloc
  have nx₁ : σ₁.next = σ.next + 1 := by rw [← hσ1]; rfl
  have gf₁ : σ₁.get σ.next = some (.list (([] : List Sn).map sp)) := by rw [← hσ1, get_alloc, if_pos rfl]; rfl
  have gl₁ : σ₁.get l = some (.list (S.map sp)) := by rw [← hσ1, get_alloc, if_neg (by lia)]; exact hl
  let ρ₁ := upd (upd ρ₀ 3 (some (.loc σ.next))) 17 (some (.bool false))
  have s2 : ex (n + 14) (.setT [3, 17] (.tup [.list [], .bool false])) ρ₀ σ = some (.next, ρ₁, σ₁) := by
    refine ex_setT (v := .tup [.loc σ.next, .bool false]) ?_ rfl
    simp [ev, evs, newL, atomsOf, lim, hσ1]
  let J : List Sn → En → St → Prop := fun rest ρ τ => WfS τ ∧ Fr [σ.next] σ₁ τ ∧ τ.next = σ₁.next ∧ ∃ R q, S = R ++ rest ∧ AsE ρ σ.next q ∧ τ.get σ.next = some (.list (q.1.map sp)) ∧ AsI lo hi R rest q
  have hstep : ∀ (x : Sn) (rest : List Sn) (ρ : En) (τ : St), J (x :: rest) ρ τ → ∃ ρ₁ ρ₂ τ₂, bindT (.many [18, 19]) (sp x) ρ = some ρ₁ ∧ exs (ex (n + 13)) asBody ρ₁ τ = some (.next, ρ₂, τ₂) ∧ chk (some l) σ₁ τ₂ = true ∧ J rest ρ₂ τ₂ := by
    rintro x rest ρ τ ⟨wft, frt, nxt, R, q, hR, E, hgf, I⟩
    have hlen : R.length + (rest.length + 1) = S.length := by rw [hR]; simp
    have hq := I.len
    refine el_EEAAAA (as_turn (n + 1) (ρ := upd (upd ρ 18 (some (.int x.1))) 19 (some (.int x.2))) (s := x) (q := q) (f := σ.next) ⟨E.f, E.put, E.lo, E.hi⟩ rfl rfl hgf (by lia)) fun ρ₂ τ₂ e E' gf' fr' nx' => ?_
    have frn : Fr [σ.next] σ₁ τ₂ := frt.trans fr'
    refine ⟨_, _, τ₂, rfl, e, ?_, fr'.wf wft, frn, nx'.trans nxt, R ++ [x], _, by rw [hR]; simp, E', gf', I.step ?_⟩
    · simp only [chk, decide_eq_true_eq]
      exact frn.keep _ (by lia) (by simp; lia)
    · rw [hR] at hN
      exact (nrmS_append.mp hN).2.1
  have hJ0 : J S ρ₁ σ₁ := by
    refine ⟨wf₁, Fr.refl, rfl, [], ([], false, lo, hi), by simp, ⟨rfl, rfl, g14, g15⟩, gf₁, ⟨by dsimp only; omega, .nil, by simp, by simp, fun _ => ⟨by simp, by simp, fun a => by simp [mem_nil]⟩, fun h => absurd h (by simp)⟩⟩
  refine el_EEAAAAE (forl_inv hstep _ hJ0) fun ρ' σ' e wf' fr' nx' R hq1 => ?_; refine el_EAAA hq1 fun q hR E hgf I => ?_; clear hq1
  have hRS : R = S := by rw [hR]; simp
  subst hRS
  have s3 : ex (n + 14) (.forT (.many [18, 19]) (.var 16) asBody) ρ₁ σ₁ = some (.next, ρ', σ') :=
    (ex_for (items := R.map sp) (wl := some l) (σ' := σ₁) (items_of (ev_var (x := 16) (ρ := ρ₁) g16) gl₁)).trans e
  obtain ⟨F, put, lo', hi'⟩ := q
  obtain ⟨h3, h17, h14, h15⟩ := E
  have hFl := I.len
  dsimp only at h17 h14 h15 hgf hFl
  have hOut : Out σ σ.next (F.map sp) σ' := ⟨hgf, fr₁.fresh fr' (by simp), wf', Nat.le_refl _, by lia⟩
  have hrun : ∀ {r : Nat} {τ : St}, ev (n + 13) ρ' (.ife (.var 17) (.var 3) (.bin .add (.var 3) (.list [.tup [.var 14, .var 15]]))) σ' = some (.loc r, τ) → runF (n + 14) 6 [.loc l, .int lo, .int hi] σ = some (.loc r, τ) := by
    intro r τ he
    refine runF_ret (d := f6) (ρ := ρ₀) (ρ' := ρ') rfl (by rw [← hρ0]; rfl) ?_
    show exs (ex (n + 14)) [.ite (.cmp (.var 14) .ge (.var 15)) [.ret (.bif .list [.var 16])] [], .setT [3, 17] (.tup [.list [], .bool false]), .forT (.many [18, 19]) (.var 16) asBody, .ret (.ife (.var 17) (.var 3) (.bin .add (.var 3) (.list [.tup [.var 14, .var 15]])))] ρ₀ σ = _
    rw [exs_next s1, exs_next s2, exs_next s3]
    exact exs_ret (ex_ret he)
  cases put with
  | true =>
    refine ⟨σ.next, σ', F, hrun ((ev_ife_t (ev_var h17)).trans (ev_var h3)), hOut, I.nrm, fun a => ?_⟩
    exact (I.yes rfl).2 a
  | false =>
    refine el_AA (I.no rfl) fun _ i1 i2 => ?_
    dsimp only at i1 i2
    refine el_A (newL_out (xs := [sp (lo', hi')]) hOut.fr wf' (by simp)) fun n1 O1 => ?_
    refine el_A (newL_out (xs := (F ++ [(lo', hi')]).map sp) O1.fr O1.wf (by simp; lia)) fun n2 O2 => ?_
    refine ⟨_, _, F ++ [(lo', hi')], hrun ((ev_ife_f (ev_var h17)).trans ((ev_bin (ev_var h3) (w := .loc σ'.next) (σ₂ := σ'.alloc (.list [sp (lo', hi')])) ?_).trans ?_)), O2, nrmS_append.mpr ⟨I.nrm, nrmS_one I.lt, fun p hp x hx => by rw [List.mem_singleton] at hx; subst hx; exact i1 p hp⟩, fun a => ?_⟩
    · rw [ev]; simp only [evs, ev_tup2 (n := n + 9) (ev_var h14) (ev_var h15)]
      exact n1
    · have g3 : (σ'.alloc (.list [sp (lo', hi')])).get σ.next = some (.list (F.map sp)) := by rw [get_alloc, if_neg (by lia)]; exact hgf
      simp only [abin, g3, O1.get, AV.by, St.on, int2, no]
      rw [← n2]; simp
    · rw [mem_append', mem_one]; exact i2 a
end Mine

/-! LawU -/
namespace Mine

/-! cut_span -/
noncomputable def cutP (lo hi : Int) (s : Sn) : List Sn := (if s.1 < min s.2 lo then [(s.1, min s.2 lo)] else []) ++ (if max s.1 hi < s.2 then [(max s.1 hi, s.2)] else [])
noncomputable def csBody : List Y := match f7.body with
  | [_, .forT _ _ b, _] => b
  | _ => []

theorem ev_min {n : Nat} {e₁ e₂ : X} {ρ : En} {σ σ₁ σ₂ : St} {x y : Int} (h : ev n ρ e₁ σ = some (.int x, σ₁)) (h' : ev n ρ e₂ σ₁ = some (.int y, σ₂)) : ev (n + 1) ρ (.bif .min [e₁, e₂]) σ = some (.int (min x y), σ₂) := by
  rw [ev]; simp [evs, h, h', abif, AV.by, St.on, args, no, no2, int2]
theorem ev_max {n : Nat} {e₁ e₂ : X} {ρ : En} {σ σ₁ σ₂ : St} {x y : Int} (h : ev n ρ e₁ σ = some (.int x, σ₁)) (h' : ev n ρ e₂ σ₁ = some (.int y, σ₂)) : ev (n + 1) ρ (.bif .max [e₁, e₂]) σ = some (.int (max x y), σ₂) := by
  rw [ev]; simp [evs, h, h', abif, AV.by, St.on, args, no, no2, int2]

theorem cs_turn (n : Nat) {ρ : En} {σ : St} {f : Nat} {F : List Sn} {s : Sn} {lo hi : Int} (h3 : ρ 3 = some (.loc f)) (h14 : ρ 14 = some (.int lo)) (h15 : ρ 15 = some (.int hi)) (h18 : ρ 18 = some (.int s.1)) (h19 : ρ 19 = some (.int s.2))
    (hf : σ.get f = some (.list (F.map sp))) (hF : F.length < 1000) :
    ∃ σ', exs (ex (n + 12)) csBody ρ σ = some (.next, ρ, σ') ∧ σ'.get f = some (.list ((F ++ cutP lo hi s).map sp)) ∧ Fr [f] σ σ' ∧ σ'.next = σ.next := by
  have hb : csBody = [
        .ite (.cmp (.var 18) .lt (.bif .min [.var 19, .var 14]))
          [
            .exp (.met .append (.var 3) [.tup [.var 18, .bif .min [.var 19, .var 14]]])]
          [],
        .ite (.cmp (.bif .max [.var 18, .var 15]) .lt (.var 19))
          [
            .exp (.met .append (.var 3) [.tup [.bif .max [.var 18, .var 15], .var 19]])]
          []] := rfl
  rw [hb]
  have one : ∀ {τ : St} {G : List Sn}, τ.get f = some (.list (G.map sp)) → G.length < 1000 → ∃ τ', ex (n + 12) (.ite (.cmp (.var 18) .lt (.bif .min [.var 19, .var 14])) [.exp (.met .append (.var 3) [.tup [.var 18, .bif .min [.var 19, .var 14]]])] []) ρ τ = some (.next, ρ, τ') ∧
      τ'.get f = some (.list ((G ++ (if s.1 < min s.2 lo then [(s.1, min s.2 lo)] else [])).map sp)) ∧ Fr [f] τ τ' ∧ τ'.next = τ.next := by
    intro τ G hg hG
    have e : ev (n + 11) ρ (.cmp (.var 18) .lt (.bif .min [.var 19, .var 14])) τ = some (.bool (decide (s.1 < min s.2 lo)), τ) := ev_cmp (ev_var h18) (ev_min (ev_var h19) (ev_var h14)) rfl
    by_cases hc : s.1 < min s.2 lo
    · rw [decide_eq_true hc] at e
      rw [if_pos hc]
      refine ⟨_, (ex_ite_t e).trans (exs_one (ex_exp (ev_append h3 hg (ev_tup2 (ev_var h18) (ev_min (ev_var h19) (ev_var h14))) hg (by simp; lia)))), ?_, fr_w hg (by simp), rfl⟩
      rw [get_w, if_pos rfl, List.map_append]; rfl
    · rw [decide_eq_false hc] at e
      rw [if_neg hc, List.append_nil]
      exact ⟨τ, (ex_ite_f e).trans exs_nil, hg, Fr.refl, rfl⟩
  have two : ∀ {τ : St} {G : List Sn}, τ.get f = some (.list (G.map sp)) → G.length < 2000 → ∃ τ', ex (n + 12) (.ite (.cmp (.bif .max [.var 18, .var 15]) .lt (.var 19)) [.exp (.met .append (.var 3) [.tup [.bif .max [.var 18, .var 15], .var 19]])] []) ρ τ = some (.next, ρ, τ') ∧
      τ'.get f = some (.list ((G ++ (if max s.1 hi < s.2 then [(max s.1 hi, s.2)] else [])).map sp)) ∧ Fr [f] τ τ' ∧ τ'.next = τ.next := by
    intro τ G hg hG
    have e : ev (n + 11) ρ (.cmp (.bif .max [.var 18, .var 15]) .lt (.var 19)) τ = some (.bool (decide (max s.1 hi < s.2)), τ) := ev_cmp (ev_max (ev_var h18) (ev_var h15)) (ev_var h19) rfl
    by_cases hc : max s.1 hi < s.2
    · rw [decide_eq_true hc] at e
      rw [if_pos hc]
      refine ⟨_, (ex_ite_t e).trans (exs_one (ex_exp (ev_append h3 hg (ev_tup2 (ev_max (ev_var h18) (ev_var h15)) (ev_var h19)) hg (by simp; lia)))), ?_, fr_w hg (by simp), rfl⟩
      rw [get_w, if_pos rfl, List.map_append]; rfl
    · rw [decide_eq_false hc] at e
      rw [if_neg hc, List.append_nil]
      exact ⟨τ, (ex_ite_f e).trans exs_nil, hg, Fr.refl, rfl⟩
  refine el_EAAA (one hf hF) fun τ₁ e1 g1 fr1 nx1 => ?_
  obtain ⟨τ₂, e2, g2, fr2, nx2⟩ := two g1 (by
    rw [List.length_append]; split <;> simp <;> lia)
  refine ⟨τ₂, (exs_next e1).trans (exs_one e2), ?_, fr1.trans fr2, nx2.trans nx1⟩
  rw [g2]; unfold cutP; rw [List.append_assoc]

theorem cutP_in {lo hi : Int} {s p : Sn} (h : p ∈ cutP lo hi s) : s.1 ≤ p.1 ∧ p.2 ≤ s.2 ∧ p.1 < p.2 := by
  unfold cutP at h
  simp only [List.mem_append] at h
  rcases h with h | h
  · split at h
    · rw [List.mem_singleton] at h; subst h; dsimp only; lia
    · cases h
  · split at h
    · rw [List.mem_singleton] at h; subst h; dsimp only; lia
    · cases h
theorem cutP_mem {lo hi a : Int} {s : Sn} (h : lo < hi) : Mem (cutP lo hi s) a ↔ (s.1 ≤ a ∧ a < s.2) ∧ ¬ (lo ≤ a ∧ a < hi) := by
  unfold cutP
  rw [mem_append']
  have h1 : Mem (if s.1 < min s.2 lo then [(s.1, min s.2 lo)] else []) a ↔ s.1 ≤ a ∧ a < min s.2 lo := by
    split
    · rw [mem_one]
    · simp only [mem_nil, false_iff]; lia
  have h2 : Mem (if max s.1 hi < s.2 then [(max s.1 hi, s.2)] else []) a ↔ max s.1 hi ≤ a ∧ a < s.2 := by
    split
    · rw [mem_one]
    · simp only [mem_nil, false_iff]; lia
  rw [h1, h2]
  omega
theorem cutP_nrm {lo hi : Int} {s : Sn} (h : lo < hi) : NrmS (cutP lo hi s) := by
  unfold cutP
  refine nrmS_append.mpr ⟨?_, ?_, ?_⟩
  · split
    · rename_i hc; exact nrmS_one hc
    · exact .nil
  · split
    · rename_i hc; exact nrmS_one hc
    · exact .nil
  · intro p hp q hq
    split at hp
    · split at hq
      · rw [List.mem_singleton] at hp hq; subst hp; subst hq; dsimp only; omega
      · cases hq
    · cases hp
theorem cutP_len {lo hi : Int} {s : Sn} : (cutP lo hi s).length ≤ 2 := by
  unfold cutP
  rw [List.length_append]
  split <;> split <;> simp

theorem run_cut_span (n : Nat) {σ : St} {l : Nat} {S : List Sn} {lo hi : Int} (wf : WfS σ) (hl : σ.get l = some (.list (S.map sp))) (hN : NrmS S) (hS : S.length < 400) :
    ∃ r σ' S', runF (n + 14) 7 [.loc l, .int lo, .int hi] σ = some (.loc r, σ') ∧ Out σ r (S'.map sp) σ' ∧ NrmS S' ∧ ∀ a, Mem S' a ↔ Mem S a ∧ ¬ (lo ≤ a ∧ a < hi) := by
  have hlt := get_lt wf hl
  generalize hρ0 : upd (upd (upd noEn 16 (some (.loc l))) 14 (some (.int lo))) 15 (some (.int hi)) = ρ₀
  have g16 : ρ₀ 16 = some (.loc l) := by rw [← hρ0]; rfl
  have g14 : ρ₀ 14 = some (.int lo) := by rw [← hρ0]; rfl
  have g15 : ρ₀ 15 = some (.int hi) := by rw [← hρ0]; rfl
  generalize hσ1 : σ.alloc (.list []) = σ₁
  have wf₁ : WfS σ₁ := by rw [← hσ1]; exact wf_alloc wf
  have fr₁ : Fr [] σ σ₁ := by rw [← hσ1]; exact fr_alloc
  have nx₁ : σ₁.next = σ.next + 1 := by rw [← hσ1]; rfl
  have gf₁ : σ₁.get σ.next = some (.list (([] : List Sn).map sp)) := by rw [← hσ1, get_alloc, if_pos rfl]; rfl
  have gl₁ : σ₁.get l = some (.list (S.map sp)) := by rw [← hσ1, get_alloc, if_neg (by lia)]; exact hl
  let ρ₁ := upd ρ₀ 3 (some (.loc σ.next))
  have s1 : ex (n + 14) (.set 3 (.list [])) ρ₀ σ = some (.next, ρ₁, σ₁) := by
    refine ex_set ?_
    simp [ev, evs, newL, lim, hσ1]
  let J : List Sn → En → St → Prop := fun rest ρ τ => ρ 3 = some (.loc σ.next) ∧ ρ 14 = some (.int lo) ∧ ρ 15 = some (.int hi) ∧ ρ 16 = some (.loc l) ∧ WfS τ ∧ Fr [σ.next] σ₁ τ ∧ τ.next = σ₁.next ∧
    ∃ R F, S = R ++ rest ∧ τ.get σ.next = some (.list (F.map sp)) ∧ F.length ≤ 2 * R.length ∧ (lo < hi → NrmS F ∧ (∀ p ∈ F, ∃ s ∈ R, p.2 ≤ s.2) ∧ ∀ a, Mem F a ↔ Mem R a ∧ ¬ (lo ≤ a ∧ a < hi))
  have hstep : ∀ (x : Sn) (rest : List Sn) (ρ : En) (τ : St), J (x :: rest) ρ τ → ∃ ρ₁ ρ₂ τ₂, bindT (.many [18, 19]) (sp x) ρ = some ρ₁ ∧ exs (ex (n + 13)) csBody ρ₁ τ = some (.next, ρ₂, τ₂) ∧ chk (some l) σ₁ τ₂ = true ∧ J rest ρ₂ τ₂ := by
    rintro x rest ρ τ ⟨h3, h14, h15, h16, wft, frt, nxt, R, F, hR, hgf, hFl, hF⟩
    have hlen : R.length + (rest.length + 1) = S.length := by rw [hR]; simp
    refine el_EAAA (cs_turn (n + 1) (ρ := upd (upd ρ 18 (some (.int x.1))) 19 (some (.int x.2))) (s := x) (lo := lo) (hi := hi) (f := σ.next) h3 h14 h15 rfl rfl hgf (by lia)) fun τ₂ e gf' fr' nx' => ?_
    have frn : Fr [σ.next] σ₁ τ₂ := frt.trans fr'
    have hcl := cutP_len (lo := lo) (hi := hi) (s := x)
    refine ⟨_, _, τ₂, rfl, e, ?_, h3, h14, h15, h16, fr'.wf wft, frn, nx'.trans nxt, R ++ [x], _, by rw [hR]; simp, gf', by simp; lia, fun hlo => ?_⟩
    · simp only [chk, decide_eq_true_eq]
      exact frn.keep _ (by lia) (by simp; lia)
    · refine el_AA (hF hlo) fun f1 f2 f3 => ?_
      rw [hR] at hN
      refine el_AA (nrmS_append.mp hN) fun m1 m2 m3 => ?_
      refine ⟨nrmS_append.mpr ⟨f1, cutP_nrm hlo, fun p hp q hq => ?_⟩, fun p hp => ?_, fun a => ?_⟩
      · refine el_EA (f2 p hp) fun s hs hps => ?_
        have := m3 s hs x List.mem_cons_self
        have := cutP_in hq
        lia
      · rcases List.mem_append.mp hp with hp | hp
        · refine el_EA (f2 p hp) fun s hs hps => ?_
          exact ⟨s, List.mem_append.mpr (.inl hs), hps⟩
        · exact ⟨x, by simp, (cutP_in hp).2.1⟩
      · rw [mem_append', mem_append', mem_one, cutP_mem hlo, f3 a]
        constructor
        · rintro (⟨k, k'⟩ | ⟨k, k'⟩)
          · exact ⟨.inl k, k'⟩
          · exact ⟨.inr k, k'⟩
        · rintro ⟨k | k, k'⟩
          · exact .inl ⟨k, k'⟩
          · exact .inr ⟨k, k'⟩
  have hJ0 : J S ρ₁ σ₁ :=
    ⟨rfl, g14, g15, g16, wf₁, Fr.refl, rfl, [], [], by simp, gf₁, by simp, fun _ => ⟨.nil, by simp, fun a => by simp [mem_nil]⟩⟩
  refine el_EEAAAAA (forl_inv hstep _ hJ0) fun ρ' σ' e h3 h14 h15 h16 hq6 => ?_; refine el_AAAEEA hq6 fun wf' fr' nx' R F hR hq7 => ?_; clear hq6; refine el_AA hq7 fun hgf hFl hF => ?_; clear hq7
  have hRS : R = S := by rw [hR]; simp
  subst hRS
  have s3 : ex (n + 14) (.forT (.many [18, 19]) (.var 16) csBody) ρ₁ σ₁ = some (.next, ρ', σ') :=
    (ex_for (items := R.map sp) (wl := some l) (σ' := σ₁) (items_of (ev_var (x := 16) (ρ := ρ₁) g16) gl₁)).trans e
  have frO : Fr [] σ σ' := fr₁.fresh fr' (by simp)
  have hrun : ∀ {r : Nat} {τ : St}, ev (n + 13) ρ' (.ife (.cmp (.var 14) .lt (.var 15)) (.var 3) (.bif .list [.var 16])) σ' = some (.loc r, τ) → runF (n + 14) 7 [.loc l, .int lo, .int hi] σ = some (.loc r, τ) := by
    intro r τ he
    refine runF_ret (d := f7) (ρ := ρ₀) (ρ' := ρ') rfl (by rw [← hρ0]; rfl) ?_
    show exs (ex (n + 14)) [.set 3 (.list []), .forT (.many [18, 19]) (.var 16) csBody, .ret (.ife (.cmp (.var 14) .lt (.var 15)) (.var 3) (.bif .list [.var 16]))] ρ₀ σ = _
    rw [exs_next s1, exs_next s3]
    exact exs_ret (ex_ret he)
  have hcmp : ev (n + 12) ρ' (.cmp (.var 14) .lt (.var 15)) σ' = some (.bool (decide (lo < hi)), σ') := ev_cmp (ev_var h14) (ev_var h15) rfl
  by_cases hc : lo < hi
  · rw [decide_eq_true hc] at hcmp
    refine el_AA (hF hc) fun f1 f2 f3 => ?_
    exact ⟨σ.next, σ', F, hrun ((ev_ife_t hcmp).trans (ev_var h3)), ⟨hgf, frO, wf', Nat.le_refl _, by lia⟩, f1, f3⟩
  · rw [decide_eq_false hc] at hcmp
    have gl' : σ'.get l = some (.list (R.map sp)) := (frO.get hlt (by simp)).trans hl
    refine el_A (newL_out (xs := R.map sp) frO wf' (by simp; lia)) fun n1 O1 => ?_
    refine ⟨_, _, R, hrun ((ev_ife_f hcmp).trans ?_), O1, hN, fun a => ?_⟩
    · rw [ev]; simp [evs, ev_var h16, abif, gl', n1, AV.by, St.on, args, no, no2, int2]
    · constructor
      · intro k; exact ⟨k, by lia⟩
      · exact fun k => k.1

/-! has_span -/
noncomputable def hsBody : List Y := match f8.body with
  | [_, .forT _ _ b, _] => b
  | _ => []
noncomputable def hsIn (lo hi : Int) (s : Sn) : Bool := decide (s.1 ≤ lo) && decide (hi ≤ s.2)
theorem hs_loop (n : Nat) {l : Nat} {σ : St} {lo hi : Int} : ∀ (S : List Sn) {ρ : En}, ρ 14 = some (.int lo) → ρ 15 = some (.int hi) →
    ∃ ρ', forl (.many [18, 19]) (some l) σ (exs (ex (n + 12)) hsBody) (S.map sp) ρ σ = some (if S.any (hsIn lo hi) then .ret (.bool true) else .next, ρ', σ)
  | [], ρ, _, _ => ⟨ρ, rfl⟩
  | s :: S, ρ, h14, h15 => by
    generalize hρ : upd (upd ρ 18 (some (.int s.1))) 19 (some (.int s.2)) = ρ₁
    have g14 : ρ₁ 14 = some (.int lo) := by rw [← hρ]; exact h14
    have g15 : ρ₁ 15 = some (.int hi) := by rw [← hρ]; exact h15
    have g18 : ρ₁ 18 = some (.int s.1) := by rw [← hρ]; rfl
    have g19 : ρ₁ 19 = some (.int s.2) := by rw [← hρ]; rfl
    have hb : hsBody = [.ite (.and (.cmp (.var 18) .le (.var 14)) (.cmp (.var 15) .le (.var 19))) [.ret (.bool true)] []] := rfl
    have hbt : bindT (.many [18, 19]) (sp s) ρ = some ρ₁ := by rw [← hρ]; rfl
    have c1 : ev (n + 10) ρ₁ (.cmp (.var 18) .le (.var 14)) σ = some (.bool (decide (s.1 ≤ lo)), σ) := ev_cmp (ev_var g18) (ev_var g14) rfl
    have c2 : ev (n + 10) ρ₁ (.cmp (.var 15) .le (.var 19)) σ = some (.bool (decide (hi ≤ s.2)), σ) := ev_cmp (ev_var g15) (ev_var g19) rfl
    have hc : ev (n + 11) ρ₁ (.and (.cmp (.var 18) .le (.var 14)) (.cmp (.var 15) .le (.var 19))) σ = some (.bool (hsIn lo hi s), σ) := by
      unfold hsIn
      cases hd : decide (s.1 ≤ lo) with
      | false => rw [hd] at c1; exact ev_and_f c1
      | true => rw [hd] at c1; exact (ev_and_t c1).trans c2
    rw [List.map_cons]
    cases hh : hsIn lo hi s with
    | true =>
      rw [hh] at hc
      have e1 : exs (ex (n + 12)) hsBody ρ₁ σ = some (.ret (.bool true), ρ₁, σ) := by
        rw [hb]; exact exs_ret ((ex_ite_t hc).trans (exs_ret (ex_ret (by rw [ev]))))
      refine ⟨ρ₁, (forl_ret hbt e1).trans ?_⟩
      simp [hh]
    | false =>
      rw [hh] at hc
      have e1 : exs (ex (n + 12)) hsBody ρ₁ σ = some (.next, ρ₁, σ) := by
        rw [hb]; exact exs_one ((ex_ite_f hc).trans exs_nil)
      obtain ⟨ρ₂, e'⟩ := hs_loop n S g14 g15
      refine ⟨ρ₂, (forl_cons hbt e1 (by simp [chk])).trans ?_⟩
      rw [e', List.any_cons, hh, Bool.false_or]

theorem hs_pure {lo hi : Int} (hlo : lo < hi) : ∀ {S : List Sn}, NrmS S → (S.any (hsIn lo hi) = true ↔ ∀ a, lo ≤ a → a < hi → Mem S a)
  | [], _ => by
    simp only [List.any_nil, Bool.false_eq_true, false_iff]
    intro h
    exact mem_nil (h lo (Int.le_refl _) hlo)
  | s :: S, h => by
    refine el_AA (nrmS_cons.mp h) fun s1 s2 s3 => ?_
    rw [List.any_cons, Bool.or_eq_true, hs_pure hlo s3]
    unfold hsIn
    rw [Bool.and_eq_true, decide_eq_true_eq, decide_eq_true_eq]
    constructor
    · rintro (k | k) a h1 h2
      · exact mem_cons.mpr (.inl ⟨by omega, by omega⟩)
      · exact mem_cons.mpr (.inr (k a h1 h2))
    · intro k
      by_cases c : lo ≤ s.2
      · left
        have h1 : s.1 ≤ lo ∧ lo < s.2 := by
          rcases mem_cons.mp (k lo (Int.le_refl _) hlo) with k' | k'
          · exact k'
          · have := mem_after s2 k'; omega
        refine ⟨h1.1, ?_⟩
        rcases Int.lt_or_le s.2 hi with c2 | c2
        · exfalso
          rcases mem_cons.mp (k s.2 (by omega) c2) with k' | k'
          · omega
          · have := mem_after s2 k'; omega
        · exact c2
      · right
        intro a h1 h2
        rcases mem_cons.mp (k a h1 h2) with k' | k'
        · omega
        · exact k'

theorem run_has_span (n : Nat) {σ : St} {l : Nat} {S : List Sn} {lo hi : Int} (hl : σ.get l = some (.list (S.map sp))) (hN : NrmS S) :
    ∃ b, runF (n + 14) 8 [.loc l, .int lo, .int hi] σ = some (.bool b, σ) ∧ (b = true ↔ ∀ a, lo ≤ a → a < hi → Mem S a) := by
  generalize hρ0 : upd (upd (upd noEn 16 (some (.loc l))) 14 (some (.int lo))) 15 (some (.int hi)) = ρ₀
  have g16 : ρ₀ 16 = some (.loc l) := by rw [← hρ0]; rfl
  have g14 : ρ₀ 14 = some (.int lo) := by rw [← hρ0]; rfl
  have g15 : ρ₀ 15 = some (.int hi) := by rw [← hρ0]; rfl
  have e0 : ev (n + 13) ρ₀ (.cmp (.var 14) .ge (.var 15)) σ = some (.bool (decide (hi ≤ lo)), σ) := ev_cmp (ev_var g14) (ev_var g15) rfl
  by_cases hc : hi ≤ lo
  · rw [decide_eq_true hc] at e0
    refine ⟨true, runF_ret (d := f8) (ρ := ρ₀) (ρ' := ρ₀) rfl (by rw [← hρ0]; rfl) (exs_ret ((ex_ite_t e0).trans (exs_ret (ex_ret (by rw [ev]))))), ?_⟩
    simp only [true_iff]
    intro a h1 h2; lia
  · rw [decide_eq_false hc] at e0
    refine el_E (hs_loop (n + 1) (l := l) (σ := σ) S g14 g15) fun ρ' e => ?_
    refine ⟨S.any (hsIn lo hi), runF_ret (d := f8) (ρ := ρ₀) (ρ' := ρ') rfl (by rw [← hρ0]; rfl) ?_, hs_pure (by lia) hN⟩
    have s2 := (ex_for (tg := .many [18, 19]) (b := hsBody) (items_of (ev_var (n := n + 12) g16) hl)).trans e
    show exs (ex (n + 14)) [.ite (.cmp (.var 14) .ge (.var 15)) [.ret (.bool true)] [], .forT (.many [18, 19]) (.var 16) hsBody, .ret (.bool false)] ρ₀ σ = _
    rw [exs_next ((ex_ite_f e0).trans exs_nil)]
    cases ha : S.any (hsIn lo hi) with
    | true => rw [ha] at s2; exact exs_ret s2
    | false => rw [ha] at s2; rw [exs_next s2]; exact exs_ret (ex_ret (by rw [ev]))

/-! first_span, span_count -/
noncomputable def firstF (most : Int) : List Sn → AV
  | [] => .none
  | s :: _ => if most ≤ 0 then .none else .tup [.int s.1, .int (min s.2 (s.1 + most))]
theorem run_first (n : Nat) {σ : St} {l : Nat} {S : List Sn} {most : Int} (hl : σ.get l = some (.list (S.map sp))) : runF (n + 14) 9 [.loc l, .int most] σ = some (firstF most S, σ) := by
  generalize hρ0 : upd (upd noEn 16 (some (.loc l))) 20 (some (.int most)) = ρ₀
  have g16 : ρ₀ 16 = some (.loc l) := by rw [← hρ0]; rfl
  have g20 : ρ₀ 20 = some (.int most) := by rw [← hρ0]; rfl
  have hlen : ev (n + 11) ρ₀ (.bif .len [.var 16]) σ = some (.int S.length, σ) := by rw [ev]; simp [evs, ev_var g16, abif, hl, AV.by, St.on, args, no, no2, int2]
  have c1 : ev (n + 12) ρ₀ (.cmp (.bif .len [.var 16]) .eq (.int 0)) σ = some (.bool (decide (S = [])), σ) := by
    refine ev_cmp hlen (w := .int 0) (by rw [ev]) ?_
    cases S with
    | nil => simp [acmp, aeq, kinV, kin, AV.by, St.on, int2, no, eqB, eqN]
    | cons s S => simp [acmp, aeq, kinV, kin, AV.by, St.on, int2, no, eqB, eqN]; lia
  have c2 : ev (n + 12) ρ₀ (.cmp (.var 20) .le (.int 0)) σ = some (.bool (decide (most ≤ 0)), σ) := ev_cmp (ev_var g20) (w := .int 0) (by rw [ev]) rfl
  have hrun : ∀ {v : AV} {ρ' : En}, exs (ex (n + 14)) [.ite (.or (.cmp (.bif .len [.var 16]) .eq (.int 0)) (.cmp (.var 20) .le (.int 0))) [.ret (.none)] [],
    .setT [14, 15] (.idx (.var 16) (.int 0)),
    .ret (.tup [.var 14, .bif .min [.var 15, .bin .add (.var 14) (.var 20)]])] ρ₀ σ = some (.ret v, ρ', σ) → runF (n + 14) 9 [.loc l, .int most] σ = some (v, σ) :=
    fun {v ρ'} h => runF_ret (d := f9) (ρ := ρ₀) (ρ' := ρ') rfl (by rw [← hρ0]; rfl) h
  cases S with
  | nil =>
    have c1' : ev (n + 12) ρ₀ (.cmp (.bif .len [.var 16]) .eq (.int 0)) σ = some (.bool true, σ) := c1
    exact hrun (exs_ret ((ex_ite_t (ev_or_t c1')).trans (exs_ret (ex_ret (by rw [ev]; rfl)))))
  | cons s S =>
    have c1' : ev (n + 12) ρ₀ (.cmp (.bif .len [.var 16]) .eq (.int 0)) σ = some (.bool false, σ) := by simpa using c1
    by_cases hm : most ≤ 0
    · rw [decide_eq_true hm] at c2
      have : firstF most (s :: S) = .none := if_pos hm
      rw [this]
      exact hrun (exs_ret ((ex_ite_t ((ev_or_f c1').trans c2)).trans (exs_ret (ex_ret (by rw [ev])))))
    · rw [decide_eq_false hm] at c2
      have : firstF most (s :: S) = .tup [.int s.1, .int (min s.2 (s.1 + most))] := if_neg hm
      rw [this]
      have e2 : ex (n + 14) (.setT [14, 15] (.idx (.var 16) (.int 0))) ρ₀ σ = some (.next, upd (upd ρ₀ 14 (some (.int s.1))) 15 (some (.int s.2)), σ) := by
        refine ex_setT (v := sp s) ?_ rfl
        simp [ev, aidx, g16, hl, AV.by, St.on, no]
      refine hrun ((exs_next ((ex_ite_f ((ev_or_f c1').trans c2)).trans exs_nil)).trans ((exs_next e2).trans (exs_ret (ex_ret (ev_tup2 (ev_var rfl) (ev_min (x := s.2) (σ₁ := σ) (ev_var rfl) ((ev_bin (v := .int s.1) (σ₁ := σ) (ev_var rfl) (w := .int most) (σ₂ := σ) (ev_var (x := 20) (ρ := upd (upd ρ₀ 14 (some (.int s.1))) 15 (some (.int s.2))) g20)).trans rfl)))))))

theorem intsOf_map : ∀ (l : List Int), intsOf (l.map .int) = some l
  | [] => rfl
  | i :: l => by rw [List.map_cons, intsOf, intsOf_map l]; rfl

noncomputable def widV : AV → AV
  | .tup [.int a, .int b] => .int (b - a)
  | v => v
theorem run_count (n : Nat) {σ : St} {l : Nat} {S : List Sn} (wf : WfS σ) (hl : σ.get l = some (.list (S.map sp))) (hS : S.length < 1000) : ∃ σ', runF (n + 14) 10 [.loc l] σ = some (.int (wid S), σ') ∧ Fr [] σ σ' ∧ WfS σ' := by
  refine el_A (newL_out (σ := σ) (xs := (S.map fun p => p.2 - p.1).map .int) Fr.refl wf (by simp; lia)) fun n1 O1 => ?_
  refine ⟨_, runF_ret (d := f10) (ρ := upd noEn 16 (some (.loc l))) (ρ' := upd noEn 16 (some (.loc l))) rfl rfl (exs_ret (ex_ret ?_)), O1.fr, O1.wf⟩
  have hs : itemsOf (ev (n + 11) (upd noEn 16 (some (.loc l)))) (.var 16) σ = some (S.map sp, some l, σ) := items_of (ev_var rfl) hl
  have hc := compl_filter (tg := .many [14, 15]) (w := some l) (σ₀ := σ) (σ := σ) (c := tsto (ev (n + 11)) none) (el := fun ρ' => ev (n + 11) ρ' (.bin .sub (.var 15) (.var 14))) (J := fun _ => True) (p := fun _ => true) (g := widV) (by simp [chk]) (S.map sp) (ρ := restr [] (upd noEn 16 (some (.loc l)))) (fun v hv ρ _ => by
    refine el_EA (List.mem_map.mp hv) fun q _ hq8 => ?_; subst hq8
    refine ⟨upd (upd ρ 14 (some (.int q.1))) 15 (some (.int q.2)), rfl, trivial, rfl, fun _ => ?_⟩
    simp [ev, abin, updD, widV, sp, AV.by, St.on, int2, no]) trivial
  rw [filter_true, List.map_map] at hc
  have hm : (S.map (widV ∘ sp)) = (S.map fun p => p.2 - p.1).map .int := by rw [List.map_map]; rfl
  rw [hm] at hc
  have e := (ev_comp hs hc).trans n1
  rw [ev]
  simp only [evs, e, Option.bind_some, abif, O1.get, intsOf_map, Option.map_some, AV.by, St.on, args, no, no2, int2]
  rfl

/-! without_spans -/
noncomputable def wsBody : List Y := match f11.body with
  | [_, .forT _ _ b, _] => b
  | _ => []
theorem run_without (n : Nat) {σ : St} {l m : Nat} {S T : List Sn} (wf : WfS σ) (hl : σ.get l = some (.list (S.map sp))) (hm : σ.get m = some (.list (T.map sp))) (hN : NrmS S) {x y : Int} (hxy : x ≤ y) (hy : y - x < 300) (hin : ∀ a, Mem S a → x ≤ a ∧ a < y) :
    ∃ r σ' S', runF (n + 18) 11 [.loc l, .loc m] σ = some (.loc r, σ') ∧ Out σ r (S'.map sp) σ' ∧ NrmS S' ∧ ∀ a, Mem S' a ↔ Mem S a ∧ ∀ t ∈ T, ¬ (t.1 ≤ a ∧ a < t.2) := by
  have hlt := get_lt wf hl
  have hmt := get_lt wf hm
  have hSl := nrmS_len hN hxy hin
  generalize hρ0 : upd (upd noEn 16 (some (.loc l))) 21 (some (.loc m)) = ρ₀
  have g16 : ρ₀ 16 = some (.loc l) := by rw [← hρ0]; rfl
  have g21 : ρ₀ 21 = some (.loc m) := by rw [← hρ0]; rfl
  refine el_A (newL_out (σ := σ) (xs := S.map sp) Fr.refl wf (by simp; lia)) fun n1 O1 => ?_
  generalize hσ1 : σ.alloc (.list (S.map sp)) = σ₁ at n1 O1
  have gm₁ : σ₁.get m = some (.list (T.map sp)) := (O1.fr.get hmt (by simp)).trans hm
  let ρ₁ := upd ρ₀ 3 (some (.loc σ.next))
  have s1 : ex (n + 18) (.set 3 (.bif .list [.var 16])) ρ₀ σ = some (.next, ρ₁, σ₁) := by
    refine ex_set ?_
    rw [ev]; simp [evs, ev_var g16, abif, hl, n1, AV.by, St.on, args, no, no2, int2]
  let J : List Sn → En → St → Prop := fun rest ρ τ => ∃ R f S', T = R ++ rest ∧ ρ 3 = some (.loc f) ∧ WfS τ ∧ Fr [] σ τ ∧ Fr [] σ₁ τ ∧ σ.next ≤ f ∧ f < τ.next ∧ τ.get f = some (.list (S'.map sp)) ∧ NrmS S' ∧ ∀ a, Mem S' a ↔ Mem S a ∧ ∀ t ∈ R, ¬ (t.1 ≤ a ∧ a < t.2)
  have hb : wsBody = [.set 3 (.call 7 [.var 3, .var 14, .var 15])] := rfl
  have hstep : ∀ (x : Sn) (rest : List Sn) (ρ : En) (τ : St), J (x :: rest) ρ τ → ∃ ρ₁ ρ₂ τ₂, bindT (.many [14, 15]) (sp x) ρ = some ρ₁ ∧ exs (ex (n + 17)) wsBody ρ₁ τ = some (.next, ρ₂, τ₂) ∧ chk (some m) σ₁ τ₂ = true ∧ J rest ρ₂ τ₂ := by
    rintro z rest ρ τ ⟨R, f, S', hR, h3, wft, frt, fr1t, hfn, hft, hgf, hN', hmem⟩
    have hl' := nrmS_len hN' hxy fun a k => hin a ((hmem a).mp k).1
    refine el_EEEAAA (run_cut_span (n + 1) (lo := z.1) (hi := z.2) wft hgf hN' (by lia)) fun r τ₂ S'' e O hN'' hmem' => ?_
    generalize hρ1 : upd (upd ρ 14 (some (.int z.1))) 15 (some (.int z.2)) = ρ₁
    have k3 : ρ₁ 3 = some (.loc f) := by rw [← hρ1]; exact h3
    have k14 : ρ₁ 14 = some (.int z.1) := by rw [← hρ1]; rfl
    have k15 : ρ₁ 15 = some (.int z.2) := by rw [← hρ1]; rfl
    refine ⟨ρ₁, upd ρ₁ 3 (some (.loc r)), τ₂, by rw [← hρ1]; rfl, ?_, ?_, R ++ [z], r, S'', by rw [hR]; simp, rfl, O.wf, frt.trans O.fr, fr1t.trans O.fr, by have := O.new; have := frt.le; lia, O.lt, O.get, hN'', fun a => ?_⟩
    · rw [hb]
      refine exs_one (ex_set ?_)
      rw [ev_call]
      simp only [evs, ev_var (n := n + 14) k3, ev_var (n := n + 14) k14, ev_var (n := n + 14) k15, Option.bind_some]
      exact e
    · simp only [chk, decide_eq_true_eq]
      exact (fr1t.trans O.fr).keep _ (by have := O1.fr.le; lia) (by simp)
    · rw [hmem' a, hmem a]
      simp only [List.mem_append, List.mem_singleton]
      constructor
      · rintro ⟨⟨k1, k2⟩, k3⟩
        refine ⟨k1, fun t ht => ?_⟩
        rcases ht with ht | rfl
        · exact k2 t ht
        · exact k3
      · rintro ⟨k1, k2⟩
        exact ⟨⟨k1, fun t ht => k2 t (.inl ht)⟩, k2 z (.inr rfl)⟩
  have hJ0 : J T ρ₁ σ₁ := ⟨[], σ.next, S, by simp, rfl, O1.wf, O1.fr, Fr.refl, Nat.le_refl _, O1.lt, O1.get, hN, fun a => by simp⟩
  refine el_EEAEEEA (forl_inv hstep _ hJ0) fun ρ' σ' e R f S' hR hq9 => ?_; refine el_AAAAAA hq9 fun h3 wf' fr' fr1' hfn hft hq10 => ?_; clear hq9; refine el_AA hq10 fun hgf hN' hmem => ?_; clear hq10
  have hRT : R = T := by rw [hR]; simp
  subst hRT
  have s3 : ex (n + 18) (.forT (.many [14, 15]) (.var 21) wsBody) ρ₁ σ₁ = some (.next, ρ', σ') :=
    (ex_for (items := R.map sp) (wl := some m) (σ' := σ₁) (items_of (ev_var (x := 21) (ρ := ρ₁) g21) gm₁)).trans e
  refine ⟨f, σ', S', runF_ret (d := f11) (ρ := ρ₀) (ρ' := ρ') rfl (by rw [← hρ0]; rfl) ?_, ⟨hgf, fr', wf', hfn, hft⟩, hN', hmem⟩
  show exs (ex (n + 18)) [.set 3 (.bif .list [.var 16]), .forT (.many [14, 15]) (.var 21) wsBody, .ret (.var 3)] ρ₀ σ = _
  rw [exs_next s1, exs_next s3]
  exact exs_ret (ex_ret (ev_var h3))
end Mine

/-! LawV -/
namespace Mine

/-! law_box -/
theorem run_box (n : Nat) {σ : St} {s : Nat} {l : List Int} (wf : WfS σ) (hs : σ.get s = some (.list (l.map .int))) :
    ∃ b q σ' seed xs, runF (n + 14) 12 [.loc s, .int 71] σ = some (.loc b, σ') ∧ Box σ' b q seed xs ∧ WfS σ' ∧ Fr [] σ σ' ∧ σ.next ≤ b ∧ σ.next ≤ q := by
  have hlt := get_lt wf hs
  generalize hρ0 : upd (upd noEn 22 (some (.loc s))) 23 (some (.int 71)) = ρ₀
  have g22 : ρ₀ 22 = some (.loc s) := by rw [← hρ0]; rfl
  have g23 : ρ₀ 23 = some (.int 71) := by rw [← hρ0]; rfl
  have hcut : ∀ (m : Nat) {ρ : En} {τ : St}, ρ 22 = some (.loc s) → τ.get s = some (.list (l.map .int)) → ev (m + 3) ρ (.cut (.var 22) none (some (.int 40))) τ = some (.loc τ.next, τ.alloc (.list ((l.take 40).map .int))) := by
    intro m ρ τ h hg
    simp [ev, evo, acut, bound, h, hg, List.map_take, AV.by, St.on, no]
  have e0 := hcut (n + 10) g22 hs
  generalize hσ1 : σ.alloc (.list ((l.take 40).map .int)) = σ₁ at e0
  have wf₁ : WfS σ₁ := by rw [← hσ1]; exact wf_alloc wf
  have fr₁ : Fr [] σ σ₁ := by rw [← hσ1]; exact fr_alloc
  have gc₁ : σ₁.get σ.next = some (.list ((l.take 40).map .int)) := by rw [← hσ1, get_alloc, if_pos rfl]
  have gs₁ : σ₁.get s = some (.list (l.map .int)) := (fr₁.get hlt (by simp)).trans hs
  let body : List Y := [.set 23 (.bin .mod (.bin .add (.bin .mul (.var 23) (.int 31)) (.var 18)) (.int 2147483647))]
  let J : List Int → En → St → Prop := fun rest ρ τ => τ = σ₁ ∧ ρ 22 = some (.loc s) ∧ ∃ z : Int, ρ 23 = some (.int z) ∧ 0 ≤ z ∧ z < 2147483647
  have hstep : ∀ (x : Int) (rest : List Int) (ρ : En) (τ : St), J (x :: rest) ρ τ → ∃ ρ₁ ρ₂ τ₂, bindT (.one 18) (.int x) ρ = some ρ₁ ∧ exs (ex (n + 13)) body ρ₁ τ = some (.next, ρ₂, τ₂) ∧ chk (some σ.next) σ₁ τ₂ = true ∧ J rest ρ₂ τ₂ := by
    rintro x rest ρ τ ⟨rfl, h22, z, h23, z0, z1⟩
    refine ⟨_, upd (upd ρ 18 (some (.int x))) 23 (some (.int ((z * 31 + x) % 2147483647))), τ, rfl, exs_one (ex_set ?_), by simp [chk], rfl, h22, _, by simp [updD]; rfl, Int.emod_nonneg _ (by omega), Int.emod_lt_of_pos _ (by omega)⟩
    have hz : z.natAbs < 1099511627776 := by omega
    simp [ev, abin, updD, h23, hz, AV.by, St.on, int2, no]
  refine el_EEAAAE (forl_inv hstep (l.take 40) (ρ := ρ₀) (σ := σ₁) ⟨rfl, g22, 71, g23, by lia, by lia⟩) fun ρ' σ' e hq1 h22 z hq2 => ?_; refine el_AA hq2 fun h23 z0 z1 => ?_; clear hq2; subst hq1
  have e1 := hcut (n + 8) h22 gs₁
  generalize hσ2 : σ'.alloc (.list ((l.take 40).map .int)) = σ₂ at e1
  have wf₂ : WfS σ₂ := by rw [← hσ2]; exact wf_alloc wf₁
  have fr₂ : Fr [] σ σ₂ := by rw [← hσ2]; exact fr₁.trans fr_alloc
  have gc₂ : σ₂.get σ'.next = some (.list ((l.take 40).map .int)) := by rw [← hσ2, get_alloc, if_pos rfl]
  have hll : (l.take 40).length ≤ 40 := by simp; omega
  refine el_A (newL_out (xs := (l.take 40).map .int) fr₂ wf₂ (by simp; omega)) fun n3 O3 => ?_
  generalize hσ3 : σ₂.alloc (.list ((l.take 40).map .int)) = σ₃ at n3 O3
  refine el_A (newL_out (xs := [.loc σ₂.next, .int z]) O3.fr O3.wf (by simp)) fun n4 O4 => ?_
  have hlt3 := O3.lt
  refine ⟨_, σ₂.next, _, z, l.take 40, runF_ret (d := f12) (ρ := ρ₀) (ρ' := ρ') rfl (by rw [← hρ0]; rfl) ?_, ⟨O4.get, ?_, by omega, z0, z1, by lia⟩, O4.wf, O4.fr, O4.new, fr₂.le⟩
  · show exs (ex (n + 14)) [.forT (.one 18) (.cut (.var 22) none (some (.int 40))) body, .ret (.list [.bif .list [.cut (.var 22) none (some (.int 40))], .var 23])] ρ₀ σ = _
    rw [exs_next ((ex_for (tg := .one 18) (b := body) (items_of e0 gc₁)).trans e)]
    refine exs_ret (ex_ret ?_)
    have e2 : ev (n + 12) ρ' (.bif .list [.cut (.var 22) none (some (.int 40))]) σ' = some (.loc σ₂.next, σ₃) := by
      rw [ev]; simp only [evs, e1, Option.bind_some, abif, gc₂, n3, AV.by, St.on, args, no, no2, int2]
    rw [ev]; simp only [evs, e2, Option.bind_some, ev_var (n := n + 11) h23, n4]
  · rw [get_alloc, if_neg (by omega)]; exact O3.get

/-! what a check's frame holds -/
structure PW (κ σ : St) (b q k l : Nat) (D : List (Int × AV)) (L : List AV) : Prop where
  wf : WfS σ
  box : ∃ seed xs, Box σ b q seed xs
  kg : σ.get k = some (.dict D)
  lg : σ.get l = some (.list L)
  lb : l ≠ b
  lq : l ≠ q
  fr : Fr [b, q, k] κ σ

section
variable {κ σ σ' : St} {b q k l : Nat} {D : List (Int × AV)} {L : List AV}
theorem PW.bl (W : PW κ σ b q k l D L) : b < σ.next := by refine el_EE W.box fun s xs B => ?_; exact get_lt W.wf B.bx
theorem PW.ql (W : PW κ σ b q k l D L) : q < σ.next := by refine el_EE W.box fun s xs B => ?_; exact get_lt W.wf B.qx
theorem PW.kl (W : PW κ σ b q k l D L) : k < σ.next := get_lt W.wf W.kg
theorem PW.ll (W : PW κ σ b q k l D L) : l < σ.next := get_lt W.wf W.lg
theorem PW.kb (W : PW κ σ b q k l D L) : k ≠ b := by
  refine el_EE W.box fun s xs B => ?_
  rintro rfl
  have := W.kg.symm.trans B.bx; cases this
theorem PW.kq (W : PW κ σ b q k l D L) : k ≠ q := by
  refine el_EE W.box fun s xs B => ?_
  rintro rfl
  have := W.kg.symm.trans B.qx; cases this
theorem PW.kll (W : PW κ σ b q k l D L) : k ≠ l := by
  rintro rfl
  have := W.kg.symm.trans W.lg; cases this
theorem Box.keep {seed : Int} {xs : List Int} (B : Box σ b q seed xs) (e1 : σ'.get b = σ.get b) (e2 : σ'.get q = σ.get q) : Box σ' b q seed xs := ⟨e1.trans B.bx, e2.trans B.qx, B.ne, B.lo, B.hi, B.sm⟩
theorem PW.fresh (W : PW κ σ b q k l D L) (f : Fr [] σ σ') : PW κ σ' b q k l D L := by
  refine el_EE W.box fun s xs B => ?_
  exact ⟨f.wf W.wf, ⟨s, xs, B.keep (f.get W.bl (by simp)) (f.get W.ql (by simp))⟩, (f.get W.kl (by simp)).trans W.kg, (f.get W.ll (by simp)).trans W.lg, W.lb, W.lq, W.fr.trans (f.mono (by simp))⟩
theorem PW.turn (W : PW κ σ b q k l D L) (f : Fr [b, q] σ σ') {seed : Int} {xs : List Int} (B : Box σ' b q seed xs) : PW κ σ' b q k l D L := by
  refine ⟨f.wf W.wf, ⟨seed, xs, B⟩, (f.get W.kl ?_).trans W.kg, (f.get W.ll ?_).trans W.lg, W.lb, W.lq, W.fr.trans (f.mono fun x _ hx => by simp at hx ⊢; lia)⟩
  · have := W.kb; have := W.kq; simp_all
  · have := W.lb; have := W.lq; simp_all
/-- another list in l's place -/
theorem PW.other (W : PW κ σ b q k l D L) {l' : Nat} {L' : List AV} (h : σ.get l' = some (.list L')) (h1 : l' ≠ b) (h2 : l' ≠ q) : PW κ σ b q k l' D L' := ⟨W.wf, W.box, W.kg, h, h1, h2, W.fr⟩
theorem PW.write (W : PW κ σ b q k l D L) {D' : List (Int × AV)} : PW κ (σ.w k (.dict D')) b q k l D' L := by
  refine el_EE W.box fun s xs B => ?_
  refine ⟨wf_w W.wf W.kl, ⟨s, xs, B.keep ?_ ?_⟩, by rw [get_w, if_pos rfl], ?_, W.lb, W.lq, W.fr.trans (fr_w W.kg (by simp))⟩
  · rw [get_w, if_neg (Ne.symm W.kb)]
  · rw [get_w, if_neg (Ne.symm W.kq)]
  · rw [get_w, if_neg (Ne.symm W.kll)]; exact W.lg

theorem ev_take (n : Nat) {w : Int} {ρ : En} (W : PW κ σ b q k l D L) (h : ρ 24 = some (.loc b)) (hw : 0 < w) :
    ∃ r σ', ev (n + 13) ρ (.call 13 [.var 24, .int w]) σ = some (.int r, σ') ∧ 0 ≤ r ∧ r < w ∧ PW κ σ' b q k l D L ∧ Fr [b, q] σ σ' ∧ σ'.next = σ.next := by
  refine el_EE W.box fun s xs B => ?_
  refine el_EEEEAAA (box_take n B hw) fun r σ' s' xs' e r0 r1 hq3 => ?_; refine el_AA hq3 fun B' f nx => ?_; clear hq3
  refine ⟨r, σ', ?_, r0, r1, W.turn f B', f, nx⟩
  rw [ev_call]
  simp only [evs, ev_var (n := n + 11) h, Option.bind_some]
  rw [ev]
  exact e
end

/-! more of the evaluator -/
theorem aeq_lists {σ : St} {x y : Nat} {xs ys : List AV} (hx : σ.get x = some (.list xs)) (hy : σ.get y = some (.list ys)) (hk : xs = ys → kinL xs ys = true) (hk' : xs.length = ys.length → kinL xs ys = true) : aeq σ (.loc x) (.loc y) = some (decide (xs = ys)) := by
  simp only [aeq, hx, hy, AV.by, St.on, no, eqB, eqN]
  by_cases h : xs.length = ys.length
  · rw [if_neg (by simpa using h), if_pos (hk' h)]
  · rw [if_pos h]
    have : xs ≠ ys := fun e => h (by rw [e])
    simp [this]
theorem kin_sp : ∀ (S T : List Sn), S.length = T.length → kinL (S.map sp) (T.map sp) = true
  | [], [], _ => rfl
  | [], _ :: _, h => by cases h
  | _ :: _, [], h => by cases h
  | s :: S, t :: T, h => by
    have ih := kin_sp S T (by simpa using h)
    simp [kinL, kinV, kinT, kin, sp, ih]
theorem kin_pc : ∀ (S T : List Pc), S.length = T.length → kinL (S.map pc) (T.map pc) = true
  | [], [], _ => rfl
  | [], _ :: _, h => by cases h
  | _ :: _, [], h => by cases h
  | s :: S, t :: T, h => by
    have ih := kin_pc S T (by simpa using h)
    simp [kinL, kinV, kinT, kin, pc, ih]
theorem aeq_pc {σ : St} {x y : Nat} {S : List Pc} (hx : σ.get x = some (.list (S.map pc))) (hy : σ.get y = some (.list (S.map pc))) : aeq σ (.loc x) (.loc y) = some true := by
  rw [aeq_lists hx hy (fun _ => kin_pc _ _ rfl) (fun _ => kin_pc _ _ rfl)]; simp
theorem aeq_sp {σ : St} {x y : Nat} {S : List Sn} (hx : σ.get x = some (.list (S.map sp))) (hy : σ.get y = some (.list (S.map sp))) : aeq σ (.loc x) (.loc y) = some true := by
  rw [aeq_lists hx hy (fun _ => kin_sp _ _ rfl) (fun _ => kin_sp _ _ rfl)]; simp
theorem aeq_empty {σ : St} {x y : Nat} {xs : List AV} (hx : σ.get x = some (.list xs)) (hy : σ.get y = some (.list [])) : aeq σ (.loc x) (.loc y) = some (decide (xs = [])) := by
  cases xs with
  | nil => simp [aeq, hx, hy, kinL, AV.by, St.on, no, eqB, eqN]
  | cons x xs => simp [aeq, hx, hy, AV.by, St.on, no, eqB, eqN]

theorem ev_newL {n : Nat} {ρ : En} {σ : St} (wf : WfS σ) : ∃ σ', ev (n + 1) ρ (.list []) σ = some (.loc σ.next, σ') ∧ Out σ σ.next [] σ' := by
  refine el_A (newL_out (xs := []) Fr.refl wf (by simp)) fun n1 O1 => ?_
  exact ⟨_, by rw [ev]; simp only [evs, Option.bind_some]; exact n1, O1⟩
theorem ev_call1 {n f x : Nat} {ρ : En} {σ : St} {v : AV} (h : ρ x = some v) : ev (n + 2) ρ (.call f [.var x]) σ = runF (n + 1) f [v] σ := by
  rw [ev_call]; simp only [evs, ev_var (n := n) h, Option.bind_some]
theorem ev_call2 {n f x y : Nat} {ρ : En} {σ : St} {v w : AV} (h : ρ x = some v) (h' : ρ y = some w) : ev (n + 2) ρ (.call f [.var x, .var y]) σ = runF (n + 1) f [v, w] σ := by
  rw [ev_call]; simp only [evs, ev_var (n := n) h, ev_var (n := n) h', Option.bind_some]
theorem ev_call3 {n f x y z : Nat} {ρ : En} {σ : St} {v w u : AV} (h : ρ x = some v) (h' : ρ y = some w) (h'' : ρ z = some u) : ev (n + 2) ρ (.call f [.var x, .var y, .var z]) σ = runF (n + 1) f [v, w, u] σ := by
  rw [ev_call]; simp only [evs, ev_var (n := n) h, ev_var (n := n) h', ev_var (n := n) h'', Option.bind_some]
theorem ev_add {n : Nat} {e₁ e₂ : X} {ρ : En} {σ σ₁ σ₂ : St} {x y : Int} (h : ev n ρ e₁ σ = some (.int x, σ₁)) (h' : ev n ρ e₂ σ₁ = some (.int y, σ₂)) : ev (n + 1) ρ (.bin .add e₁ e₂) σ = some (.int (x + y), σ₂) := (ev_bin h h').trans rfl
theorem ev_int {n : Nat} {ρ : En} {σ : St} {i : Int} : ev (n + 1) ρ (.int i) σ = some (.int i, σ) := by rw [ev]
theorem ev_bif1 {n : Nat} {f : Bf} {e : X} {ρ : En} {σ σ₁ : St} {v : AV} (h : ev n ρ e σ = some (v, σ₁)) : ev (n + 1) ρ (.bif f [e]) σ = abif f [v] σ₁ := by
  rw [ev]; simp only [evs, h, Option.bind_some]
theorem ev_get {n x k : Nat} {e : X} {ρ : En} {σ : St} {D : List (Int × AV)} {a : Int} (h : ρ x = some (.loc k)) (hk : σ.get k = some (.dict D)) (he : ev (n + 1) ρ e σ = some (.int a, σ)) : ev (n + 2) ρ (.met .get (.var x) [e]) σ = some ((dget D a).getD .none, σ) := by
  rw [ev, ev_var h]
  simp [kindOf, hk, AD.isL, evs, he, amet, AV.by, St.on, args, no, no2, popHead]
theorem ev_get2 {n x k : Nat} {e e' : X} {ρ : En} {σ : St} {D : List (Int × AV)} {a : Int} {v : AV} (h : ρ x = some (.loc k)) (hk : σ.get k = some (.dict D)) (he : ev (n + 1) ρ e σ = some (.int a, σ)) (he' : ev (n + 1) ρ e' σ = some (v, σ)) :
    ev (n + 2) ρ (.met .get (.var x) [e, e']) σ = some ((dget D a).getD v, σ) := by
  rw [ev, ev_var h]
  simp [kindOf, hk, AD.isL, evs, he, he', amet, AV.by, St.on, args, no, no2, popHead]
theorem chk_none {σ₀ σ : St} : chk none σ₀ σ = true := rfl

/-- a comprehension that draws -/
theorem comp_take (n : Nat) {κ : St} {b q k l : Nat} {D : List (Int × AV)} {L : List AV} {σ₀ : St} : ∀ (items : List AV) {ρ : En} {σ : St}, PW κ σ b q k l D L → ρ 24 = some (.loc b) →
    ∃ (ys : List Int) (σ' : St), compl (.one 28) none σ₀ (tsto (ev (n + 14)) none) (fun ρ' => ev (n + 14) ρ' (.bin .add (.int 97) (.call 13 [.var 24, .int 4]))) items ρ σ = some (ys.map .int, σ') ∧ ys.length = items.length ∧ (∀ y ∈ ys, 97 ≤ y ∧ y < 101) ∧ PW κ σ' b q k l D L ∧ Fr [b, q] σ σ' ∧ σ'.next = σ.next
  | [], ρ, σ, W, h => ⟨[], σ, rfl, rfl, by simp, W, Fr.refl, rfl⟩
  | v :: items, ρ, σ, W, h => by
    have h' : upd ρ 28 (some v) 24 = some (.loc b) := h
    refine el_EEAAAAA (ev_take n (w := 4) W h' (by lia)) fun r σ₁ e r0 r1 W₁ f₁ nx₁ => ?_
    refine el_EEAAAAA (comp_take n (σ₀ := σ₀) items W₁ h') fun ys σ₂ e' hlen hys W₂ f₂ nx₂ => ?_
    refine ⟨(97 + r) :: ys, σ₂, ?_, by simp [hlen], ?_, W₂, f₁.trans f₂, nx₂.trans nx₁⟩
    · have e2 : ev (n + 14) (upd ρ 28 (some v)) (.bin .add (.int 97) (.call 13 [.var 24, .int 4])) σ = some (.int (97 + r), σ₁) := ev_add ev_int e
      have hb : bindT (.one 28) v ρ = some (upd ρ 28 (some v)) := rfl
      have ht : tsto (ev (n + 14)) none (upd ρ 28 (some v)) σ = some (true, σ) := rfl
      rw [compl, hb]
      simp only [Option.bind_some, ht, if_true, e2, chk_none, e', List.map_cons]
    · intro y hy
      rcases List.mem_cons.mp hy with rfl | hy
      · lia
      · exact hys y hy

theorem octs_some : ∀ {ys : List Int}, (∀ y ∈ ys, 0 ≤ y ∧ y < 256) → ∃ d, octs ys = some d ∧ d.length = ys.length
  | [], _ => ⟨[], rfl, rfl⟩
  | y :: ys, h => by
    refine el_EA (octs_some (ys := ys) fun z hz => h z (List.mem_cons_of_mem _ hz)) fun d e hl => ?_
    have h1 := h y List.mem_cons_self
    exact ⟨UInt8.ofNat y.toNat :: d, by rw [octs, if_pos h1, e]; rfl, by simp [hl]⟩
theorem octs_nat : ∀ (d : List UInt8), octs (d.map fun u => (u.toNat : Int)) = some d
  | [] => rfl
  | u :: d => by
    have h1 : (0 : Int) ≤ u.toNat ∧ (u.toNat : Int) < 256 := by have := u.toNat_lt; lia
    rw [List.map_cons, octs, if_pos h1, octs_nat d]
    have : UInt8.ofNat u.toNat = u := by simp
    simp [this]
theorem rangeL_length : ∀ (n : Nat) (a s : Int), (rangeL a s n).length = n
  | 0, _, _ => rfl
  | n + 1, a, s => by rw [rangeL, List.length_cons, rangeL_length n]

/-! enumerate -/
theorem enumL_map : ∀ (d : List UInt8) (i : Nat), enumL i d = (d.zipIdx i).map fun p => .tup [.int (p.2 : Int), .int p.1.toNat]
  | [], _ => rfl
  | u :: d, i => by rw [enumL, enumL_map d, List.zipIdx_cons, List.map_cons]

/-! the sum of a dict of pairs -/
theorem dput_new {D : List (Int × AV)} {a : Int} {v : AV} (h : a ∉ D.map (·.1)) : dput D a v = D ++ [(a, v)] := by
  unfold dput
  rw [if_neg]
  intro hh
  rw [List.any_eq_true] at hh
  refine el_EA hh fun x hx e => ?_; clear hh
  exact h (List.mem_map.mpr ⟨x, hx, by simpa using e⟩)
theorem dget_none {a : Int} : ∀ {D : List (Int × AV)}, dget D a = none ↔ a ∉ D.map (·.1)
  | [] => by simp [dget]
  | (k, v) :: D => by
    rw [dget_cons, List.map_cons, List.mem_cons, not_or, ← dget_none]
    split
    · rename_i h; subst h; simp
    · rename_i h
      constructor
      · intro e; exact ⟨fun h' => h h'.symm, e⟩
      · exact fun h => h.2
theorem fold_dput : ∀ (ps : List (Int × At)) (D : List (Int × AV)), ((D.map (·.1)) ++ ps.map (·.1)).Nodup → ps.foldl (fun d p => dput d p.1 (.a p.2)) D = D ++ ps.map fun p => (p.1, .a p.2)
  | [], D, _ => by simp
  | p :: ps, D, h => by
    rw [List.foldl_cons]
    have h1 : p.1 ∉ D.map (·.1) := by
      intro hm
      rw [List.nodup_append] at h
      exact h.2.2 _ hm p.1 (by simp) rfl
    rw [dput_new h1, fold_dput ps]
    · simp
    · simpa using h
theorem prsOf_map : ∀ (ps : List (Int × At)), prsOf (ps.map fun p => .tup [.int p.1, p.2]) = some ps
  | [] => rfl
  | p :: ps => by rw [List.map_cons, prsOf, prsOf_map ps]; rfl
end Mine

/-! LawW -/
namespace Mine

structure PInv (P : List Pc) (K : Kn) : Prop where
  nrm : Nrm P
  nod : (K.map (·.1)).Nodup
  has : ∀ a u, Has P a u ↔ (a, u) ∈ K
  rng : ∀ p ∈ K, 0 ≤ p.1 ∧ p.1 < 18

theorem PInv.tot {P : List Pc} {K : Kn} (I : PInv P K) : P.length ≤ tot P ∧ tot P ≤ 18 := by
  have := nrm_tot (lo := 0) (hi := 18) I.nrm (by lia) fun a u h => I.rng _ ((I.has a u).mp h)
  lia

/-! whether pieces agree -/
theorem slice_get {d : List UInt8} {x y i : Nat} : ((d.take y).drop x)[i]? = if x + i < y then d[x + i]? else none := by
  rw [List.getElem?_drop]
  split
  · rename_i h; rw [List.getElem?_take_of_lt h]
  · rename_i h; rw [List.getElem?_eq_none]; simp; lia

theorem slice_nat {d : List UInt8} {x n i : Nat} : ((d.take (x + n)).drop x)[i]? = if i < n then d[x + i]? else none := by
  rw [slice_get]
  by_cases h : i < n
  · rw [if_pos h, if_pos (Nat.add_lt_add_left h x)]
  · rw [if_neg h, if_neg fun k => h (Nat.lt_of_add_lt_add_left k)]
/-- what two pieces have in common, counted from either's start -/
theorem slices_iff {s o : Int} {e d : List UInt8} {x y n : Nat} (hxy : s + (x : Int) = o + y) (hx : x + n ≤ e.length) (hy : y + n ≤ d.length) (hn : ∀ a u v, AtP (o, d) a u → AtP (s, e) a v → ∃ i : Nat, i < n ∧ a = s + (x + i : Nat)) :
    (e.take (x + n)).drop x = (d.take (y + n)).drop y ↔ ∀ a u v, AtP (o, d) a u → AtP (s, e) a v → u = v := by
  have hb : ∀ i : Nat, s + ((x + i : Nat) : Int) = o + ((y + i : Nat) : Int) := fun i => by rw [Int.natCast_add, Int.natCast_add, ← Int.add_assoc, hxy, Int.add_assoc]
  constructor
  · intro h a u v k k'
    obtain ⟨i, hi, rfl⟩ := hn a u v k k'
    have e := congrArg (fun l => l[i]?) h
    rw [slice_nat, slice_nat, if_pos hi, if_pos hi, atP_nat.mp k'] at e
    rw [hb] at k
    rw [atP_nat.mp k] at e
    cases e; rfl
  · intro h
    apply List.ext_getElem?
    intro i
    rw [slice_nat, slice_nat]
    by_cases hi : i < n
    · rw [if_pos hi, if_pos hi]
      have h1 : x + i < e.length := Nat.lt_of_lt_of_le (Nat.add_lt_add_left hi x) hx
      have h2 : y + i < d.length := Nat.lt_of_lt_of_le (Nat.add_lt_add_left hi y) hy
      rw [List.getElem?_eq_getElem h1, List.getElem?_eq_getElem h2]
      exact congrArg some (h _ _ _ (by rw [hb]; exact atP_nat.mpr (List.getElem?_eq_getElem h2)) (atP_nat.mpr (List.getElem?_eq_getElem h1))).symm
    · rw [if_neg hi, if_neg hi]
theorem agree1_iff {o : Int} {d : List UInt8} {p : Pc} : agree1 o d p = true ↔ ∀ a u v, AtP (o, d) a u → AtP p a v → u = v := by
  obtain ⟨s, e⟩ := p
  unfold agree1
  dsimp only
  have l1 := Int.le_max_left s o
  have l2 := Int.le_max_right s o
  have l3 : ∀ a, s ≤ a → o ≤ a → max s o ≤ a := fun a h h' => Int.max_le.mpr ⟨h, h'⟩
  have g1 := Int.min_le_left (s + (e.length : Int)) (o + (d.length : Int))
  have g2 := Int.min_le_right (s + (e.length : Int)) (o + (d.length : Int))
  have g3 : ∀ a, a < s + (e.length : Int) → a < o + (d.length : Int) → a < min (s + (e.length : Int)) (o + (d.length : Int)) := fun a h h' => Int.lt_min.mpr ⟨h, h'⟩
  generalize max s o = lo at l1 l2 l3
  generalize min (s + (e.length : Int)) (o + (d.length : Int)) = hi at g1 g2 g3
  have inn : ∀ {a u v}, AtP (o, d) a u → AtP (s, e) a v → lo ≤ a ∧ a < hi := fun k k' => ⟨l3 _ k'.lo k.lo, g3 _ k'.hi k.hi⟩
  rw [Bool.not_eq_true', Bool.and_eq_false_iff, decide_eq_false_iff_not, Bool.not_eq_false', decide_eq_true_eq]
  by_cases hl : lo < hi
  · obtain ⟨x, hx⟩ := le_add l1
    obtain ⟨y, hy⟩ := le_add l2
    obtain ⟨n, rfl⟩ := le_add (Int.le_of_lt hl)
    have e1 : (lo - s).toNat = x := by rw [hx, tn]
    have e2 : (lo - o).toNat = y := by rw [hy, tn]
    have e3 : (lo + (n : Int) - s).toNat = x + n := by rw [hx, Int.add_assoc, ← Int.natCast_add, tn]
    have e4 : (lo + (n : Int) - o).toNat = y + n := by rw [hy, Int.add_assoc, ← Int.natCast_add, tn]
    rw [e1, e2, e3, e4]
    have := slices_iff (s := s) (o := o) (e := e) (d := d) (x := x) (y := y) (n := n) (hx.symm.trans hy) (by lia) (by lia) fun a u v k k' => by
      obtain ⟨i, rfl⟩ := le_add (inn k k').1
      exact ⟨i, by have := (inn k k').2; lia, by rw [hx, Int.natCast_add, Int.add_assoc]⟩
    rw [this]
    exact ⟨fun h => h.elim (fun h => absurd hl h) id, .inr⟩
  · exact ⟨fun _ a u v k k' => absurd (Int.lt_of_le_of_lt (inn k k').1 (inn k k').2) hl, fun _ => .inl hl⟩

theorem agrees_iff {o : Int} {d : List UInt8} {P : List Pc} {K : Kn} (h : ∀ a u, Has P a u ↔ (a, u) ∈ K) : P.all (agree1 o d) = true ↔ ∀ a u v, AtP (o, d) a u → (a, v) ∈ K → u = v := by
  rw [List.all_eq_true]
  constructor
  · intro k a u v hu hv
    refine el_EA ((h a v).mpr hv) fun p hp hv => ?_
    exact agree1_iff.mp (k p hp) a u v hu hv
  · intro k p hp
    exact agree1_iff.mpr fun a u v hu hv => k a u v hu ((h a v).mp ⟨p, hp, hv⟩)

noncomputable def diffP (K : Kn) (o : Int) : AV → Bool
  | .tup [.int i, .int u] => !decide ((dget (K.map kv) (o + i)).getD (.int u) = .int u)
  | _ => false

theorem diff_nil {K : Kn} {o : Int} {d : List UInt8} (hn : (K.map (·.1)).Nodup) : (enumL 0 d).filter (diffP K o) = [] ↔ ∀ a u v, AtP (o, d) a u → (a, v) ∈ K → u = v := by
  rw [enumL_map, List.filter_eq_nil_iff]
  constructor
  · intro h a u v k hv
    have hu := k.2
    dsimp only at hu
    have k1 := k.lo
    dsimp only at k1
    have hm : (u, (a - o).toNat) ∈ d.zipIdx := List.mem_zipIdx_iff_getElem?.mpr hu
    have := h _ (List.mem_map.mpr ⟨_, hm, rfl⟩)
    have e : o + ((a - o).toNat : Int) = a := by lia
    simp only [diffP, e, dget_kv, (kget_mem hn).mpr hv, Option.map_some, Option.getD_some, Bool.not_eq_true', decide_eq_false_iff_not, Decidable.not_not] at this
    have e2 : (v.toNat : Int) = u.toNat := by injection this with this; injection this
    have e3 : v.toNat = u.toNat := by lia
    exact (UInt8.toNat_inj.mp e3).symm
  · intro h x hx
    refine el_EA (List.mem_map.mp hx) fun hq1 hm hq2 => ?_; obtain ⟨u, j⟩ := hq1; subst hq2
    have hu : d[j]? = some u := List.mem_zipIdx_iff_getElem?.mp hm
    have hA : AtP (o, d) (o + j) u := ⟨by dsimp only; lia, by dsimp only; rw [show (o + (j : Int) - o).toNat = j from by lia]; exact hu⟩
    simp only [diffP, dget_kv, Bool.not_eq_true', decide_eq_false_iff_not, Decidable.not_not]
    cases hk : kget K (o + j) with
    | none => rfl
    | some v =>
      have := h _ _ _ hA ((kget_mem hn).mp hk)
      rw [this]; rfl

/-- the comprehension that looks for a difference -/
theorem comp_diff (n : Nat) {ρ : En} {σ : St} {k : Nat} {K : Kn} {o : Int} {d : List UInt8} (h1 : ρ 1 = some (.int o)) (h26 : ρ 26 = some (.loc k)) (h2 : ρ 2 = some (.bytes d)) (hk : σ.get k = some (.dict (K.map kv))) :
    ∃ ys, ev (n + 10) ρ (.comp (.int 1) (.many [12, 30]) (.enum (.var 2)) (some (.cmp (.met .get (.var 26) [.bin .add (.var 1) (.var 12), .var 30]) .ne (.var 30))) [26, 1]) σ = newL ys σ ∧ ys.length = ((enumL 0 d).filter (diffP K o)).length := by
  have hs : itemsOf (ev (n + 9) ρ) (.enum (.var 2)) σ = some (enumL 0 d, none, σ) := by
    simp [itemsOf, ev, h2]
  have hc := compl_filter (tg := .many [12, 30]) (w := none) (σ₀ := σ) (σ := σ) (c := tsto (ev (n + 9)) (some (.cmp (.met .get (.var 26) [.bin .add (.var 1) (.var 12), .var 30]) .ne (.var 30)))) (el := fun ρ' => ev (n + 9) ρ' (.int 1)) (J := fun ρ => ρ 1 = some (.int o) ∧ ρ 26 = some (.loc k)) (p := diffP K o) (g := fun _ => .int 1) (by simp [chk]) (enumL 0 d) (ρ := restr [26, 1] ρ) (fun v hv ρ hJ => by
    rw [enumL_map] at hv
    refine el_EA (List.mem_map.mp hv) fun hq3 hm hq4 => ?_; obtain ⟨u, j⟩ := hq3; subst hq4
    generalize hρ : upd (upd ρ 12 (some (.int (j : Int)))) 30 (some (.int u.toNat)) = ρ₁
    have g1 : ρ₁ 1 = some (.int o) := by rw [← hρ]; exact hJ.1
    have g26 : ρ₁ 26 = some (.loc k) := by rw [← hρ]; exact hJ.2
    have g12 : ρ₁ 12 = some (.int (j : Int)) := by rw [← hρ]; rfl
    have g30 : ρ₁ 30 = some (.int u.toNat) := by rw [← hρ]; rfl
    refine ⟨ρ₁, by rw [← hρ]; rfl, ⟨g1, g26⟩, ?_, fun _ => ev_int⟩
    have e1 := ev_get2 (n := n + 6) g26 hk (ev_add (ev_var g1) (ev_var g12)) (ev_var g30)
    have e2 : ev (n + 9) ρ₁ (.cmp (.met .get (.var 26) [.bin .add (.var 1) (.var 12), .var 30]) .ne (.var 30)) σ = some (.bool (diffP K o (.tup [.int (j : Int), .int u.toNat])), σ) := by
      refine ev_cmp e1 (ev_var g30) ?_
      simp only [acmp, diffP, dget_kv, AV.by, St.on, int2, no]
      cases hkg : kget K (o + j) with
      | none => simp [aeq, kinV, kin, AV.by, St.on, no, eqB, eqN]
      | some v => simp [aeq, kinV, kin, AV.by, St.on, no, eqB, eqN]
    simp only [tsto, tst, e2, Option.bind_some, tru]) ⟨by simp [restr, h1], by simp [restr, h26]⟩
  exact ⟨_, ev_comp hs hc, by simp⟩

/-! what comes to be known -/
noncomputable def knBody : List Y := [.ite (.cmp (.bin .add (.var 1) (.var 12)) .notin (.var 26)) [.setI (.var 26) (.bin .add (.var 1) (.var 12)) (.var 30)] []]

theorem known_loop (n : Nat) {κ : St} {b q k l : Nat} {L : List AV} {σ : St} {ρ : En} {K : Kn} {o : Int} {d : List UInt8} (W : PW κ σ b q k l (K.map kv) L) (h1 : ρ 1 = some (.int o)) (h26 : ρ 26 = some (.loc k)) (hn : (K.map (·.1)).Nodup) (hKl : K.length + d.length < 1000) :
    ∃ (ρ' : En) (σ' : St) (K' : Kn), forl (.many [12, 30]) none σ (exs (ex (n + 12)) knBody) (enumL 0 d) ρ σ = some (.next, ρ', σ') ∧ (∀ x, x ≠ 12 → x ≠ 30 → ρ' x = ρ x) ∧ PW κ σ' b q k l (K'.map kv) L ∧ (K'.map (·.1)).Nodup ∧ K'.length ≤ K.length + d.length ∧
      (∀ a u, (a, u) ∈ K' ↔ (a, u) ∈ K ∨ (AtP (o, d) a u ∧ ∀ v, (a, v) ∉ K)) ∧ Fr [k] σ σ' ∧ σ'.next = σ.next := by
  let J : List (UInt8 × Nat) → En → St → Prop := fun rest ρ' τ => (∀ x, x ≠ 12 → x ≠ 30 → ρ' x = ρ x) ∧ Fr [k] σ τ ∧ τ.next = σ.next ∧ ∃ (R : List (UInt8 × Nat)) (K' : Kn), d.zipIdx = R ++ rest ∧ PW κ τ b q k l (K'.map kv) L ∧ (K'.map (·.1)).Nodup ∧ K'.length ≤ K.length + R.length ∧
    ∀ a u, (a, u) ∈ K' ↔ (a, u) ∈ K ∨ ∃ j : Nat, (u, j) ∈ R ∧ a = o + j ∧ ∀ v, (a, v) ∉ K
  have hstep : ∀ (x : UInt8 × Nat) (rest : List (UInt8 × Nat)) (ρ' : En) (τ : St), J (x :: rest) ρ' τ → ∃ ρ₁ ρ₂ τ₂, bindT (.many [12, 30]) (.tup [.int (x.2 : Int), .int x.1.toNat]) ρ' = some ρ₁ ∧ exs (ex (n + 12)) knBody ρ₁ τ = some (.next, ρ₂, τ₂) ∧ chk none σ τ₂ = true ∧ J rest ρ₂ τ₂ := by
    rintro ⟨u, j⟩ rest ρ' τ ⟨hfrm, frt, nxt, R, K', hR, W', hn', hl', hmem⟩
    generalize hρ : upd (upd ρ' 12 (some (.int (j : Int)))) 30 (some (.int u.toNat)) = ρ₁
    have g1 : ρ₁ 1 = some (.int o) := by rw [← hρ]; simp [updD, hfrm, h1]
    have g26 : ρ₁ 26 = some (.loc k) := by rw [← hρ]; simp [updD, hfrm, h26]
    have g12 : ρ₁ 12 = some (.int (j : Int)) := by rw [← hρ]; rfl
    have g30 : ρ₁ 30 = some (.int u.toNat) := by rw [← hρ]; rfl
    have gf : ∀ x, x ≠ 12 → x ≠ 30 → ρ₁ x = ρ x := by intro x hx hx'; rw [← hρ]; simp [updD, hx, hx', hfrm]
    have hlen : R.length + (rest.length + 1) = d.length := by
      have := congrArg List.length hR
      simpa using this.symm
    have hadd : ∀ m, ev (m + 2) ρ₁ (.bin .add (.var 1) (.var 12)) τ = some (.int (o + j), τ) := fun m => ev_add (ev_var g1) (ev_var g12)
    have hc : ev (n + 11) ρ₁ (.cmp (.bin .add (.var 1) (.var 12)) .notin (.var 26)) τ = some (.bool !(dget (K'.map kv) (o + j)).isSome, τ) :=
      ev_cmp (hadd _) (ev_var g26) (by simp [acmp, W'.kg, AV.by, St.on, int2, no])
    have hkeys : (K'.map kv).map (·.1) = K'.map (·.1) := by rw [List.map_map]; rfl
    cases hd : dget (K'.map kv) (o + j) with
    | none =>
      rw [hd] at hc
      have hnin : o + (j : Int) ∉ K'.map (·.1) := by rw [← hkeys]; exact dget_none.mp hd
      have hput : dput (K'.map kv) (o + j) (.int u.toNat) = (K' ++ [(o + (j : Int), u)]).map kv := by
        rw [dput_new (by rw [hkeys]; exact hnin), List.map_append]; rfl
      have hK : ∀ v, (o + (j : Int), v) ∉ K := fun v hv => hnin (List.mem_map.mpr ⟨_, (hmem _ _).mpr (.inl hv), rfl⟩)
      refine ⟨ρ₁, ρ₁, τ.w k (.dict ((K' ++ [(o + (j : Int), u)]).map kv)), by rw [← hρ]; rfl, exs_one ((ex_ite_t hc).trans (exs_one ?_)), rfl, gf, frt.trans (fr_w W'.kg (by simp)), nxt, R ++ [(u, j)], K' ++ [(o + (j : Int), u)], by rw [hR]; simp, W'.write, ?_, by simp; omega, fun a v => ?_⟩
      · have hw : τ.put k (.dict ((K' ++ [(o + (j : Int), u)]).map kv)) = some (τ.w k (.dict ((K' ++ [(o + (j : Int), u)]).map kv))) := put_w W'.kg
        have ha : aset (.loc k) (.int (o + j)) (.int u.toNat) τ = some (τ.w k (.dict ((K' ++ [(o + (j : Int), u)]).map kv))) := by
          refine (on_d W'.kg).trans ?_
          rw [if_pos (by unfold lim; simp; lia), hput]
          exact hw
        rw [ex]
        simp only [ev_var g30 (n := n + 9), ev_var g26 (n := n + 9), hadd (n + 8), Option.bind_some, ha]
      · rw [List.map_append, List.nodup_append]
        refine ⟨hn', by simp, ?_⟩
        intro a ha c hc' e
        simp at hc'
        subst hc'
        subst e
        exact hnin ha
      · rw [List.mem_append, List.mem_singleton, hmem a v]
        constructor
        · rintro ((k1 | ⟨i, k1, k2, k3⟩) | k1)
          · exact .inl k1
          · exact .inr ⟨i, List.mem_append.mpr (.inl k1), k2, k3⟩
          · cases k1
            exact .inr ⟨j, by simp, rfl, hK⟩
        · rintro (k1 | ⟨i, k1, k2, k3⟩)
          · exact .inl (.inl k1)
          · rcases List.mem_append.mp k1 with k1 | k1
            · exact .inl (.inr ⟨i, k1, k2, k3⟩)
            · rw [List.mem_singleton] at k1
              cases k1
              subst k2
              exact .inr rfl
    | some w =>
      rw [hd] at hc
      refine ⟨ρ₁, ρ₁, τ, by rw [← hρ]; rfl, exs_one ((ex_ite_f hc).trans exs_nil), rfl, gf, frt, nxt, R ++ [(u, j)], K', by rw [hR]; simp, W', hn', by simp; omega, fun a v => ?_⟩
      rw [hmem a v]
      constructor
      · rintro (k1 | ⟨i, k1, k2, k3⟩)
        · exact .inl k1
        · exact .inr ⟨i, List.mem_append.mpr (.inl k1), k2, k3⟩
      · rintro (k1 | ⟨i, k1, k2, k3⟩)
        · exact .inl k1
        · rcases List.mem_append.mp k1 with k1 | k1
          · exact .inr ⟨i, k1, k2, k3⟩
          · rw [List.mem_singleton] at k1
            cases k1
            subst k2
            -- it is known, and not of old: from R
            rw [dget_kv] at hd
            cases hkg : kget K' (o + (j : Int)) with
            | none => rw [hkg] at hd; cases hd
            | some w' =>
              have hm := (kget_mem hn').mp hkg
              rcases (hmem _ _).mp hm with k4 | ⟨i', k4, k5, k6⟩
              · exact absurd k4 (k3 w')
              · have hii : i' = j := by lia
                subst hii
                have e1 : d[i']? = some w' := List.mem_zipIdx_iff_getElem?.mp (by rw [hR]; exact List.mem_append.mpr (.inl k4))
                have e2 : d[i']? = some u := List.mem_zipIdx_iff_getElem?.mp (show (u, i') ∈ d.zipIdx by rw [hR]; simp)
                rw [e1] at e2; cases e2
                exact .inr ⟨i', k4, rfl, k3⟩
  refine el_EEAAAAE (forl_inv hstep d.zipIdx (ρ := ρ) (σ := σ) ⟨fun _ _ _ => rfl, Fr.refl, rfl, [], K, by simp, W, hn, by simp, fun a u => by simp⟩) fun ρ' σ' e hfrm fr' nx' R hq5 => ?_; refine el_EAAAA hq5 fun K' hR W' hn' hl' hmem => ?_; clear hq5
  rw [List.append_nil] at hR
  have hRl : R.length = d.length := by rw [← hR]; simp
  refine ⟨ρ', σ', K', by rw [enumL_map]; exact e, hfrm, W', hn', by lia, fun a u => ?_, fr', nx'⟩
  rw [hmem a u]
  constructor
  · rintro (k1 | ⟨j, k1, k2, k3⟩)
    · exact .inl k1
    · rw [← hR] at k1
      have hu : d[j]? = some u := List.mem_zipIdx_iff_getElem?.mp k1
      subst k2
      exact .inr ⟨⟨by dsimp only; lia, by dsimp only; rw [show (o + (j : Int) - o).toNat = j from by lia]; exact hu⟩, k3⟩
  · rintro (k1 | ⟨k1, k2⟩)
    · exact .inl k1
    · have h1 := k1.lo
      have hu := k1.2
      dsimp only at h1 hu
      exact .inr ⟨(a - o).toNat, by rw [← hR]; exact List.mem_zipIdx_iff_getElem?.mpr hu, by lia, k2⟩
end Mine

/-! LawX -/
namespace Mine

noncomputable def pcBody : List Y := match f16.body with
  | _ :: .forT _ _ b :: _ => b
  | _ => []

theorem bool_eq {x y : Bool} (h : x = true ↔ y = true) : x = y := by cases x <;> cases y <;> simp_all

theorem pc_turn (n : Nat) {κ : St} {b q k l : Nat} {P : List Pc} {K : Kn} {σ : St} {ρ : En} (h24 : ρ 24 = some (.loc b)) (h0 : ρ 0 = some (.loc l)) (h26 : ρ 26 = some (.loc k)) (W : PW κ σ b q k l (K.map kv) (P.map pc)) (I : PInv P K) (hK : K.length < 50) :
    ∃ (ρ' : En) (σ' : St) (l' : Nat) (P' : List Pc) (K' : Kn), exs (ex (n + 30)) pcBody ρ σ = some (.next, ρ', σ') ∧ ρ' 24 = some (.loc b) ∧ ρ' 0 = some (.loc l') ∧ ρ' 26 = some (.loc k) ∧ PW κ σ' b q k l' (K'.map kv) (P'.map pc) ∧ PInv P' K' ∧ K'.length ≤ K.length + 4 := by
  have hb : pcBody = [
        .setT [1, 2] (.tup [.call 13 [.var 24, .int 14], .bif .bytes [.comp (.bin .add (.int 97) (.call 13 [.var 24, .int 4])) (.one 28) (.range [.call 13 [.var 24, .int 5]]) none [24]]]),
        .set 29 (.cmp (.comp (.int 1) (.many [12, 30]) (.enum (.var 2)) (some (.cmp (.met .get (.var 26) [.bin .add (.var 1) (.var 12), .var 30]) .ne (.var 30))) [26, 1]) .eq (.list [])),
        .ite (.cmp (.call 5 [.var 0, .var 1, .var 2]) .ne (.var 29))
          [
            .ret (.bool false)]
          [],
        .setT [10, 31] (.tup [.bif .list [.var 0], .call 0 [.var 0, .var 1, .var 2]]),
        .forT (.many [12, 30]) (.enum (.var 2)) knBody,
        .ite (.or (.cmp (.var 0) .ne (.var 10)) (.cmp (.var 31) .ne (.call 14 [.var 26])))
          [
            .ret (.bool false)]
          [],
        .set 0 (.var 31)] := rfl
  rw [hb]
  -- the draw
  refine el_EEAAAAA (ev_take (n + 15) (w := 14) W h24 (by lia)) fun o σ1 e1 o0 o1 W1 f1 nx1 => ?_
  refine el_EEAAAAA (ev_take (n + 13) (w := 5) W1 h24 (by lia)) fun c σ2 e2 c0 c1 W2 f2 nx2 => ?_
  have hs : itemsOf (ev (n + 26) ρ) (.range [.call 13 [.var 24, .int 5]]) σ1 = some (rangeL 0 1 c.toNat, none, σ2) := by
    have hsm : small c = true := by unfold small; simp; omega
    unfold itemsOf
    simp only [evs, e2, Option.bind_some, intsOf, Option.map_some, rangeOf, hsm, if_true, AV.by, no]
  refine el_EEAAAAA (comp_take (n + 12) (σ₀ := σ2) (rangeL 0 1 c.toNat) (ρ := restr [24] ρ) W2 (by simp [restr, h24])) fun ys σ3 e3 hlen hys W3 f3 nx3 => ?_
  rw [rangeL_length] at hlen
  obtain ⟨d, hd, hdl⟩ := octs_some (ys := ys) fun y hy => by have := hys y hy; lia
  refine el_A (newL_out (xs := ys.map .int) Fr.refl W3.wf (by simp; omega)) fun n4 O4 => ?_
  generalize hσ4 : σ3.alloc (.list (ys.map .int)) = σ4 at n4 O4
  have W4 := W3.fresh O4.fr
  have hcomp : ev (n + 27) ρ (.comp (.bin .add (.int 97) (.call 13 [.var 24, .int 4])) (.one 28) (.range [.call 13 [.var 24, .int 5]]) none [24]) σ1 = some (.loc σ3.next, σ4) := (ev_comp hs e3).trans n4
  have hbytes : ev (n + 28) ρ (.bif .bytes [.comp (.bin .add (.int 97) (.call 13 [.var 24, .int 4])) (.one 28) (.range [.call 13 [.var 24, .int 5]]) none [24]]) σ1 = some (.bytes d, σ4) :=
    (ev_bif1 hcomp).trans (by simp only [abif, O4.get, intsOf_map, Option.bind_some, hd, Option.map_some, AV.by, St.on, args, no, no2, int2])
  have hd4 : d.length ≤ 4 := by omega
  have s1 := ex_setT (xs := [1, 2]) (ev_tup2 e1 hbytes) bindT_pair
  generalize hρ1 : upd (upd ρ 1 (some (.a (.int o)))) 2 (some (.a (.bytes d))) = ρ1 at s1
  have g24 : ρ1 24 = some (.loc b) := by rw [← hρ1]; exact h24
  have g0 : ρ1 0 = some (.loc l) := by rw [← hρ1]; exact h0
  have g26 : ρ1 26 = some (.loc k) := by rw [← hρ1]; exact h26
  have g1 : ρ1 1 = some (.int o) := by rw [← hρ1]; rfl
  have g2 : ρ1 2 = some (.bytes d) := by rw [← hρ1]; rfl
  -- whether the same
  refine el_EA (comp_diff (n + 18) g1 g26 g2 W4.kg) fun zs e5 hz => ?_
  have hzl : zs.length ≤ 4 := by
    rw [hz]
    refine Nat.le_trans (List.length_filter_le _ _) ?_
    rw [enumL_map]; simp; omega
  refine el_A (newL_out (xs := zs) Fr.refl W4.wf (by lia)) fun n5 O5 => ?_
  generalize hσ5 : σ4.alloc (.list zs) = σ5 at n5 O5
  refine el_EA (ev_newL (n := n + 27) (ρ := ρ1) O5.wf) fun σ6 e6 O6 => ?_
  have W6 := (W4.fresh O5.fr).fresh O6.fr
  have hsame : decide (zs = []) = P.all (agree1 o d) := by
    refine bool_eq ?_
    rw [agrees_iff I.has, ← diff_nil I.nod, decide_eq_true_eq]
    rw [← List.length_eq_zero_iff, ← List.length_eq_zero_iff, hz]
  have c6 : ev (n + 29) ρ1 (.cmp (.comp (.int 1) (.many [12, 30]) (.enum (.var 2)) (some (.cmp (.met .get (.var 26) [.bin .add (.var 1) (.var 12), .var 30]) .ne (.var 30))) [26, 1]) .eq (.list [])) σ4 = some (.bool (P.all (agree1 o d)), σ6) := by
    refine ev_cmp (e5.trans n5) e6 ?_
    rw [← hsame]
    exact aeq_empty ((O6.fr.get O5.lt (by simp)).trans O5.get) O6.get
  have s2 := ex_set (x := 29) c6
  generalize hρ2 : upd ρ1 29 (some (.bool (P.all (agree1 o d)))) = ρ2 at s2
  have k24 : ρ2 24 = some (.loc b) := by rw [← hρ2]; exact g24
  have k0 : ρ2 0 = some (.loc l) := by rw [← hρ2]; exact g0
  have k26 : ρ2 26 = some (.loc k) := by rw [← hρ2]; exact g26
  have k1 : ρ2 1 = some (.int o) := by rw [← hρ2]; exact g1
  have k2 : ρ2 2 = some (.bytes d) := by rw [← hρ2]; exact g2
  have k29 : ρ2 29 = some (.bool (P.all (agree1 o d))) := by rw [← hρ2]; rfl
  have s3 : ex (n + 30) (.ite (.cmp (.call 5 [.var 0, .var 1, .var 2]) .ne (.var 29)) [.ret (.bool false)] []) ρ2 σ6 = some (.next, ρ2, σ6) := by
    refine (ex_ite_f (σ' := σ6) (ev_cmp ((ev_call3 k0 k1 k2).trans (run_agrees (n + 13) W6.lg)) (ev_var k29) ?_)).trans exs_nil
    simp [acmp, aeq, AV.by, St.on, int2, no, eqB, eqN]
  -- add
  refine el_A I.tot fun hPl hPt => ?_
  refine el_A (newL_out (xs := P.map pc) Fr.refl W6.wf (by simp; lia)) fun n7 O7 => ?_
  generalize hσ7 : σ6.alloc (.list (P.map pc)) = σ7 at n7 O7
  have W7 := W6.fresh O7.fr
  refine el_EEEAAA (run_add' (n + 13) (o := o) (d := d) W7.wf W7.lg (by lia) (by lia) I.nrm) fun r σ8 P' e8 O8 nP' hP' => ?_
  have W8 := W7.fresh O8.fr
  have c7 : ev (n + 28) ρ2 (.bif .list [.var 0]) σ6 = some (.loc σ6.next, σ7) := (ev_bif1 (ev_var k0)).trans (by simp only [abif, W6.lg, n7, AV.by, St.on, args, no, no2, int2])
  have s4 := ex_setT (xs := [10, 31]) (ev_tup2 c7 ((ev_call3 (n := n + 26) k0 k1 k2).trans e8)) bindT_pair
  generalize hρ3 : upd (upd ρ2 10 (some (.a (.loc σ6.next)))) 31 (some (.a (.loc r))) = ρ3 at s4
  have m24 : ρ3 24 = some (.loc b) := by rw [← hρ3]; exact k24
  have m0 : ρ3 0 = some (.loc l) := by rw [← hρ3]; exact k0
  have m26 : ρ3 26 = some (.loc k) := by rw [← hρ3]; exact k26
  have m1 : ρ3 1 = some (.int o) := by rw [← hρ3]; exact k1
  have m2 : ρ3 2 = some (.bytes d) := by rw [← hρ3]; exact k2
  have m10 : ρ3 10 = some (.loc σ6.next) := by rw [← hρ3]; rfl
  have m31 : ρ3 31 = some (.loc r) := by rw [← hρ3]; rfl
  -- what is known
  refine el_EEEAAAA (known_loop (n + 17) (o := o) (d := d) W8 m1 m26 I.nod (by lia)) fun ρ4 σ9 K' e9 hfrm W9 hn' hq2 => ?_; refine el_AAA hq2 fun hl' hmem f9 nx9 => ?_; clear hq2
  have s5 : ex (n + 30) (.forT (.many [12, 30]) (.enum (.var 2)) knBody) ρ3 σ8 = some (.next, ρ4, σ9) := by
    refine (ex_for (items := enumL 0 d) (wl := none) (σ' := σ8) ?_).trans e9
    simp [itemsOf, ev, m2]
  have p24 : ρ4 24 = some (.loc b) := (hfrm 24 (by lia) (by lia)).trans m24
  have p0 : ρ4 0 = some (.loc l) := (hfrm 0 (by lia) (by lia)).trans m0
  have p26 : ρ4 26 = some (.loc k) := (hfrm 26 (by lia) (by lia)).trans m26
  have p10 : ρ4 10 = some (.loc σ6.next) := (hfrm 10 (by lia) (by lia)).trans m10
  have p31 : ρ4 31 = some (.loc r) := (hfrm 31 (by lia) (by lia)).trans m31
  have hk6 := W6.kl
  have hb6 := W6.bl
  have hq6 := W6.ql
  have hn7 := O7.lt
  have hn8 := O8.fr.le
  have hr8 := O8.new
  have hr9 := O8.lt
  have gh9 : σ9.get σ6.next = some (.list (P.map pc)) := (f9.get (by lia) (by simp; lia)).trans ((O8.fr.get O7.lt (by simp)).trans O7.get)
  have gr9 : σ9.get r = some (.list (P'.map pc)) := (f9.get O8.lt (by simp; lia)).trans O8.get
  have I' : PInv P' K' := by
    refine ⟨nP', hn', fun a u => ?_, fun p hp => ?_⟩
    · rw [hP' a u, hmem a u, I.has a u]
      simp only [I.has]
    · rcases (hmem p.1 p.2).mp hp with h | ⟨h, -⟩
      · exact I.rng p h
      · have h1 := h.lo; have h2 := h.hi; dsimp only at h1 h2; lia
  refine el_EEEAAA (run_rows (n + 12) W9.wf W9.kg hn' (by lia)) fun r2 σ10 R e10 O10 nR hR => ?_
  have hRP : R = P' := nrm_uniq nR nP' fun a u => by rw [hR, I'.has]
  subst hRP
  have s6 : ex (n + 30) (.ite (.or (.cmp (.var 0) .ne (.var 10)) (.cmp (.var 31) .ne (.call 14 [.var 26]))) [.ret (.bool false)] []) ρ4 σ9 = some (.next, ρ4, σ10) := by
    refine (ex_ite_f (σ' := σ10) ((ev_or_f (σ' := σ9) (ev_cmp (ev_var p0) (ev_var p10) ?_)).trans (ev_cmp (ev_var p31) ((ev_call1 p26).trans e10) ?_))).trans exs_nil
    · simp [acmp, aeq_pc W9.lg gh9, AV.by, St.on, int2, no]
    · simp [acmp, aeq_pc ((O10.fr.get (by omega) (by simp)).trans gr9) O10.get, AV.by, St.on, int2, no]
  refine ⟨upd ρ4 0 (some (.loc r)), σ10, r, R, K', ?_, p24, rfl, p26, (W9.fresh O10.fr).other ((O10.fr.get (by have := O8.lt; omega) (by simp)).trans gr9) (by lia) (by lia), I', by lia⟩
  refine (exs_next (f := ex (n + 30)) s1).trans ((exs_next (f := ex (n + 30)) s2).trans ((exs_next (f := ex (n + 30)) s3).trans ((exs_next (f := ex (n + 30)) s4).trans ((exs_next (f := ex (n + 30)) s5).trans ((exs_next (f := ex (n + 30)) s6).trans (exs_one (ex_set (ev_var p31))))))))
end Mine

/-! LawY -/
namespace Mine

/-! plain facts -/
noncomputable def covS (p : Pc) : Sn := (p.1, p.1 + p.2.length)
theorem covF_sp (P : List Pc) : P.map covF = (P.map covS).map sp := by rw [List.map_map]; rfl
theorem cov_nrm : ∀ {P : List Pc}, Nrm P → NrmS (P.map covS)
  | [], _ => .nil
  | p :: P, h => by
    refine el_AA (nrm_cons.mp h) fun h1 h2 h3 => ?_
    have := len_pos h1
    refine nrmS_cons.mpr ⟨by unfold covS; dsimp only; omega, fun q hq => ?_, cov_nrm h3⟩
    refine el_EA (List.mem_map.mp hq) fun r hr hq1 => ?_; subst hq1
    exact h2 r hr
theorem cov_mem {P : List Pc} {a : Int} : Mem (P.map covS) a ↔ ∃ u, Has P a u := by
  constructor
  · rintro ⟨q, hq, h1, h2⟩
    refine el_EA (List.mem_map.mp hq) fun p hp hq2 => ?_; subst hq2
    refine el_E (AtP.ex (p := p) h1 h2) fun u hu => ?_
    exact ⟨u, p, hp, hu⟩
  · rintro ⟨u, p, hp, hu⟩
    exact ⟨covS p, List.mem_map.mpr ⟨p, hp, rfl⟩, hu.lo, hu.hi⟩

theorem maxI_ge : ∀ (l : List Int) (m : Int), m ≤ maxI m l ∧ (∀ x ∈ l, x ≤ maxI m l) ∧ (maxI m l = m ∨ maxI m l ∈ l)
  | [], m => by simp [maxI]
  | i :: l, m => by
    rw [maxI]
    by_cases hc : m < i
    · rw [if_pos hc]
      refine el_AA (maxI_ge l i) fun h1 h2 h3 => ?_
      refine ⟨by lia, fun x hx => ?_, ?_⟩
      · rcases List.mem_cons.mp hx with rfl | hx
        · omega
        · exact h2 x hx
      · rcases h3 with h3 | h3
        · right; rw [h3]; exact List.mem_cons_self
        · right; exact List.mem_cons_of_mem _ h3
    · rw [if_neg hc]
      refine el_AA (maxI_ge l m) fun h1 h2 h3 => ?_
      refine ⟨by omega, fun x hx => ?_, ?_⟩
      · rcases List.mem_cons.mp hx with rfl | hx
        · lia
        · exact h2 x hx
      · rcases h3 with h3 | h3
        · left; exact h3
        · right; exact List.mem_cons_of_mem _ h3

theorem high_max {P : List Pc} {K : Kn} (I : PInv P K) : ∃ i r, (K.map fun p => p.1 + 1) ++ [0] = i :: r ∧ maxI i r = highF P := by
  have hne : (K.map fun p => p.1 + 1) ++ [0] ≠ [] := by simp
  refine el_EE (List.exists_cons_of_ne_nil hne) fun i r hir => ?_
  refine ⟨i, r, hir, ?_⟩
  refine el_AA (maxI_ge r i) fun h1 h2 h3 => ?_
  have hall : ∀ x ∈ (K.map fun p => p.1 + 1) ++ [0], x ≤ maxI i r := by
    intro x hx
    rw [hir] at hx
    rcases List.mem_cons.mp hx with rfl | hx
    · exact h1
    · exact h2 x hx
  have hin : maxI i r ∈ (K.map fun p => p.1 + 1) ++ [0] := by
    rw [hir]
    rcases h3 with h3 | h3
    · rw [h3]; exact List.mem_cons_self
    · exact List.mem_cons_of_mem _ h3
  generalize maxI i r = m at *
  rcases List.eq_nil_or_concat P with rfl | ⟨G, p, hG⟩
  · have hK : K = [] := by
      cases K with
      | nil => rfl
      | cons x K => exact absurd ((I.has x.1 x.2).mpr List.mem_cons_self) has_nil
    subst hK
    simp at hin
    rw [hin]; rfl
  · rw [List.concat_eq_append] at hG
    subst hG
    have hh : highF (G ++ [p]) = p.1 + p.2.length := by unfold highF; rw [List.getLast?_concat]
    rw [hh]
    refine el_AA (nrm_append.mp I.nrm) fun n1 n2 n3 => ?_
    have hp := len_pos (n2.ne p (by simp))
    refine el_E (AtP.ex (p := p) (a := p.1 + p.2.length - 1) (by lia) (by lia)) fun u hu => ?_
    have hk := (I.has _ _).mp (⟨p, by simp, hu⟩ : Has (G ++ [p]) (p.1 + p.2.length - 1) u)
    have ge := hall (p.1 + p.2.length - 1 + 1) (List.mem_append.mpr (.inl (List.mem_map.mpr ⟨_, hk, rfl⟩)))
    have hr := I.rng _ hk
    dsimp only at hr
    rcases List.mem_append.mp hin with hin | hin
    · refine el_EA (List.mem_map.mp hin) fun x hx hxm => ?_
      refine el_EA ((I.has x.1 x.2).mpr hx) fun q hq hqa => ?_
      have hqe := hqa.hi
      rcases List.mem_append.mp hq with hq | hq
      · have := n3 q hq p (by simp)
        unfold Sep at this
        lia
      · rw [List.mem_singleton] at hq; subst hq; lia
    · rw [List.mem_singleton] at hin
      omega

theorem oct_eq : ∀ {P : List Pc} {a : Int}, Nrm P → (∃ u : UInt8, octF a P = .int u.toNat ∧ Has P a u) ∨ (octF a P = .none ∧ ∀ u, ¬ Has P a u)
  | [], a, _ => .inr ⟨rfl, fun u => has_nil⟩
  | p :: P, a, h => by
    refine el_AA (nrm_cons.mp h) fun h1 h2 h3 => ?_
    rw [octF]
    by_cases ho : octIn a p = true
    · rw [if_pos ho]
      refine el_AE (octIn_get ho) fun k1 u k2 => ?_
      rw [k2]
      exact .inl ⟨u, rfl, p, List.mem_cons_self, by lia, k2⟩
    · rw [if_neg ho]
      rcases oct_eq (a := a) h3 with ⟨u, e, k⟩ | ⟨e, k⟩
      · exact .inl ⟨u, e, has_cons.mpr (.inr k)⟩
      · refine .inr ⟨e, fun u hu => ?_⟩
        rcases has_cons.mp hu with hu | hu
        · apply ho
          unfold octIn
          rw [decide_eq_true_eq]
          exact ⟨hu.lo, hu.hi⟩
        · exact k u hu
theorem oct_known {P : List Pc} {K : Kn} (I : PInv P K) (a : Int) : octF a P = ((dget (K.map kv) a).getD .none) := by
  rw [dget_kv]
  rcases oct_eq (a := a) I.nrm with ⟨u, e, k⟩ | ⟨e, k⟩
  · rw [e, (kget_mem I.nod).mpr ((I.has _ _).mp k)]; rfl
  · rw [e]
    cases hk : kget K a with
    | none => rfl
    | some u => exact absurd ((I.has _ _).mpr ((kget_mem I.nod).mp hk)) (k u)

theorem take_fold {a : Int} : ∀ {P : List Pc} {j : List UInt8} {F : List Pc}, Nrm P → (P.foldl (takeStep a) (j, F)).2 = F ++ P.filter (fun p => decide (a < p.1)) ∧ (P.foldl (takeStep a) (j, F)).1 = match P.find? (octIn a) with | some p => p.2.drop (a - p.1).toNat | none => j
  | [], j, F, _ => by simp
  | p :: P, j, F, h => by
    refine el_AA (nrm_cons.mp h) fun h1 h2 h3 => ?_
    rw [List.foldl_cons]
    by_cases ho : octIn a p = true
    · have hst : takeStep a (j, F) p = (p.2.drop (a - p.1).toNat, F) := by unfold takeStep; rw [if_pos ho]
      refine el_A (take_fold (a := a) (j := p.2.drop (a - p.1).toNat) (F := F) h3) fun i1 i2 => ?_
      have hle : ¬ a < p.1 := by unfold octIn at ho; rw [decide_eq_true_eq] at ho; omega
      have hnone : P.find? (octIn a) = none := by
        rw [List.find?_eq_none]
        intro q hq hqo
        unfold octIn at ho hqo
        rw [decide_eq_true_eq] at ho hqo
        have := h2 q hq
        unfold Sep at this
        omega
      rw [hst, i1, i2, hnone]
      simp [ho, hle]
    · by_cases hgt : a < p.1
      · have hst : takeStep a (j, F) p = (j, F ++ [p]) := by unfold takeStep; rw [if_neg ho, if_pos hgt]
        refine el_A (take_fold (a := a) (j := j) (F := F ++ [p]) h3) fun i1 i2 => ?_
        rw [hst, i1, i2]
        simp [ho, hgt]
      · have hst : takeStep a (j, F) p = (j, F) := by unfold takeStep; rw [if_neg ho, if_neg hgt]
        refine el_A (take_fold (a := a) (j := j) (F := F) h3) fun i1 i2 => ?_
        rw [hst, i1, i2]
        simp [ho, hgt]

theorem nrm_filter {P : List Pc} {f : Pc → Bool} (h : Nrm P) : Nrm (P.filter f) := ⟨fun p hp => h.ne p (List.mem_filter.mp hp).1, h.sep.filter f⟩

/-- what is taken from a place on -/
theorem take_char {P : List Pc} {a : Int} (h : Nrm P) : ∃ e : Int, a ≤ e ∧ (∀ u, ¬ Has P e u) ∧ ((P.foldl (takeStep a) ([], [])).1.length : Int) = e - a ∧ (∀ i : Nat, ∀ u, (P.foldl (takeStep a) ([], [])).1[i]? = some u → Has P (a + i) u) ∧
    (∀ x u, Has (P.foldl (takeStep a) ([], [])).2 x u ↔ Has P x u ∧ e ≤ x) ∧ Nrm (P.foldl (takeStep a) ([], [])).2 := by
  refine el_A (take_fold (a := a) (j := []) (F := []) h) fun i1 i2 => ?_
  rw [i1, i2, List.nil_append]
  have hf : ∀ x u, Has (P.filter fun p => decide (a < p.1)) x u ↔ ∃ p ∈ P, a < p.1 ∧ AtP p x u := by
    intro x u
    unfold Has
    simp only [List.mem_filter, decide_eq_true_eq]
    constructor
    · rintro ⟨p, ⟨h1, h2⟩, h3⟩; exact ⟨p, h1, h2, h3⟩
    · rintro ⟨p, h1, h2, h3⟩; exact ⟨p, ⟨h1, h2⟩, h3⟩
  cases hfd : P.find? (octIn a) with
  | none =>
    rw [List.find?_eq_none] at hfd
    have hno : ∀ p ∈ P, ¬ (p.1 ≤ a ∧ a < p.1 + p.2.length) := by
      intro p hp hh
      exact hfd p hp (by unfold octIn; rw [decide_eq_true_eq]; exact hh)
    refine ⟨a, Int.le_refl _, fun u hu => ?_, by simp, by simp, fun x u => ?_, nrm_filter h⟩
    · refine el_EA hu fun p hp k => ?_; clear hu
      exact hno p hp ⟨k.lo, k.hi⟩
    · rw [hf]
      constructor
      · rintro ⟨p, hp, h1, k⟩
        exact ⟨⟨p, hp, k⟩, by have := k.lo; omega⟩
      · rintro ⟨⟨p, hp, k⟩, hx⟩
        refine ⟨p, hp, ?_, k⟩
        have := hno p hp
        have := k.hi
        omega
  | some p =>
    have hp := List.mem_of_find?_eq_some hfd
    have ho := List.find?_some hfd
    unfold octIn at ho
    rw [decide_eq_true_eq] at ho
    refine el_EE (List.append_of_mem hp) fun A B hAB => ?_
    rw [hAB] at h
    refine el_AA (nrm_append.mp h) fun n1 n2 n3 => ?_
    refine el_AA (nrm_cons.mp n2) fun n4 n5 n6 => ?_
    have hother : ∀ q ∈ P, q = p ∨ q.1 + q.2.length < p.1 ∨ p.1 + p.2.length < q.1 := by
      intro q hq
      rw [hAB] at hq
      rcases List.mem_append.mp hq with hq | hq
      · exact .inr (.inl (n3 q hq p List.mem_cons_self))
      · rcases List.mem_cons.mp hq with rfl | hq
        · exact .inl rfl
        · exact .inr (.inr (n5 q hq))
    rw [← hAB] at h
    refine ⟨p.1 + p.2.length, by omega, fun u hu => ?_, by dsimp only; rw [List.length_drop]; omega, fun i u hu => ?_, fun x u => ?_, nrm_filter h⟩
    · refine el_EA hu fun q hq k => ?_; clear hu
      have h1 := k.lo; have h2 := k.hi
      rcases hother q hq with rfl | h3 | h3 <;> omega
    · dsimp only at hu
      rw [List.getElem?_drop] at hu
      exact ⟨p, hp, by omega, by rw [show (a + (i : Int) - p.1).toNat = (a - p.1).toNat + i from by omega]; exact hu⟩
    · rw [hf]
      constructor
      · rintro ⟨q, hq, h1, k⟩
        have h2 := k.lo
        refine ⟨⟨q, hq, k⟩, ?_⟩
        rcases hother q hq with rfl | h3 | h3
        · omega
        · have := len_pos (h.ne q hq); omega
        · omega
      · rintro ⟨⟨q, hq, k⟩, hx⟩
        refine ⟨q, hq, ?_, k⟩
        have h2 := k.hi
        rcases hother q hq with rfl | h3 | h3 <;> omega
end Mine

/-! LawZ -/
namespace Mine

theorem kv_keys (K : Kn) : (K.map kv).map (·.1) = K.map (·.1) := by rw [List.map_map]; rfl

/-- the loop that counts what is known from a place on -/
theorem whl_known (n : Nat) {σ : St} {k : Nat} {K : Kn} {spot : Int} (hk : σ.get k = some (.dict (K.map kv))) (hr : ∀ p ∈ K, p.1 < 18) : ∀ (fuel m : Nat) {ρ : En}, ρ 26 = some (.loc k) → ρ 32 = some (.int spot) → ρ 33 = some (.int m) → spot + m ≤ 18 → 20 ≤ spot + m + fuel →
    ∃ (ρ' : En) (m' : Nat), whll (fun ρ' => tst (ev (n + 10) ρ') (.cmp (.bin .add (.var 32) (.var 33)) .isin (.var 26))) (exs (ex (n + 10)) [.set 33 (.bin .add (.var 33) (.int 1))]) fuel ρ σ = some (.next, ρ', σ) ∧ ρ' 33 = some (.int m') ∧ (∀ x, x ≠ 33 → ρ' x = ρ x) ∧ m ≤ m' ∧
      (∀ j : Nat, m ≤ j → j < m' → spot + j ∈ K.map (·.1)) ∧ spot + m' ∉ K.map (·.1)
  | 0, m, ρ, _, _, _, h1, h2 => by omega
  | fuel + 1, m, ρ, h26, h32, h33, h1, h2 => by
    have hadd : ev (n + 9) ρ (.bin .add (.var 32) (.var 33)) σ = some (.int (spot + m), σ) := ev_add (ev_var h32) (ev_var h33)
    have hc : ev (n + 10) ρ (.cmp (.bin .add (.var 32) (.var 33)) .isin (.var 26)) σ = some (.bool (dget (K.map kv) (spot + m)).isSome, σ) := ev_cmp hadd (ev_var h26) (by simp [acmp, hk, AV.by, St.on, int2, no])
    rw [whll]
    unfold tst
    rw [hc]
    cases hd : dget (K.map kv) (spot + m) with
    | none =>
      have : spot + (m : Int) ∉ K.map (·.1) := by rw [← kv_keys]; exact dget_none.mp hd
      exact ⟨ρ, m, by simp [tru], h33, fun _ _ => rfl, Nat.le_refl _, fun j h h' => by lia, this⟩
    | some v =>
      have hin : spot + (m : Int) ∈ K.map (·.1) := by
        rw [← kv_keys]
        exact Decidable.not_not.mp fun h => by rw [dget_none.mpr h] at hd; cases hd
      refine el_EA (List.mem_map.mp hin) fun p hp hpe => ?_
      have := hr p hp
      have e1 : exs (ex (n + 10)) [.set 33 (.bin .add (.var 33) (.int 1))] ρ σ = some (.next, upd ρ 33 (some (.int ((m + 1 : Nat) : Int))), σ) := by
        refine exs_one (ex_set ?_)
        exact (ev_add (ev_var h33) ev_int).trans (by simp)
      refine el_EEAAAAA (whl_known n (spot := spot) hk hr fuel (m + 1) (ρ := upd ρ 33 (some (.int ((m + 1 : Nat) : Int)))) h26 h32 rfl (by lia) (by lia)) fun ρ' m' e g33 hfrm hm hall hno => ?_
      refine ⟨ρ', m', ?_, g33, fun x hx => (hfrm x hx).trans (if_neg hx), by lia, fun j h h' => ?_, hno⟩
      · simp only [Option.isSome_some, tru, Option.bind_some, if_true, e1]
        exact e
      · rcases Nat.lt_or_ge m j with hj | hj
        · exact hall j hj h'
        · have : j = m := by lia
          subst this; exact hin

/-! comprehensions over what is known -/
noncomputable def succV : AV → AV
  | .a (.int a) => .int (a + 1)
  | v => v
theorem comp_succ (n : Nat) {ρ : En} {σ : St} {k : Nat} {D : List (Int × AV)} (h : ρ 26 = some (.loc k)) (hk : σ.get k = some (.dict D)) : ev (n + 8) ρ (.comp (.bin .add (.var 12) (.int 1)) (.one 12) (.var 26) none []) σ = newL ((D.map fun p => p.1 + 1).map .int) σ := by
  have hs : itemsOf (ev (n + 7) ρ) (.var 26) σ = some (D.map fun kv => .int kv.1, some k, σ) := items_dict (ev_var h) hk
  have hc := compl_filter (tg := .one 12) (w := some k) (σ₀ := σ) (σ := σ) (c := tsto (ev (n + 7)) none) (el := fun ρ' => ev (n + 7) ρ' (.bin .add (.var 12) (.int 1))) (J := fun _ => True) (p := fun _ => true) (g := succV) (by simp [chk]) (D.map fun kv => .int kv.1) (ρ := restr [] ρ) (fun v hv ρ _ => by
    refine el_EA (List.mem_map.mp hv) fun q _ hq1 => ?_; subst hq1
    refine ⟨upd ρ 12 (some (.int q.1)), rfl, trivial, rfl, fun _ => ?_⟩
    exact ev_add (ev_var rfl) ev_int) trivial
  rw [filter_true, List.map_map] at hc
  have hm : (D.map (succV ∘ fun kv => AV.int kv.1)) = (D.map fun p => p.1 + 1).map .int := by rw [List.map_map]; rfl
  rw [hm] at hc
  exact ev_comp hs hc

noncomputable def geP (z : Int) : AV → Bool
  | .a (.int a) => decide (z ≤ a)
  | _ => false
noncomputable def itemV (D : List (Int × AV)) : AV → AV
  | .a (.int a) => .tup [.int a, match dget D a with | some (.a x) => x | _ => .none]
  | v => v
theorem comp_rest (n : Nat) {ρ : En} {σ : St} {k : Nat} {K : Kn} {spot m : Int} (h : ρ 26 = some (.loc k)) (h32 : ρ 32 = some (.int spot)) (h33 : ρ 33 = some (.int m)) (hk : σ.get k = some (.dict (K.map kv))) (hn : (K.map (·.1)).Nodup) :
    ev (n + 8) ρ (.comp (.tup [.var 12, .idx (.var 26) (.var 12)]) (.one 12) (.var 26) (some (.cmp (.var 12) .ge (.bin .add (.var 32) (.var 33)))) [26, 32, 33]) σ = newL ((K.filter fun p => decide (spot + m ≤ p.1)).map fun p => .tup [.int p.1, .int p.2.toNat]) σ := by
  have hs : itemsOf (ev (n + 7) ρ) (.var 26) σ = some ((K.map kv).map fun kv => .int kv.1, some k, σ) := items_dict (ev_var h) hk
  have hc := compl_filter (tg := .one 12) (w := some k) (σ₀ := σ) (σ := σ) (c := tsto (ev (n + 7)) (some (.cmp (.var 12) .ge (.bin .add (.var 32) (.var 33))))) (el := fun ρ' => ev (n + 7) ρ' (.tup [.var 12, .idx (.var 26) (.var 12)])) (J := fun ρ => ρ 26 = some (.loc k) ∧ ρ 32 = some (.int spot) ∧ ρ 33 = some (.int m)) (p := geP (spot + m)) (g := itemV (K.map kv)) (by simp [chk]) ((K.map kv).map fun kv => .int kv.1) (ρ := restr [26, 32, 33] ρ) (fun v hv ρ hJ => by
    rw [List.map_map] at hv
    refine el_EA (List.mem_map.mp hv) fun hq2 ha hq3 => ?_; obtain ⟨a, u⟩ := hq2; subst hq3
    refine el_AA hJ fun j1 j2 j3 => ?_; clear hJ
    generalize hρ : upd ρ 12 (some (.int a)) = ρ₁
    have g26 : ρ₁ 26 = some (.loc k) := by rw [← hρ]; exact j1
    have g32 : ρ₁ 32 = some (.int spot) := by rw [← hρ]; exact j2
    have g33 : ρ₁ 33 = some (.int m) := by rw [← hρ]; exact j3
    have g12 : ρ₁ 12 = some (.int a) := by rw [← hρ]; rfl
    have hd : dget (K.map kv) a = some (.int u.toNat) := by rw [dget_kv, (kget_mem hn).mpr ha]; rfl
    refine ⟨ρ₁, by rw [← hρ]; rfl, ⟨g26, g32, g33⟩, ?_, fun _ => ?_⟩
    · have e : ev (n + 7) ρ₁ (.cmp (.var 12) .ge (.bin .add (.var 32) (.var 33))) σ = some (.bool (decide (spot + m ≤ a)), σ) := ev_cmp (ev_var g12) (ev_add (ev_var g32) (ev_var g33)) rfl
      simp only [tsto, tst, e, Option.bind_some, tru]
      rfl
    · have e : ev (n + 6) ρ₁ (.idx (.var 26) (.var 12)) σ = some (.int u.toNat, σ) := by
        rw [ev]; simp only [ev_var (n := n + 4) g26, ev_var (n := n + 4) g12, Option.bind_some, aidx, hk, hd, AV.by, St.on, no]
      refine (ev_tup2 (ev_var g12) e).trans ?_
      show _ = some (itemV (K.map kv) (.int a), σ)
      unfold itemV
      dsimp only
      rw [hd]) ⟨by simp [restr, h], by simp [restr, h32], by simp [restr, h33]⟩
  have hm : (((K.map kv).map fun kv => AV.int kv.1).filter (geP (spot + m))).map (itemV (K.map kv)) = (K.filter fun p => decide (spot + m ≤ p.1)).map fun p => .tup [.int p.1, .int p.2.toNat] := by
    rw [List.map_map, List.filter_map, List.map_map]
    have hfe : (K.filter (geP (spot + m) ∘ ((fun kv => AV.int kv.1) ∘ kv))) = K.filter fun p => decide (spot + m ≤ p.1) := rfl
    rw [hfe]
    apply List.map_congr_left
    rintro ⟨a, u⟩ hp
    have ha := (List.mem_filter.mp hp).1
    have hd : dget (K.map kv) a = some (.int u.toNat) := by rw [dget_kv, (kget_mem hn).mpr ha]; rfl
    show itemV (K.map kv) (.int a) = _
    unfold itemV
    dsimp only
    rw [hd]
  rw [hm] at hc
  exact ev_comp hs hc

theorem mem_rangeL {v : AV} : ∀ (n : Nat) (a : Int), v ∈ rangeL a 1 n ↔ ∃ i : Nat, i < n ∧ v = .int (a + i)
  | 0, a => by simp [rangeL]
  | n + 1, a => by
    rw [rangeL, List.mem_cons, mem_rangeL n (a + 1)]
    constructor
    · rintro (h | ⟨i, hi, h⟩)
      · exact ⟨0, by lia, by rw [h]; simp⟩
      · exact ⟨i + 1, by omega, by rw [h, show a + 1 + (i : Int) = a + ((i + 1 : Nat) : Int) from by lia]⟩
    · rintro ⟨i, hi, h⟩
      cases i with
      | zero => left; rw [h]; simp
      | succ i => right; exact ⟨i, by lia, by rw [h, show a + 1 + (i : Int) = a + ((i + 1 : Nat) : Int) from by lia]⟩

noncomputable def lookV (D : List (Int × AV)) : AV → AV
  | .a (.int a) => (dget D a).getD .none
  | v => v
theorem range_vals {K : Kn} (hn : (K.map (·.1)).Nodup) : ∀ (d : List UInt8) (a : Int), (∀ i : Nat, ∀ u, d[i]? = some u → (a + i, u) ∈ K) → (rangeL a 1 d.length).map (lookV (K.map kv)) = (d.map fun u => (u.toNat : Int)).map .int
  | [], a, _ => rfl
  | u :: d, a, h => by
    have h0 := h 0 u rfl
    have ih := range_vals hn d (a + 1) fun i v hv => by
      have := h (i + 1) v (by simpa using hv)
      rw [show a + 1 + (i : Int) = a + ((i + 1 : Nat) : Int) from by lia]; exact this
    rw [List.length_cons, rangeL, List.map_cons, ih, List.map_cons, List.map_cons]
    congr 1
    show (dget (K.map kv) a).getD .none = _
    rw [dget_kv, (kget_mem hn).mpr (by simpa using h0)]; rfl

theorem comp_found (n : Nat) {ρ : En} {σ : St} {k : Nat} {K : Kn} {spot : Int} {m : Nat} (h : ρ 26 = some (.loc k)) (h32 : ρ 32 = some (.int spot)) (h33 : ρ 33 = some (.int m)) (hk : σ.get k = some (.dict (K.map kv))) (hs0 : 0 ≤ spot) (hs1 : spot + m < 1000)
    (hin : ∀ j : Nat, j < m → spot + j ∈ K.map (·.1)) :
    ev (n + 8) ρ (.comp (.idx (.var 26) (.var 12)) (.one 12) (.range [.var 32, .bin .add (.var 32) (.var 33)]) none [26]) σ = newL ((rangeL spot 1 m).map (lookV (K.map kv))) σ := by
  have hs : itemsOf (ev (n + 7) ρ) (.range [.var 32, .bin .add (.var 32) (.var 33)]) σ = some (rangeL spot 1 m, none, σ) := by
    have s1 : small spot = true := by unfold small; simp; omega
    have s2 : small (spot + m) = true := by unfold small; simp; omega
    unfold itemsOf
    simp only [evs, ev_var (n := n + 6) h32, ev_add (n := n + 6) (ev_var h32) (ev_var h33), Option.bind_some, intsOf, Option.map_some, rangeOf, s1, s2, Bool.and_true, if_true, AV.by, no]
    congr 3
    lia
  have hc := compl_filter (tg := .one 12) (w := none) (σ₀ := σ) (σ := σ) (c := tsto (ev (n + 7)) none) (el := fun ρ' => ev (n + 7) ρ' (.idx (.var 26) (.var 12))) (J := fun ρ => ρ 26 = some (.loc k)) (p := fun _ => true) (g := lookV (K.map kv)) (by simp [chk]) (rangeL spot 1 m) (ρ := restr [26] ρ) (fun v hv ρ hJ => by
    refine el_EA ((mem_rangeL _ _).mp hv) fun i hi hq4 => ?_; subst hq4
    have g26 : upd ρ 12 (some (.int (spot + i))) 26 = some (.loc k) := hJ
    refine ⟨upd ρ 12 (some (.int (spot + i))), rfl, g26, rfl, fun _ => ?_⟩
    have hd : (dget (K.map kv) (spot + i)).isSome := by
      cases hd : dget (K.map kv) (spot + i) with
      | none => exact absurd (hin i hi) (by rw [← kv_keys]; exact dget_none.mp hd)
      | some v => rfl
    refine el_E (Option.isSome_iff_exists.mp hd) fun v hv => ?_
    rw [ev]
    simp only [ev_var (n := n + 5) g26, ev_var (n := n + 5) (x := 12) (ρ := upd ρ 12 (some (.int (spot + i)))) (v := .int (spot + i)) rfl, Option.bind_some, aidx, hk, hv, lookV, Option.getD_some, AV.by, St.on, no]) (by simp [restr, h])
  rw [filter_true] at hc
  exact ev_comp hs hc

theorem aeq_refl {σ : St} {v : AV} (h : v = .none ∨ (∃ i, v = .int i) ∨ (∃ d, v = .bytes d) ∨ (∃ a b, v = .tup [.int a, .int b])) : aeq σ v v = some true := by
  rcases h with rfl | ⟨i, rfl⟩ | ⟨d, rfl⟩ | ⟨a, b, rfl⟩
  · simp [aeq, AV.by, St.on, no, eqB, eqN]
  · simp [aeq, kinV, kin, AV.by, St.on, no, eqB, eqN]
  · simp [aeq, kinV, kin, AV.by, St.on, no, eqB, eqN]
  · simp [aeq, kinV, kinT, kin, AV.by, St.on, no, eqB, eqN]
theorem aeq_bool {σ : St} {x y : Bool} : aeq σ (.bool x) (.bool y) = some (decide (x = y)) := rfl

theorem run_pieces (n : Nat) {σ : St} {b q : Nat} {seed : Int} {xs : List Int} (wf : WfS σ) (B : Box σ b q seed xs) :
    ∃ σ', runF (n + 40) 16 [.loc b] σ = some (.bool true, σ') ∧ WfS σ' ∧ Fr [b, q] σ σ' ∧ ∃ seed' xs', Box σ' b q seed' xs' := by
  have hbl := get_lt wf B.bx
  have hql := get_lt wf B.qx
  generalize hρ0 : upd noEn 24 (some (.loc b)) = ρ0
  have a24 : ρ0 24 = some (.loc b) := by rw [← hρ0]; rfl
  -- the start
  refine el_EA (ev_newL (n := n + 37) (ρ := ρ0) wf) fun σ1 e1 O1 => ?_
  have fr2 : Fr [] σ (σ1.alloc (.dict [])) := O1.fr.trans fr_alloc
  have g2 : (σ1.alloc (.dict [])).get σ1.next = some (.dict (([] : Kn).map kv)) := by rw [get_alloc, if_pos rfl]; rfl
  have hl1 := O1.lt
  have W2 : PW σ (σ1.alloc (.dict [])) b q σ1.next σ.next (([] : Kn).map kv) (([] : List Pc).map pc) :=
    ⟨fr2.wf wf, ⟨seed, xs, B.keep (fr2.get hbl (by simp)) (fr2.get hql (by simp))⟩, g2, by rw [get_alloc, if_neg (by lia)]; exact O1.get, by lia, by lia, fr2.mono (by simp)⟩
  have s1 : ex (n + 40) (.setT [0, 26] (.tup [.list [], .dict0])) ρ0 σ = some (.next, upd (upd ρ0 0 (some (.loc σ.next))) 26 (some (.loc σ1.next)), σ1.alloc (.dict [])) :=
    ex_setT (ev_tup2 e1 (by rw [ev])) bindT_pair
  have hkn : σ.next ≤ σ1.next := O1.fr.le
  generalize hk : σ1.next = k at W2 s1 hkn
  generalize σ1.alloc (.dict []) = σ2 at W2 s1
  generalize hρ1 : upd (upd ρ0 0 (some (.loc σ.next))) 26 (some (.loc k)) = ρ1 at s1
  have b24 : ρ1 24 = some (.loc b) := by rw [← hρ1]; exact a24
  have b0 : ρ1 0 = some (.loc σ.next) := by rw [← hρ1]; rfl
  have b26 : ρ1 26 = some (.loc k) := by rw [← hρ1]; rfl
  -- the turns
  refine el_EEAAAAA (ev_take (n + 25) (w := 5) W2 b24 (by lia)) fun r σ3 e3 r0 r1 W3 f3 nx3 => ?_
  have hit : itemsOf (ev (n + 39) ρ1) (.range [.bin .add (.int 3) (.call 13 [.var 24, .int 5])]) σ2 = some (rangeL 0 1 (3 + r).toNat, none, σ3) := by
    have hsm : small (3 + r) = true := by unfold small; simp; lia
    have e : ev (n + 39) ρ1 (.bin .add (.int 3) (.call 13 [.var 24, .int 5])) σ2 = some (.int (3 + r), σ3) := ev_add ev_int e3
    unfold itemsOf
    simp only [evs, e, Option.bind_some, intsOf, Option.map_some, rangeOf, hsm, if_true, AV.by, no]
  let J : List AV → En → St → Prop := fun rest ρ τ => ρ 24 = some (.loc b) ∧ ρ 26 = some (.loc k) ∧ ∃ l P K, ρ 0 = some (.loc l) ∧ PW σ τ b q k l (K.map kv) (P.map pc) ∧ PInv P K ∧ K.length + 4 * rest.length ≤ 28
  have hstep : ∀ (x : AV) (rest : List AV) (ρ : En) (τ : St), J (x :: rest) ρ τ → ∃ ρ₁ ρ₂ τ₂, bindT (.one 27) (id x) ρ = some ρ₁ ∧ exs (ex (n + 39)) pcBody ρ₁ τ = some (.next, ρ₂, τ₂) ∧ chk none σ3 τ₂ = true ∧ J rest ρ₂ τ₂ := by
    rintro x rest ρ τ ⟨h24, h26, l, P, K, h0, W, I, hl⟩
    rw [List.length_cons] at hl
    refine el_EEEEEAA (pc_turn (n + 9) (ρ := upd ρ 27 (some x)) h24 h0 h26 W I (by lia)) fun ρ' σ' l' P' K' e g24 hq5 => ?_; refine el_AAAA hq5 fun g0 g26 W' I' hl' => ?_; clear hq5
    exact ⟨upd ρ 27 (some x), ρ', σ', rfl, e, rfl, g24, g26, l', P', K', g0, W', I', by lia⟩
  refine el_EEAAAEE (forl_inv hstep (rangeL 0 1 (3 + r).toNat) (ρ := ρ1) (σ := σ3) ⟨b24, b26, σ.next, [], [], b0, W3, ⟨.nil, by simp, fun a u => by simp [has_nil], by simp⟩, by rw [rangeL_length]; simp; lia⟩) fun ρ2 σ4 e4 c24 c26 l P hq6 => ?_; refine el_EAAA hq6 fun K c0 W4 I hKl => ?_; clear hq6
  rw [List.map_id] at e4
  simp only [List.length_nil, Nat.mul_zero, Nat.add_zero] at hKl
  have s2 : ex (n + 40) (.forT (.one 27) (.range [.bin .add (.int 3) (.call 13 [.var 24, .int 5])]) pcBody) ρ1 σ2 = some (.next, ρ2, σ4) := (ex_for hit).trans e4
  -- covered, highest
  refine el_A I.tot fun hPl hPt => ?_
  refine el_EEA (run_cov (n + 22) W4.wf W4.lg (by lia)) fun r5 σ5 e5 O5 => ?_
  have W5 := W4.fresh O5.fr
  refine el_EEEAAAA (run_pairs (n + 22) W5.wf W5.kg (by rw [kv_keys]; exact I.nod) (by simp; lia)) fun r6 σ6 R6 e6 O6 nR6 hR6 _ => ?_
  have W6 := W5.fresh O6.fr
  have hR6' : R6 = P.map covS := nrmS_uniq nR6 (cov_nrm I.nrm) fun a => by
    rw [hR6, cov_mem, kv_keys]
    simp only [I.has]
    constructor
    · intro h
      refine el_EA (List.mem_map.mp h) fun hq7 hp hq8 => ?_; obtain ⟨x, u⟩ := hq7; subst hq8
      exact ⟨u, hp⟩
    · rintro ⟨u, h⟩
      exact List.mem_map.mpr ⟨_, h, rfl⟩
  subst hR6'
  have g5 : σ6.get r5 = some (.list ((P.map covS).map sp)) := by rw [← covF_sp]; exact (O6.fr.get O5.lt (by simp)).trans O5.get
  refine el_A (newL_out (xs := ((K.map kv).map fun p => p.1 + 1).map .int) Fr.refl W6.wf (by simp; lia)) fun n7 O7 => ?_
  generalize hσ7 : σ6.alloc (.list (((K.map kv).map fun p => p.1 + 1).map .int)) = σ7 at n7 O7
  refine el_A (newL_out (σ := σ7) (xs := [.int 0]) Fr.refl O7.wf (by simp)) fun n8 O8 => ?_
  generalize hσ8 : σ7.alloc (.list [.int 0]) = σ8 at n8 O8
  refine el_A (newL_out (σ := σ8) (xs := ((K.map kv).map fun p => p.1 + 1).map .int ++ [.int 0]) Fr.refl O8.wf (by simp; lia)) fun n9 O9 => ?_
  generalize hσ9 : σ8.alloc (.list (((K.map kv).map fun p => p.1 + 1).map .int ++ [.int 0])) = σ9 at n9 O9
  have W9 := ((W6.fresh O7.fr).fresh O8.fr).fresh O9.fr
  refine el_EEA (high_max I) fun i is his hmax => ?_
  have hmx : ev (n + 37) ρ2 (.bif .max [.bin .add (.comp (.bin .add (.var 12) (.int 1)) (.one 12) (.var 26) none []) (.list [.int 0])]) σ6 = some (.int (highF P), σ9) := by
    refine (ev_bif1 (v := .loc σ8.next) (σ₁ := σ9) ((ev_bin (v := .loc σ6.next) (σ₁ := σ7) (w := .loc σ7.next) (σ₂ := σ8) ((comp_succ (n + 27) c26 W6.kg).trans n7) ?_).trans ?_)).trans ?_
    · rw [ev]; simp only [evs, ev_int (n := n + 33), Option.bind_some]; exact n8
    · simp only [abin, O8.get, (O8.fr.get O7.lt (by simp)).trans O7.get, AV.by, St.on, int2, no]; exact n9
    · have hints : intsOf (((K.map kv).map fun p => p.1 + 1).map .int ++ [.int 0]) = some (i :: is) := by
        have := intsOf_map (((K.map kv).map fun p => p.1 + 1) ++ [0])
        have hms : ((K.map kv).map fun p => p.1 + 1) = K.map fun p => p.1 + 1 := by rw [List.map_map]; rfl
        rw [hms] at this ⊢
        rw [List.map_append, his] at this
        exact this
      simp only [abif, O9.get, hints, AV.by, St.on, args, no, no2, int2, Option.bind_some, maxL, Option.map_some, hmax]
  have s3 : ex (n + 40) (.ite (.or (.cmp (.call 3 [.var 0]) .ne (.call 15 [.var 26])) (.cmp (.call 2 [.var 0]) .ne (.bif .max [.bin .add (.comp (.bin .add (.var 12) (.int 1)) (.one 12) (.var 26) none []) (.list [.int 0])])))
      [
        .ret (.bool false)]
      []) ρ2 σ4 = some (.next, ρ2, σ9) := by
    refine (ex_ite_f (σ' := σ9) ((ev_or_f (σ' := σ6) (ev_cmp ((ev_call1 c0).trans e5) ((ev_call1 c26).trans e6) ?_)).trans (ev_cmp ((ev_call1 c0).trans (run_high (n + 22) W6.lg)) hmx ?_))).trans exs_nil
    · simp [acmp, aeq_sp g5 O6.get, AV.by, St.on, int2, no]
    · simp only [acmp, aeq_refl (.inr (.inl ⟨_, rfl⟩)), AV.by, St.on, int2, no]; rfl
  -- the spot
  refine el_EEAAAAA (ev_take (n + 26) (w := 18) W9 c24 (by lia)) fun spot σ10 e10 q0 q1 W10 f10 nx10 => ?_
  have s4 := ex_set (x := 32) e10
  generalize hρ3 : upd ρ2 32 (some (.int spot)) = ρ3 at s4
  have d24 : ρ3 24 = some (.loc b) := by rw [← hρ3]; exact c24
  have d26 : ρ3 26 = some (.loc k) := by rw [← hρ3]; exact c26
  have d0 : ρ3 0 = some (.loc l) := by rw [← hρ3]; exact c0
  have d32 : ρ3 32 = some (.int spot) := by rw [← hρ3]; rfl
  have s5 : ex (n + 40) (.ite (.cmp (.call 4 [.var 0, .var 32]) .ne (.met .get (.var 26) [.var 32])) [.ret (.bool false)] []) ρ3 σ10 = some (.next, ρ3, σ10) := by
    refine (ex_ite_f (σ' := σ10) (ev_cmp ((ev_call2 d0 d32).trans (run_oct (n + 23) W10.lg)) (ev_get d26 W10.kg (ev_var d32)) ?_)).trans exs_nil
    rw [← oct_known I]
    have : octF spot P = .none ∨ (∃ i, octF spot P = .int i) ∨ (∃ d, octF spot P = .bytes d) ∨ (∃ a b, octF spot P = .tup [.int a, .int b]) := by
      rcases oct_eq (a := spot) I.nrm with ⟨u, e, -⟩ | ⟨e, -⟩
      · exact .inr (.inl ⟨_, e⟩)
      · exact .inl e
    simp only [acmp, aeq_refl this, AV.by, St.on, int2, no]; rfl
  -- how many
  have s6 : ex (n + 40) (.set 33 (.int 0)) ρ3 σ10 = some (.next, upd ρ3 33 (some (.int ((0 : Nat) : Int))), σ10) := ex_set ev_int
  refine el_EEAAAAA (whl_known (n + 29) (spot := spot) W10.kg (fun p hp => (I.rng p hp).2) turns 0 (ρ := upd ρ3 33 (some (.int ((0 : Nat) : Int)))) d26 d32 rfl (by simp; lia) (by unfold turns; lia)) fun ρ4 m e7 h33 hfrm _ hall hno => ?_
  have s7 : ex (n + 40) (.whl (.cmp (.bin .add (.var 32) (.var 33)) .isin (.var 26)) [.set 33 (.bin .add (.var 33) (.int 1))]) (upd ρ3 33 (some (.int ((0 : Nat) : Int)))) σ10 = some (.next, ρ4, σ10) := by
    rw [ex]; exact e7
  have h26 : ρ4 26 = some (.loc k) := (hfrm 26 (by lia)).trans d26
  have h0 : ρ4 0 = some (.loc l) := (hfrm 0 (by lia)).trans d0
  have h32 : ρ4 32 = some (.int spot) := (hfrm 32 (by lia)).trans d32
  -- what is taken
  refine el_EEA (run_taken (n + 24) (a := spot) W10.wf W10.lg (by lia)) fun r8 σ11 e8 O11 => ?_
  refine el_EAAAAA (take_char (a := spot) I.nrm) fun ee he1 he2 he3 he4 he5 he6 => ?_
  generalize (P.foldl (takeStep spot) ([], [])) = tk at e8 O11 he3 he4 he5 he6
  obtain ⟨fd, lf⟩ := tk
  dsimp only at e8 O11 he3 he4 he5 he6
  have W11 := W10.fresh O11.fr
  have hkeys : ∀ a, a ∈ K.map (·.1) ↔ ∃ u, Has P a u := by
    intro a
    simp only [I.has]
    constructor
    · intro h
      refine el_EA (List.mem_map.mp h) fun hq9 hp hq10 => ?_; obtain ⟨x, u⟩ := hq9; subst hq10
      exact ⟨u, hp⟩
    · rintro ⟨u, h⟩
      exact List.mem_map.mpr ⟨_, h, rfl⟩
  have hm : (fd.length : Int) = m := by
    rcases Int.lt_trichotomy (fd.length : Int) m with h | h | h
    · refine el_E ((hkeys _).mp (hall fd.length (by lia) (by omega))) fun u hu => ?_
      rw [show spot + (fd.length : Int) = ee from by lia] at hu
      exact absurd hu (he2 u)
    · exact h
    · exfalso
      apply hno
      rw [hkeys]
      have hlt : m < fd.length := by lia
      exact ⟨fd[m], he4 m _ (by simp [hlt])⟩
  have hm' : m = fd.length := by lia
  subst hm'
  have s8 := ex_setT (xs := [3, 13]) ((ev_call2 (n := n + 37) h0 h32).trans e8) bindT_pair
  generalize hρ5 : upd (upd ρ4 3 (some (.a (.bytes fd)))) 13 (some (.a (.loc r8))) = ρ5 at s8
  have i26 : ρ5 26 = some (.loc k) := by rw [← hρ5]; exact h26
  have i32 : ρ5 32 = some (.int spot) := by rw [← hρ5]; exact h32
  have i33 : ρ5 33 = some (.int fd.length) := by rw [← hρ5]; exact h33
  have i3 : ρ5 3 = some (.bytes fd) := by rw [← hρ5]; rfl
  have i13 : ρ5 13 = some (.loc r8) := by rw [← hρ5]; rfl
  -- the rest
  generalize hK2 : (K.filter fun p => decide (spot + (fd.length : Int) ≤ p.1)) = K2
  have hK2l : K2.length ≤ K.length := by rw [← hK2]; exact List.length_filter_le _ _
  have hK2n : (K2.map (·.1)).Nodup := by
    rw [← hK2]
    exact List.Nodup.sublist (List.Sublist.map _ List.filter_sublist) I.nod
  refine el_A (newL_out (xs := K2.map fun p => .tup [.int p.1, .int p.2.toNat]) Fr.refl W11.wf (by simp; lia)) fun n12 O12 => ?_
  generalize hσ12 : σ11.alloc (.list (K2.map fun p => .tup [.int p.1, .int p.2.toNat])) = σ12 at n12 O12
  have hrest : ev (n + 39) ρ5 (.bif .dict [.comp (.tup [.var 12, .idx (.var 26) (.var 12)]) (.one 12) (.var 26) (some (.cmp (.var 12) .ge (.bin .add (.var 32) (.var 33)))) [26, 32, 33]]) σ11 = some (.loc σ12.next, σ12.alloc (.dict (K2.map kv))) := by
    have hcr := comp_rest (n + 30) i26 i32 i33 W11.kg I.nod
    rw [hK2] at hcr
    refine (ev_bif1 (hcr.trans n12)).trans ?_
    have hp := prsOf_map (K2.map fun p => (p.1, At.int p.2.toNat))
    rw [List.map_map] at hp
    have hp' : prsOf (K2.map fun p => .tup [.int p.1, .int p.2.toNat]) = some (K2.map fun p => (p.1, At.int p.2.toNat)) := hp
    simp only [abif, O12.get, hp', Option.map_some, AV.by, St.on, args, no, no2, int2]
    rw [fold_dput]
    · rw [List.nil_append, List.map_map]; rfl
    · rw [List.map_nil, List.nil_append, List.map_map]; exact hK2n
  have fr13 : Fr [] σ12 (σ12.alloc (.dict (K2.map kv))) := fr_alloc
  have g13 : (σ12.alloc (.dict (K2.map kv))).get σ12.next = some (.dict (K2.map kv)) := by rw [get_alloc, if_pos rfl]
  have hl13 : σ12.next < (σ12.alloc (.dict (K2.map kv))).next := Nat.lt_succ_self _
  have W13 := (W11.fresh O12.fr).fresh fr13
  have gr13 : (σ12.alloc (.dict (K2.map kv))).get r8 = some (.list (lf.map pc)) := (fr13.get (by have := O12.fr.le; have := O11.lt; lia) (by simp)).trans ((O12.fr.get O11.lt (by simp)).trans O11.get)
  have hr13 : r8 < (σ12.alloc (.dict (K2.map kv))).next := by have := O12.fr.le; have := O11.lt; lia
  have s9 := ex_set (x := 34) hrest
  generalize hk2 : σ12.next = k2 at s9 g13 hl13
  generalize σ12.alloc (.dict (K2.map kv)) = σ13 at s9 g13 W13 gr13 hr13 hl13
  generalize hρ6 : upd ρ5 34 (some (.loc k2)) = ρ6 at s9
  have j26 : ρ6 26 = some (.loc k) := by rw [← hρ6]; exact i26
  have j32 : ρ6 32 = some (.int spot) := by rw [← hρ6]; exact i32
  have j33 : ρ6 33 = some (.int fd.length) := by rw [← hρ6]; exact i33
  have j3 : ρ6 3 = some (.bytes fd) := by rw [← hρ6]; exact i3
  have j13 : ρ6 13 = some (.loc r8) := by rw [← hρ6]; exact i13
  have j34 : ρ6 34 = some (.loc k2) := by rw [← hρ6]; rfl
  -- the answer
  have hfdl : fd.length ≤ 100 := by
    rcases Nat.lt_or_ge 100 fd.length with h | h
    · have hh := hall 100 (by lia) h
      refine el_EA (List.mem_map.mp hh) fun p hp hpe => ?_
      have := I.rng p hp
      lia
    · exact h
  have hvals := range_vals I.nod fd spot fun i u hu => (I.has _ _).mp (he4 i u hu)
  refine el_A (newL_out (xs := (rangeL spot 1 fd.length).map (lookV (K.map kv))) Fr.refl W13.wf (by simp [rangeL_length]; lia)) fun n14 O14 => ?_
  have hcf := (comp_found (n + 28) j26 j32 j33 W13.kg q0 (by lia) (fun j hj => hall j (by lia) hj)).trans n14
  generalize hσ14 : σ13.alloc (.list ((rangeL spot 1 fd.length).map (lookV (K.map kv)))) = σ14 at n14 O14 hcf
  have hbt : ev (n + 37) ρ6 (.bif .bytes [.comp (.idx (.var 26) (.var 12)) (.one 12) (.range [.var 32, .bin .add (.var 32) (.var 33)]) none [26]]) σ13 = some (.bytes fd, σ14) := by
    refine (ev_bif1 hcf).trans ?_
    simp only [abif, O14.get, hvals, intsOf_map, Option.bind_some, octs_nat, Option.map_some, AV.by, St.on, args, no, no2, int2]
  have W14 := W13.fresh O14.fr
  have g14 : σ14.get k2 = some (.dict (K2.map kv)) := (O14.fr.get hl13 (by simp)).trans g13
  refine el_EEEAAA (run_rows (n + 22) W14.wf g14 hK2n (by lia)) fun r15 σ15 R15 e15 O15 nR15 hR15 => ?_
  have W15 := W14.fresh O15.fr
  have hRl : R15 = lf := nrm_uniq nR15 he6 fun a u => by
    rw [hR15, he5, I.has, ← hK2, List.mem_filter, decide_eq_true_eq]
    dsimp only
    rw [show spot + (fd.length : Int) = ee from by lia]
  subst hRl
  refine ⟨σ15, runF_ret (d := f16) (ρ := ρ0) (ρ' := ρ6) rfl (by rw [← hρ0]; rfl) ?_, W15.wf, W15.fr.mono fun x hx h => by simp at h ⊢; lia, W15.box⟩
  refine (exs_next (f := ex (n + 40)) s1).trans ((exs_next (f := ex (n + 40)) s2).trans ((exs_next (f := ex (n + 40)) s3).trans ((exs_next (f := ex (n + 40)) s4).trans ((exs_next (f := ex (n + 40)) s5).trans ((exs_next (f := ex (n + 40)) s6).trans ((exs_next (f := ex (n + 40)) s7).trans ((exs_next (f := ex (n + 40)) s8).trans ((exs_next (f := ex (n + 40)) s9).trans (exs_ret (f := ex (n + 40)) (ex_ret ?_))))))))))
  refine (ev_and_t (σ' := σ14) (ev_cmp (ev_var j3) hbt ?_)).trans (ev_cmp (ev_var j13) ((ev_call1 j34).trans e15) ?_)
  · simp only [acmp, aeq_refl (.inr (.inr (.inl ⟨_, rfl⟩))), AV.by, St.on, int2, no]
  · simp only [acmp, AV.by, St.on, int2, no]
    exact aeq_pc ((O15.fr.get (by have := O14.fr.le; lia) (by simp)).trans ((O14.fr.get hr13 (by simp)).trans gr13)) O15.get
end Mine

/-! LawAA -/
namespace Mine

noncomputable def kb (a : Int) : Int × AV := (a, .bool true)
theorem kb_keys (K : List Int) : (K.map kb).map (·.1) = K := by
  rw [List.map_map]
  have : ((fun x : Int × AV => x.1) ∘ kb) = id := rfl
  rw [this, List.map_id]
theorem kb_get (K : List Int) (a : Int) : (dget (K.map kb) a).isSome = decide (a ∈ K) := by
  cases h : dget (K.map kb) a with
  | none =>
    have := dget_none.mp h
    rw [kb_keys] at this
    simp [this]
  | some v =>
    have : a ∈ K := by
      have h2 : ¬ dget (K.map kb) a = none := by rw [h]; simp
      rw [dget_none, kb_keys] at h2
      exact Decidable.not_not.mp h2
    simp [this]
theorem kb_put (K : List Int) (a : Int) : dput (K.map kb) a (.bool true) = (if a ∈ K then K else K ++ [a]).map kb := by
  by_cases h : a ∈ K
  · rw [if_pos h]
    unfold dput
    rw [if_pos]
    · rw [List.map_map]
      apply List.map_congr_left
      intro x hx
      show (if (kb x).1 = a then ((kb x).1, AV.bool true) else kb x) = kb x
      split <;> rfl
    · rw [List.any_eq_true]
      exact ⟨kb a, List.mem_map.mpr ⟨a, h, rfl⟩, by simp [kb]⟩
  · rw [if_neg h, dput_new (by rw [kb_keys]; exact h), List.map_append]; rfl
theorem kb_del (K : List Int) (a : Int) : ddel (K.map kb) a = (K.filter fun x => decide (x ≠ a)).map kb := by
  unfold ddel
  rw [List.filter_map]; rfl

noncomputable def rangeI (a : Int) : Nat → List Int
  | 0 => []
  | n + 1 => a :: rangeI (a + 1) n
theorem rangeI_L : ∀ (n : Nat) (a : Int), rangeL a 1 n = (rangeI a n).map .int
  | 0, _ => rfl
  | n + 1, a => by rw [rangeL, rangeI, List.map_cons, rangeI_L n]
theorem rangeI_len : ∀ (n : Nat) (a : Int), (rangeI a n).length = n
  | 0, _ => rfl
  | n + 1, a => by rw [rangeI, List.length_cons, rangeI_len n]
theorem mem_rangeI {x : Int} : ∀ (n : Nat) (a : Int), x ∈ rangeI a n ↔ a ≤ x ∧ x < a + n
  | 0, a => by simp [rangeI]
  | n + 1, a => by rw [rangeI, List.mem_cons, mem_rangeI n]; lia

structure SInv (S : List Sn) (K : List Int) : Prop where
  nrm : NrmS S
  nod : K.Nodup
  mem : ∀ a, Mem S a ↔ a ∈ K
  rng : ∀ a ∈ K, 0 ≤ a ∧ a < 26
theorem SInv.len {S : List Sn} {K : List Int} (I : SInv S K) : S.length ≤ 26 := by
  have := nrmS_len (lo := 0) (hi := 26) I.nrm (by lia) fun a h => I.rng a ((I.mem a).mp h)
  lia

noncomputable def kmBody : List Y := [.ite (.var 17) [.setI (.var 26) (.var 12) (.bool true)] [.exp (.met .pop (.var 26) [.var 12, .none])]]

theorem ev_pop {n x k : Nat} {e : X} {ρ : En} {σ : St} {D : List (Int × AV)} {a : Int} (h : ρ x = some (.loc k)) (hk : σ.get k = some (.dict D)) (he : ev (n + 1) ρ e σ = some (.int a, σ)) :
    ∃ v, ev (n + 2) ρ (.met .pop (.var x) [e, .none]) σ = some (v, if (dget D a).isSome then σ.w k (.dict (ddel D a)) else σ) := by
  have hn : ev (n + 1) ρ .none σ = some (.none, σ) := by rw [ev]
  rw [ev, ev_var h]
  cases hd : dget D a with
  | none => exact ⟨.none, by simp [kindOf, hk, AD.isL, evs, he, hn, amet, hd, AV.by, St.on, args, no, no2, popHead, dpop]⟩
  | some v =>
    have hp : σ.put k (.dict (ddel D a)) = some (σ.w k (.dict (ddel D a))) := put_w hk
    exact ⟨v, by simp [kindOf, hk, AD.isL, evs, he, hn, amet, hd, hp, AV.by, St.on, args, no, no2, popHead, dpop]⟩

theorem km_loop (n : Nat) {κ : St} {b q k l : Nat} {L : List AV} {σ : St} {ρ : En} {K : List Int} {lo : Int} {c : Nat} {put : Bool} (W : PW κ σ b q k l (K.map kb) L) (h17 : ρ 17 = some (.bool put)) (h26 : ρ 26 = some (.loc k)) (hn : K.Nodup) (hKl : K.length + c < 1000) :
    ∃ (ρ' : En) (σ' : St) (K' : List Int), forl (.one 12) none σ (exs (ex (n + 12)) kmBody) (rangeL lo 1 c) ρ σ = some (.next, ρ', σ') ∧ (∀ x, x ≠ 12 → ρ' x = ρ x) ∧ PW κ σ' b q k l (K'.map kb) L ∧ K'.Nodup ∧ K'.length ≤ K.length + c ∧
      (∀ a, a ∈ K' ↔ if put then a ∈ K ∨ (lo ≤ a ∧ a < lo + c) else a ∈ K ∧ ¬ (lo ≤ a ∧ a < lo + c)) ∧ Fr [k] σ σ' ∧ σ'.next = σ.next := by
  let J : List Int → En → St → Prop := fun rest ρ' τ => (∀ x, x ≠ 12 → ρ' x = ρ x) ∧ Fr [k] σ τ ∧ τ.next = σ.next ∧ ∃ (R : List Int) (K' : List Int), rangeI lo c = R ++ rest ∧ PW κ τ b q k l (K'.map kb) L ∧ K'.Nodup ∧ K'.length ≤ K.length + R.length ∧
    ∀ a, a ∈ K' ↔ if put then a ∈ K ∨ a ∈ R else a ∈ K ∧ a ∉ R
  have hstep : ∀ (x : Int) (rest : List Int) (ρ' : En) (τ : St), J (x :: rest) ρ' τ → ∃ ρ₁ ρ₂ τ₂, bindT (.one 12) (.int x) ρ' = some ρ₁ ∧ exs (ex (n + 12)) kmBody ρ₁ τ = some (.next, ρ₂, τ₂) ∧ chk none σ τ₂ = true ∧ J rest ρ₂ τ₂ := by
    rintro x rest ρ' τ ⟨hfrm, frt, nxt, R, K', hR, W', hn', hl', hmem⟩
    generalize hρ : upd ρ' 12 (some (.int x)) = ρ₁
    have g17 : ρ₁ 17 = some (.bool put) := by rw [← hρ]; simp [updD, hfrm, h17]
    have g26 : ρ₁ 26 = some (.loc k) := by rw [← hρ]; simp [updD, hfrm, h26]
    have g12 : ρ₁ 12 = some (.int x) := by rw [← hρ]; rfl
    have gf : ∀ y, y ≠ 12 → ρ₁ y = ρ y := by intro y hy; rw [← hρ]; simp [updD, hy, hfrm]
    have hlen : R.length + (rest.length + 1) = c := by
      have := congrArg List.length hR
      rw [rangeI_len] at this
      simpa using this.symm
    cases put with
    | true =>
      have hw : τ.put k (.dict (dput (K'.map kb) x (.bool true))) = some (τ.w k (.dict (dput (K'.map kb) x (.bool true)))) := put_w W'.kg
      have ha : aset (.loc k) (.int x) (.bool true) τ = some (τ.w k (.dict (dput (K'.map kb) x (.bool true)))) := by
        refine (on_d W'.kg).trans ?_
        rw [if_pos (by unfold lim; simp; lia)]
        exact hw
      refine ⟨ρ₁, ρ₁, τ.w k (.dict (dput (K'.map kb) x (.bool true))), by rw [← hρ]; rfl, exs_one ((ex_ite_t (ev_var g17)).trans (exs_one ?_)), rfl, gf, frt.trans (fr_w W'.kg (by simp)), nxt, R ++ [x], if x ∈ K' then K' else K' ++ [x], by rw [hR]; simp, by rw [kb_put]; exact W'.write, ?_, ?_, fun a => ?_⟩
      · have hbt : ev (n + 10) ρ₁ (.bool true) τ = some (.bool true, τ) := by rw [ev]
        rw [ex]
        simp only [hbt, ev_var g26 (n := n + 9), ev_var g12 (n := n + 9), Option.bind_some, ha]
      · split
        · exact hn'
        · rename_i hx
          rw [List.nodup_append]
          refine ⟨hn', by simp, ?_⟩
          intro a ha' c' hc' e
          rw [List.mem_singleton] at hc'
          subst hc'; subst e; exact hx ha'
      · split <;> simp <;> omega
      · have := hmem a
        simp only [if_true] at this ⊢
        split
        · rename_i hx
          rw [this]
          simp only [List.mem_append, List.mem_singleton]
          have hx' := (hmem x).mp hx
          simp only [if_true] at hx'
          constructor
          · rintro (h | h)
            · exact .inl h
            · exact .inr (.inl h)
          · rintro (h | h | h)
            · exact .inl h
            · exact .inr h
            · rw [h]; exact hx'
        · simp only [List.mem_append, List.mem_singleton, this]
          constructor
          · rintro ((h | h) | h)
            · exact .inl h
            · exact .inr (.inl h)
            · exact .inr (.inr h)
          · rintro (h | h | h)
            · exact .inl (.inl h)
            · exact .inl (.inr h)
            · exact .inr h
    | false =>
      refine el_E (ev_pop (n := n + 8) g26 W'.kg (ev_var g12)) fun v e => ?_
      rw [kb_get, kb_del] at e
      have hf : ∀ a, a ∈ (K'.filter fun y => decide (y ≠ x)) ↔ a ∈ K ∧ a ∉ R ++ [x] := by
        intro a
        have := hmem a
        simp only [Bool.false_eq_true, if_false] at this
        simp only [List.mem_filter, decide_eq_true_eq, List.mem_append, List.mem_singleton, not_or, this]
        constructor
        · rintro ⟨⟨h1, h2⟩, h3⟩; exact ⟨h1, h2, h3⟩
        · rintro ⟨h1, h2, h3⟩; exact ⟨⟨h1, h2⟩, h3⟩
      by_cases hx : x ∈ K'
      · rw [decide_eq_true hx, if_pos rfl] at e
        refine ⟨ρ₁, ρ₁, _, by rw [← hρ]; rfl, exs_one ((ex_ite_f (ev_var g17)).trans (exs_one (ex_exp e))), rfl, gf, frt.trans (fr_w W'.kg (by simp)), nxt, R ++ [x], _, by rw [hR]; simp, W'.write, hn'.sublist List.filter_sublist, ?_, fun a => ?_⟩
        · have := List.length_filter_le (fun y => decide (y ≠ x)) K'
          simp only [List.length_append, List.length_singleton]; lia
        · simp only [Bool.false_eq_true, if_false]; exact hf a
      · rw [decide_eq_false hx, if_neg (by simp)] at e
        refine ⟨ρ₁, ρ₁, τ, by rw [← hρ]; rfl, exs_one ((ex_ite_f (ev_var g17)).trans (exs_one (ex_exp e))), rfl, gf, frt, nxt, R ++ [x], K', by rw [hR]; simp, W', hn', by simp; omega, fun a => ?_⟩
        simp only [Bool.false_eq_true, if_false]
        rw [← hf a, List.mem_filter, decide_eq_true_eq]
        constructor
        · intro h; exact ⟨h, fun h' => hx (h' ▸ h)⟩
        · exact fun h => h.1
  refine el_EEAAAAE (forl_inv hstep (rangeI lo c) (ρ := ρ) (σ := σ) ⟨fun _ _ => rfl, Fr.refl, rfl, [], K, by simp, W, hn, by simp, fun a => by simp⟩) fun ρ' σ' e hfrm fr' nx' R hq1 => ?_; refine el_EAAAA hq1 fun K' hR W' hn' hl' hmem => ?_; clear hq1
  rw [List.append_nil] at hR
  have hRl : R.length = c := by rw [← hR, rangeI_len]
  refine ⟨ρ', σ', K', by rw [rangeI_L]; exact e, hfrm, W', hn', by lia, fun a => ?_, fr', nx'⟩
  rw [hmem a, ← hR, mem_rangeI]

noncomputable def spBody : List Y := match f17.body with
  | _ :: .forT _ _ b :: _ => b
  | _ => []

theorem range2 {n : Nat} {ρ : En} {σ : St} {lo hi : Int} (h14 : ρ 14 = some (.int lo)) (h15 : ρ 15 = some (.int hi)) (h0 : -1000 < lo) (h1 : lo < 1000) (h2 : -1000 < hi) (h3 : hi < 1000) : itemsOf (ev (n + 1) ρ) (.range [.var 14, .var 15]) σ = some (rangeL lo 1 (hi - lo).toNat, none, σ) := by
  have s1 : small lo = true := by unfold small; simp; omega
  have s2 : small hi = true := by unfold small; simp; omega
  unfold itemsOf
  simp only [evs, ev_var (n := n) h14, ev_var (n := n) h15, Option.bind_some, intsOf, Option.map_some, rangeOf, s1, s2, Bool.and_true, if_true, AV.by, no]

theorem sp_turn (n : Nat) {κ : St} {b q k l : Nat} {S : List Sn} {K : List Int} {σ : St} {ρ : En} (h24 : ρ 24 = some (.loc b)) (h16 : ρ 16 = some (.loc l)) (h26 : ρ 26 = some (.loc k)) (W : PW κ σ b q k l (K.map kb) (S.map sp)) (I : SInv S K) (hK : K.length < 50) :
    ∃ (ρ' : En) (σ' : St) (l' : Nat) (S' : List Sn) (K' : List Int), exs (ex (n + 30)) spBody ρ σ = some (.next, ρ', σ') ∧ ρ' 24 = some (.loc b) ∧ ρ' 16 = some (.loc l') ∧ ρ' 26 = some (.loc k) ∧ PW κ σ' b q k l' (K'.map kb) (S'.map sp) ∧ SInv S' K' ∧ K'.length ≤ K.length + 6 := by
  have hb : spBody = [
        .setT [14, 17] (.tup [.call 13 [.var 24, .int 20], .cmp (.call 13 [.var 24, .int 3]) .gt (.int 0)]),
        .set 15 (.bin .add (.var 14) (.call 13 [.var 24, .int 7])),
        .set 16 (.ife (.var 17) (.call 6 [.var 16, .var 14, .var 15]) (.call 7 [.var 16, .var 14, .var 15])),
        .forT (.one 12) (.range [.var 14, .var 15]) kmBody,
        .ite (.or (.cmp (.var 16) .ne (.call 15 [.var 26])) (.cmp (.call 10 [.var 16]) .ne (.bif .len [.var 26])))
          [
            .ret (.bool false)]
          []] := rfl
  rw [hb]
  refine el_EEAAAAA (ev_take (n + 15) (w := 20) W h24 (by lia)) fun lo σ1 e1 lo0 lo1 W1 f1 nx1 => ?_
  refine el_EEAAAAA (ev_take (n + 14) (w := 3) W1 h24 (by lia)) fun z σ2 e2 z0 z1 W2 f2 nx2 => ?_
  have c2 : ev (n + 28) ρ (.cmp (.call 13 [.var 24, .int 3]) .gt (.int 0)) σ1 = some (.bool (decide (0 < z)), σ2) := ev_cmp e2 ev_int rfl
  have s1 := ex_setT (xs := [14, 17]) (ev_tup2 e1 c2) bindT_pair
  generalize decide (0 < z) = put at s1 c2
  generalize hρ1 : upd (upd ρ 14 (some (.a (.int lo)))) 17 (some (.a (.bool put))) = ρ1 at s1
  have a24 : ρ1 24 = some (.loc b) := by rw [← hρ1]; exact h24
  have a16 : ρ1 16 = some (.loc l) := by rw [← hρ1]; exact h16
  have a26 : ρ1 26 = some (.loc k) := by rw [← hρ1]; exact h26
  have a14 : ρ1 14 = some (.int lo) := by rw [← hρ1]; rfl
  have a17 : ρ1 17 = some (.bool put) := by rw [← hρ1]; rfl
  refine el_EEAAAAA (ev_take (n + 15) (w := 7) W2 a24 (by lia)) fun w σ3 e3 w0 w1 W3 f3 nx3 => ?_
  have s2 := ex_set (x := 15) (ev_add (ev_var a14) e3)
  generalize hhi : lo + w = hi at s2
  generalize hρ2 : upd ρ1 15 (some (.int hi)) = ρ2 at s2
  have b24 : ρ2 24 = some (.loc b) := by rw [← hρ2]; exact a24
  have b16 : ρ2 16 = some (.loc l) := by rw [← hρ2]; exact a16
  have b26 : ρ2 26 = some (.loc k) := by rw [← hρ2]; exact a26
  have b14 : ρ2 14 = some (.int lo) := by rw [← hρ2]; exact a14
  have b17 : ρ2 17 = some (.bool put) := by rw [← hρ2]; exact a17
  have b15 : ρ2 15 = some (.int hi) := by rw [← hρ2]; rfl
  have hSl := I.len
  -- put or cut
  have hmain : ∃ (r : Nat) (σ4 : St) (S' : List Sn), ev (n + 29) ρ2 (.ife (.var 17) (.call 6 [.var 16, .var 14, .var 15]) (.call 7 [.var 16, .var 14, .var 15])) σ3 = some (.loc r, σ4) ∧ Out σ3 r (S'.map sp) σ4 ∧ NrmS S' ∧
      ∀ a, Mem S' a ↔ if put then Mem S a ∨ (lo ≤ a ∧ a < hi) else Mem S a ∧ ¬ (lo ≤ a ∧ a < hi) := by
    cases put with
    | true =>
      refine el_EEEAAA (run_add_span (n + 13) (lo := lo) (hi := hi) W3.wf W3.lg I.nrm (by lia)) fun r σ4 S' e O hN hM => ?_
      exact ⟨r, σ4, S', (ev_ife_t (ev_var b17)).trans ((ev_call3 b16 b14 b15).trans e), O, hN, by simpa using hM⟩
    | false =>
      refine el_EEEAAA (run_cut_span (n + 13) (lo := lo) (hi := hi) W3.wf W3.lg I.nrm (by lia)) fun r σ4 S' e O hN hM => ?_
      exact ⟨r, σ4, S', (ev_ife_f (ev_var b17)).trans ((ev_call3 b16 b14 b15).trans e), O, hN, by simpa using hM⟩
  refine el_EEEAAA hmain fun r σ4 S' e4 O4 nS' hM => ?_; clear hmain
  have W4 := (W3.fresh O4.fr).other O4.get (by have := W3.bl; have := O4.new; omega) (by have := W3.ql; have := O4.new; omega)
  have s3 := ex_set (x := 16) e4
  generalize hρ3 : upd ρ2 16 (some (.loc r)) = ρ3 at s3
  have c24 : ρ3 24 = some (.loc b) := by rw [← hρ3]; exact b24
  have c16 : ρ3 16 = some (.loc r) := by rw [← hρ3]; rfl
  have c26 : ρ3 26 = some (.loc k) := by rw [← hρ3]; exact b26
  have c14 : ρ3 14 = some (.int lo) := by rw [← hρ3]; exact b14
  have c15 : ρ3 15 = some (.int hi) := by rw [← hρ3]; exact b15
  have c17 : ρ3 17 = some (.bool put) := by rw [← hρ3]; exact b17
  refine el_EEEAAAA (km_loop (n + 17) (lo := lo) (c := (hi - lo).toNat) W4 c17 c26 I.nod (by lia)) fun ρ4 σ5 K' e5 hfrm W5 hn' hq2 => ?_; refine el_AAA hq2 fun hl' hmem f5 nx5 => ?_; clear hq2
  have s4 : ex (n + 30) (.forT (.one 12) (.range [.var 14, .var 15]) kmBody) ρ3 σ4 = some (.next, ρ4, σ5) := (ex_for (range2 (n := n + 28) c14 c15 (by lia) (by lia) (by lia) (by lia))).trans e5
  have d24 : ρ4 24 = some (.loc b) := (hfrm 24 (by lia)).trans c24
  have d16 : ρ4 16 = some (.loc r) := (hfrm 16 (by lia)).trans c16
  have d26 : ρ4 26 = some (.loc k) := (hfrm 26 (by lia)).trans c26
  have hll : lo + ((hi - lo).toNat : Int) = hi := by lia
  rw [hll] at hmem
  have I' : SInv S' K' := by
    refine ⟨nS', hn', fun a => ?_, fun a ha => ?_⟩
    · rw [hM a, hmem a, I.mem a]
    · have := (hmem a).mp ha
      cases put with
      | true =>
        simp only [if_true] at this
        rcases this with h | h
        · exact I.rng a h
        · lia
      | false =>
        simp only [Bool.false_eq_true, if_false] at this
        exact I.rng a this.1
  refine el_EEEAAAA (run_pairs (n + 12) W5.wf W5.kg (by rw [kb_keys]; exact hn') (by simp; lia)) fun r6 σ6 R6 e6 O6 nR6 hR6 hw6 => ?_
  have W6 := W5.fresh O6.fr
  have hRS : R6 = S' := nrmS_uniq nR6 nS' fun a => by rw [hR6, I'.mem, kb_keys]
  subst hRS
  have hSl' := I'.len
  refine el_EAA (run_count (n + 12) W6.wf W6.lg (by lia)) fun σ7 e7 f7 wf7 => ?_
  have W7 := W6.fresh f7
  have s5 : ex (n + 30) (.ite (.or (.cmp (.var 16) .ne (.call 15 [.var 26])) (.cmp (.call 10 [.var 16]) .ne (.bif .len [.var 26]))) [.ret (.bool false)] []) ρ4 σ5 = some (.next, ρ4, σ7) := by
    refine (ex_ite_f (σ' := σ7) ((ev_or_f (σ' := σ6) (ev_cmp (ev_var d16) ((ev_call1 d26).trans e6) ?_)).trans (ev_cmp (v := .int (wid R6)) (w := .int (wid R6)) (σ₁ := σ7) ((ev_call1 d16).trans e7) ((ev_bif1 (ev_var d26)).trans ?_) ?_))).trans exs_nil
    · simp only [acmp, aeq_sp W6.lg O6.get, AV.by, St.on, int2, no]; rfl
    · simp only [abif, W7.kg, hw6, AV.by, St.on, args, no, no2, int2]
    · simp only [acmp, aeq_refl (.inr (.inl ⟨_, rfl⟩)), AV.by, St.on, int2, no]; rfl
  refine ⟨ρ4, σ7, r, R6, K', ?_, d24, d16, d26, W7, I', by lia⟩
  exact (exs_next (f := ex (n + 30)) s1).trans ((exs_next (f := ex (n + 30)) s2).trans ((exs_next (f := ex (n + 30)) s3).trans ((exs_next (f := ex (n + 30)) s4).trans (exs_one (f := ex (n + 30)) s5))))
end Mine

/-! LawAB -/
namespace Mine

/-! comprehensions of the spans check -/
noncomputable def outP (D : List (Int × AV)) : AV → Bool
  | .a (.int a) => !(dget D a).isSome
  | _ => false
theorem comp_out (n : Nat) {ρ : En} {σ : St} {k : Nat} {D : List (Int × AV)} {lo hi : Int} (h26 : ρ 26 = some (.loc k)) (h14 : ρ 14 = some (.int lo)) (h15 : ρ 15 = some (.int hi)) (hk : σ.get k = some (.dict D)) (h0 : -1000 < lo) (h1 : lo < 1000) (h2 : -1000 < hi) (h3 : hi < 1000) :
    ev (n + 8) ρ (.comp (.var 12) (.one 12) (.range [.var 14, .var 15]) (some (.cmp (.var 12) .notin (.var 26))) [26]) σ = newL (((rangeL lo 1 (hi - lo).toNat).filter (outP D)).map id) σ := by
  have hc := compl_filter (tg := .one 12) (w := none) (σ₀ := σ) (σ := σ) (c := tsto (ev (n + 7)) (some (.cmp (.var 12) .notin (.var 26)))) (el := fun ρ' => ev (n + 7) ρ' (.var 12)) (J := fun ρ => ρ 26 = some (.loc k)) (p := outP D) (g := id) (by simp [chk]) (rangeL lo 1 (hi - lo).toNat) (ρ := restr [26] ρ) (fun v hv ρ hJ => by
    refine el_EA ((mem_rangeL _ _).mp hv) fun i hi hq1 => ?_; subst hq1
    have g26 : upd ρ 12 (some (.int (lo + i))) 26 = some (.loc k) := hJ
    have g12 : upd ρ 12 (some (.int (lo + i))) 12 = some (.int (lo + i)) := rfl
    refine ⟨upd ρ 12 (some (.int (lo + i))), rfl, g26, ?_, fun _ => ev_var g12⟩
    have e : ev (n + 7) (upd ρ 12 (some (.int (lo + i)))) (.cmp (.var 12) .notin (.var 26)) σ = some (.bool (outP D (.int (lo + i))), σ) := ev_cmp (ev_var g12) (ev_var g26) (by simp [acmp, hk, outP, AV.by, St.on, int2, no])
    simp only [tsto, tst, e, Option.bind_some, tru]) (by simp [restr, h26])
  exact ev_comp (range2 h14 h15 h0 h1 h2 h3) hc

noncomputable def keepP (lo hi : Int) (a : Int) : Bool := !(decide (lo ≤ a) && decide (a < hi)) && !decide (a % 5 = 4)
noncomputable def keepV (lo hi : Int) : AV → Bool
  | .a (.int a) => keepP lo hi a
  | _ => false
noncomputable def trueV : AV → AV
  | .a (.int a) => .tup [.int a, .bool true]
  | v => v
theorem comp_keep (n : Nat) {ρ : En} {σ : St} {k : Nat} {K : List Int} {lo hi : Int} (h26 : ρ 26 = some (.loc k)) (h14 : ρ 14 = some (.int lo)) (h15 : ρ 15 = some (.int hi)) (hk : σ.get k = some (.dict (K.map kb))) :
    ev (n + 12) ρ (.comp (.tup [.var 12, .bool true]) (.one 12) (.var 26) (some (.and (.not (.cmp2 (.var 14) .le (.var 12) .lt (.var 15))) (.cmp (.bin .mod (.var 12) (.int 5)) .ne (.int 4)))) [14, 15]) σ = newL ((K.filter (keepP lo hi)).map fun a => .tup [.int a, .bool true]) σ := by
  have hs : itemsOf (ev (n + 11) ρ) (.var 26) σ = some ((K.map kb).map fun kv => .int kv.1, some k, σ) := items_dict (ev_var h26) hk
  have hc := compl_filter (tg := .one 12) (w := some k) (σ₀ := σ) (σ := σ) (c := tsto (ev (n + 11)) (some (.and (.not (.cmp2 (.var 14) .le (.var 12) .lt (.var 15))) (.cmp (.bin .mod (.var 12) (.int 5)) .ne (.int 4))))) (el := fun ρ' => ev (n + 11) ρ' (.tup [.var 12, .bool true])) (J := fun ρ => ρ 14 = some (.int lo) ∧ ρ 15 = some (.int hi)) (p := keepV lo hi) (g := trueV) (by simp [chk]) ((K.map kb).map fun kv => .int kv.1) (ρ := restr [14, 15] ρ) (fun v hv ρ hJ => by
    rw [List.map_map] at hv
    refine el_EA (List.mem_map.mp hv) fun a ha hq2 => ?_; subst hq2
    refine el_A hJ fun j1 j2 => ?_; clear hJ
    generalize hρ : upd ρ 12 (some (.int a)) = ρ₁
    have g14 : ρ₁ 14 = some (.int lo) := by rw [← hρ]; exact j1
    have g15 : ρ₁ 15 = some (.int hi) := by rw [← hρ]; exact j2
    have g12 : ρ₁ 12 = some (.int a) := by rw [← hρ]; rfl
    refine ⟨ρ₁, by rw [← hρ]; rfl, ⟨g14, g15⟩, ?_, fun _ => ev_tup2 (ev_var g12) (by rw [ev])⟩
    have e1 : ev (n + 9) ρ₁ (.cmp2 (.var 14) .le (.var 12) .lt (.var 15)) σ = some (.bool (decide (lo ≤ a) && decide (a < hi)), σ) := by
      by_cases h : lo ≤ a
      · rw [decide_eq_true h, Bool.true_and]
        exact ev_cmp2_t (ev_var g14) (ev_var g12) (by simp [acmp, h, AV.by, St.on, int2, no]) (ev_var g15) (by simp [acmp, AV.by, St.on, int2, no])
      · rw [decide_eq_false h, Bool.false_and]
        exact ev_cmp2_f (ev_var g14) (ev_var g12) (by simp [acmp, AV.by, St.on, int2, no]; lia)
    have e2 : ev (n + 10) ρ₁ (.cmp (.bin .mod (.var 12) (.int 5)) .ne (.int 4)) σ = some (.bool (!decide (a % 5 = 4)), σ) := by
      refine ev_cmp (v := .int (a % 5)) ((ev_bin (ev_var g12) ev_int).trans (by simp [abin, AV.by, St.on, int2, no])) ev_int ?_
      simp [acmp, aeq, kinV, kin, AV.by, St.on, int2, no, eqB, eqN]
    have e3 : ev (n + 11) ρ₁ (.and (.not (.cmp2 (.var 14) .le (.var 12) .lt (.var 15))) (.cmp (.bin .mod (.var 12) (.int 5)) .ne (.int 4))) σ = some (.bool (keepP lo hi a), σ) := by
      unfold keepP
      have e4 := ev_not e1
      cases hq : !(decide (lo ≤ a) && decide (a < hi)) with
      | true => rw [hq] at e4; exact (ev_and_t e4).trans e2
      | false => rw [hq] at e4; exact ev_and_f e4
    simp only [tsto, tst, e3, Option.bind_some, tru]
    rfl) ⟨by simp [restr, h14], by simp [restr, h15]⟩
  have hm : (((K.map kb).map fun kv => AV.int kv.1).filter (keepV lo hi)).map trueV = (K.filter (keepP lo hi)).map fun a => .tup [.int a, .bool true] := by
    rw [List.map_map, List.filter_map, List.map_map]; rfl
  rw [hm] at hc
  exact ev_comp hs hc

noncomputable def oneV : AV → AV
  | .a (.int a) => sp (a, a + 1)
  | v => v
noncomputable def fives : List Sn := [(4, 5), (9, 10), (14, 15), (19, 20), (24, 25), (29, 30)]
theorem comp_fives (n : Nat) {ρ : En} {σ : St} : ev (n + 8) ρ (.comp (.tup [.var 12, .bin .add (.var 12) (.int 1)]) (.one 12) (.range [.int 4, .int 30, .int 5]) none []) σ = newL (fives.map sp) σ := by
  have hs : itemsOf (ev (n + 7) ρ) (.range [.int 4, .int 30, .int 5]) σ = some (rangeL 4 5 6, none, σ) := by
    unfold itemsOf
    simp only [evs, ev_int (n := n + 6), Option.bind_some, intsOf, Option.map_some, AV.by, no]
    rfl
  have hc := compl_filter (tg := .one 12) (w := none) (σ₀ := σ) (σ := σ) (c := tsto (ev (n + 7)) none) (el := fun ρ' => ev (n + 7) ρ' (.tup [.var 12, .bin .add (.var 12) (.int 1)])) (J := fun ρ => True) (p := fun _ => true) (g := oneV) (by simp [chk]) (rangeL 4 5 6) (ρ := restr [] ρ) (fun v hv ρ hJ => by
    have : ∃ a, v = .int a := by
      simp only [rangeL, List.mem_cons, List.not_mem_nil, or_false] at hv
      rcases hv with h | h | h | h | h | h <;> exact ⟨_, h⟩
    refine el_E this fun a hq3 => ?_; subst hq3
    have g12 : upd ρ 12 (some (.int a)) 12 = some (.int a) := rfl
    exact ⟨upd ρ 12 (some (.int a)), rfl, trivial, rfl, fun _ => ev_tup2 (ev_var g12) (ev_add (ev_var g12) ev_int)⟩) trivial
  rw [filter_true] at hc
  have hm : (rangeL 4 5 6).map oneV = fives.map sp := rfl
  rw [hm] at hc
  exact ev_comp hs hc

theorem run_spans (n : Nat) {σ : St} {b q : Nat} {seed : Int} {xs : List Int} (wf : WfS σ) (B : Box σ b q seed xs) : ∃ σ', runF (n + 40) 17 [.loc b] σ = some (.bool true, σ') ∧ Fr [b, q] σ σ' := by
  have hbl := get_lt wf B.bx
  have hql := get_lt wf B.qx
  generalize hρ0 : upd noEn 24 (some (.loc b)) = ρ0
  have a24 : ρ0 24 = some (.loc b) := by rw [← hρ0]; rfl
  refine el_EA (ev_newL (n := n + 37) (ρ := ρ0) wf) fun σ1 e1 O1 => ?_
  have fr2 : Fr [] σ (σ1.alloc (.dict [])) := O1.fr.trans fr_alloc
  have g2 : (σ1.alloc (.dict [])).get σ1.next = some (.dict (([] : List Int).map kb)) := by rw [get_alloc, if_pos rfl]; rfl
  have hl1 := O1.lt
  have W2 : PW σ (σ1.alloc (.dict [])) b q σ1.next σ.next (([] : List Int).map kb) (([] : List Sn).map sp) :=
    ⟨fr2.wf wf, ⟨seed, xs, B.keep (fr2.get hbl (by simp)) (fr2.get hql (by simp))⟩, g2, by rw [get_alloc, if_neg (by lia)]; exact O1.get, by lia, by lia, fr2.mono (by simp)⟩
  have s1 : ex (n + 40) (.setT [16, 26] (.tup [.list [], .dict0])) ρ0 σ = some (.next, upd (upd ρ0 16 (some (.loc σ.next))) 26 (some (.loc σ1.next)), σ1.alloc (.dict [])) :=
    ex_setT (ev_tup2 e1 (by rw [ev])) bindT_pair
  have hkn : σ.next ≤ σ1.next := O1.fr.le
  generalize hk : σ1.next = k at W2 s1 hkn
  generalize σ1.alloc (.dict []) = σ2 at W2 s1
  generalize hρ1 : upd (upd ρ0 16 (some (.loc σ.next))) 26 (some (.loc k)) = ρ1 at s1
  have b24 : ρ1 24 = some (.loc b) := by rw [← hρ1]; exact a24
  have b16 : ρ1 16 = some (.loc σ.next) := by rw [← hρ1]; rfl
  have b26 : ρ1 26 = some (.loc k) := by rw [← hρ1]; rfl
  -- the turns
  refine el_EEAAAAA (ev_take (n + 25) (w := 6) W2 b24 (by lia)) fun r σ3 e3 r0 r1 W3 f3 nx3 => ?_
  have hit : itemsOf (ev (n + 39) ρ1) (.range [.bin .add (.int 3) (.call 13 [.var 24, .int 6])]) σ2 = some (rangeL 0 1 (3 + r).toNat, none, σ3) := by
    have hsm : small (3 + r) = true := by unfold small; simp; lia
    have e : ev (n + 39) ρ1 (.bin .add (.int 3) (.call 13 [.var 24, .int 6])) σ2 = some (.int (3 + r), σ3) := ev_add ev_int e3
    unfold itemsOf
    simp only [evs, e, Option.bind_some, intsOf, Option.map_some, rangeOf, hsm, if_true, AV.by, no]
  let J : List AV → En → St → Prop := fun rest ρ τ => ρ 24 = some (.loc b) ∧ ρ 26 = some (.loc k) ∧ ∃ l S K, ρ 16 = some (.loc l) ∧ PW σ τ b q k l (K.map kb) (S.map sp) ∧ SInv S K ∧ K.length + 6 * rest.length ≤ 48
  have hstep : ∀ (x : AV) (rest : List AV) (ρ : En) (τ : St), J (x :: rest) ρ τ → ∃ ρ₁ ρ₂ τ₂, bindT (.one 27) (id x) ρ = some ρ₁ ∧ exs (ex (n + 39)) spBody ρ₁ τ = some (.next, ρ₂, τ₂) ∧ chk none σ3 τ₂ = true ∧ J rest ρ₂ τ₂ := by
    rintro x rest ρ τ ⟨h24, h26, l, S, K, h16, W, I, hl⟩
    rw [List.length_cons] at hl
    refine el_EEEEEAA (sp_turn (n + 9) (ρ := upd ρ 27 (some x)) h24 h16 h26 W I (by lia)) fun ρ' σ' l' S' K' e g24 hq4 => ?_; refine el_AAAA hq4 fun g16 g26 W' I' hl' => ?_; clear hq4
    exact ⟨upd ρ 27 (some x), ρ', σ', rfl, e, rfl, g24, g26, l', S', K', g16, W', I', by lia⟩
  refine el_EEAAAEE (forl_inv hstep (rangeL 0 1 (3 + r).toNat) (ρ := ρ1) (σ := σ3) ⟨b24, b26, σ.next, [], [], b16, W3, ⟨.nil, by simp, fun a => by simp [mem_nil], by simp⟩, by rw [rangeL_length]; simp; lia⟩) fun ρ2 σ4 e4 c24 c26 l S hq5 => ?_; refine el_EAAA hq5 fun K c16 W4 I hKl => ?_; clear hq5
  rw [List.map_id] at e4
  simp only [List.length_nil, Nat.mul_zero, Nat.add_zero] at hKl
  have s2 : ex (n + 40) (.forT (.one 27) (.range [.bin .add (.int 3) (.call 13 [.var 24, .int 6])]) spBody) ρ1 σ2 = some (.next, ρ2, σ4) := (ex_for hit).trans e4
  have hSl := I.len
  -- low, most, high
  refine el_EEAAAAA (ev_take (n + 25) (w := 22) W4 c24 (by lia)) fun lo σ5 e5 lo0 lo1 W5 f5 nx5 => ?_
  refine el_EEAAAAA (ev_take (n + 25) (w := 6) W5 c24 (by lia)) fun most σ6 e6 m0 m1 W6 f6 nx6 => ?_
  have s3 := ex_setT (xs := [14, 20]) (ev_tup2 e5 e6) bindT_pair
  generalize hρ3 : upd (upd ρ2 14 (some (.a (.int lo)))) 20 (some (.a (.int most))) = ρ3 at s3
  have d24 : ρ3 24 = some (.loc b) := by rw [← hρ3]; exact c24
  have d26 : ρ3 26 = some (.loc k) := by rw [← hρ3]; exact c26
  have d16 : ρ3 16 = some (.loc l) := by rw [← hρ3]; exact c16
  have d14 : ρ3 14 = some (.int lo) := by rw [← hρ3]; rfl
  have d20 : ρ3 20 = some (.int most) := by rw [← hρ3]; rfl
  refine el_EEAAAAA (ev_take (n + 25) (w := 6) W6 d24 (by lia)) fun wd σ7 e7 w0 w1 W7 f7 nx7 => ?_
  have s4 := ex_set (x := 15) (ev_add (ev_var d14) e7)
  generalize hhi : lo + wd = hi at s4
  generalize hρ4 : upd ρ3 15 (some (.int hi)) = ρ4 at s4
  have h26 : ρ4 26 = some (.loc k) := by rw [← hρ4]; exact d26
  have h16 : ρ4 16 = some (.loc l) := by rw [← hρ4]; exact d16
  have h14 : ρ4 14 = some (.int lo) := by rw [← hρ4]; exact d14
  have h20 : ρ4 20 = some (.int most) := by rw [← hρ4]; exact d20
  have h15 : ρ4 15 = some (.int hi) := by rw [← hρ4]; rfl
  -- has_span
  refine el_EA (run_has_span (n + 23) (lo := lo) (hi := hi) W7.lg I.nrm) fun hb e8 hhb => ?_
  have hzs : ∀ x ∈ (rangeL lo 1 (hi - lo).toNat), ∃ i : Nat, i < (hi - lo).toNat ∧ x = .int (lo + i) := fun x hx => (mem_rangeL _ _).mp hx
  generalize hz : ((rangeL lo 1 (hi - lo).toNat).filter (outP (K.map kb))).map id = zs
  have hzl : zs.length ≤ 1000000 := by
    rw [← hz, List.map_id]
    refine Nat.le_trans (List.length_filter_le _ _) ?_
    rw [rangeL_length]; lia
  refine el_A (newL_out (xs := zs) Fr.refl W7.wf hzl) fun n9 O9 => ?_
  generalize hσ9 : σ7.alloc (.list zs) = σ9 at n9 O9
  refine el_EA (ev_newL (n := n + 36) (ρ := ρ4) O9.wf) fun σ10 e10 O10 => ?_
  have W10 := (W7.fresh O9.fr).fresh O10.fr
  have hco := comp_out (n + 29) h26 h14 h15 W7.kg (by lia) (by lia) (by lia) (by lia)
  rw [hz] at hco
  have hbz : decide (zs = []) = hb := by
    refine bool_eq ?_
    rw [decide_eq_true_eq, hhb, ← hz, List.map_id, List.filter_eq_nil_iff]
    constructor
    · intro h a h1 h2
      have := h (.int a) ((mem_rangeL _ _).mpr ⟨(a - lo).toNat, by lia, by rw [show lo + ((a - lo).toNat : Int) = a from by lia]⟩)
      simp only [outP, kb_get, Bool.not_eq_true', decide_eq_false_iff_not, Decidable.not_not] at this
      exact (I.mem a).mpr this
    · intro h x hx
      refine el_EA (hzs x hx) fun i hi' hq6 => ?_; subst hq6
      have := (I.mem _).mp (h (lo + i) (by lia) (by lia))
      simp [outP, kb_get, this]
  have s5 : ex (n + 40) (.ite (.cmp (.call 8 [.var 16, .var 14, .var 15]) .ne (.cmp (.comp (.var 12) (.one 12) (.range [.var 14, .var 15]) (some (.cmp (.var 12) .notin (.var 26))) [26]) .eq (.list []))) [.ret (.bool false)] []) ρ4 σ7 = some (.next, ρ4, σ10) := by
    have e11 : ev (n + 38) ρ4 (.cmp (.comp (.var 12) (.one 12) (.range [.var 14, .var 15]) (some (.cmp (.var 12) .notin (.var 26))) [26]) .eq (.list [])) σ7 = some (.bool hb, σ10) := by
      refine ev_cmp (hco.trans n9) e10 ?_
      rw [← hbz]
      exact aeq_empty ((O10.fr.get O9.lt (by simp)).trans O9.get) O10.get
    refine (ex_ite_f (σ' := σ10) (ev_cmp ((ev_call3 h16 h14 h15).trans e8) e11 ?_)).trans exs_nil
    simp [acmp, aeq_bool, AV.by, St.on, int2, no]
  -- first_span
  refine el_EA (ev_newL (n := n + 35) (ρ := ρ4) W10.wf) fun σ11 e12 O11 => ?_
  have W11 := W10.fresh O11.fr
  have hsp : ev (n + 37) ρ4 (.cmp (.var 16) .eq (.list [])) σ10 = some (.bool (decide (S.map sp = [])), σ11) := ev_cmp (op := .eq) (ev_var h16) e12 (aeq_empty W11.lg O11.get)
  have hms' : ev (n + 37) ρ4 (.cmp (.var 20) .eq (.int 0)) σ11 = some (.bool (decide (most = 0)), σ11) := ev_cmp (ev_var h20) ev_int (by simp [acmp, aeq, kinV, kin, AV.by, St.on, int2, no, eqB, eqN])
  have hfst : ev (n + 39) ρ4 (.ife (.or (.cmp (.var 16) .eq (.list [])) (.cmp (.var 20) .eq (.int 0))) (.none) (.tup [.idx (.idx (.var 16) (.int 0)) (.int 0), .bif .min [.idx (.idx (.var 16) (.int 0)) (.int 1), .bin .add (.idx (.idx (.var 16) (.int 0)) (.int 0)) (.var 20)]])) σ10 = some (firstF most S, σ11) := by
    have hlg := W11.lg
    cases S with
    | nil =>
      have hsp' : ev (n + 37) ρ4 (.cmp (.var 16) .eq (.list [])) σ10 = some (.bool true, σ11) := hsp
      exact (ev_ife_t (ev_or_t hsp')).trans (by rw [ev]; rfl)
    | cons s S =>
      have hsp' : ev (n + 37) ρ4 (.cmp (.var 16) .eq (.list [])) σ10 = some (.bool false, σ11) := hsp.trans (by simp)
      by_cases hm : most = 0
      · rw [decide_eq_true hm] at hms'
        have : firstF most (s :: S) = .none := if_pos (by lia)
        rw [this]
        exact (ev_ife_t ((ev_or_f hsp').trans hms')).trans (by rw [ev])
      · rw [decide_eq_false hm] at hms'
        have : firstF most (s :: S) = .tup [.int s.1, .int (min s.2 (s.1 + most))] := if_neg (by lia)
        rw [this]
        have hi0 : ∀ m, ev (m + 2) ρ4 (.idx (.var 16) (.int 0)) σ11 = some (sp s, σ11) := fun m => by
          rw [ev]; simp only [ev_var (n := m) h16, ev_int (n := m), Option.bind_some, aidx, hlg, AV.by, St.on, no]; simp
        have i0 : ∀ m, ev (m + 3) ρ4 (.idx (.idx (.var 16) (.int 0)) (.int 0)) σ11 = some (.int s.1, σ11) := fun m => by
          rw [ev]; simp only [hi0 m, ev_int (n := m + 1), Option.bind_some, aidx, sp, AV.by, St.on, no]; simp
        have i1 : ∀ m, ev (m + 3) ρ4 (.idx (.idx (.var 16) (.int 0)) (.int 1)) σ11 = some (.int s.2, σ11) := fun m => by
          rw [ev]; simp only [hi0 m, ev_int (n := m + 1), Option.bind_some, aidx, sp, AV.by, St.on, no]; simp
        exact (ev_ife_f ((ev_or_f hsp').trans hms')).trans (ev_tup2 (i0 _) (ev_min (i1 _) (ev_add (i0 _) (ev_var h20))))
  have s6 := ex_set (x := 35) hfst
  generalize hρ5 : upd ρ4 35 (some (firstF most S)) = ρ5 at s6
  have i26 : ρ5 26 = some (.loc k) := by rw [← hρ5]; exact h26
  have i16 : ρ5 16 = some (.loc l) := by rw [← hρ5]; exact h16
  have i14 : ρ5 14 = some (.int lo) := by rw [← hρ5]; exact h14
  have i20 : ρ5 20 = some (.int most) := by rw [← hρ5]; exact h20
  have i15 : ρ5 15 = some (.int hi) := by rw [← hρ5]; exact h15
  have i35 : ρ5 35 = some (firstF most S) := by rw [← hρ5]; rfl
  have s7 : ex (n + 40) (.ite (.cmp (.call 9 [.var 16, .var 20]) .ne (.var 35)) [.ret (.bool false)] []) ρ5 σ11 = some (.next, ρ5, σ11) := by
    refine (ex_ite_f (σ' := σ11) (ev_cmp ((ev_call2 i16 i20).trans (run_first (n + 23) W11.lg)) (ev_var i35) ?_)).trans exs_nil
    have : firstF most S = .none ∨ (∃ i, firstF most S = .int i) ∨ (∃ d, firstF most S = .bytes d) ∨ (∃ a b, firstF most S = .tup [.int a, .int b]) := by
      cases S with
      | nil => exact .inl rfl
      | cons s S =>
        by_cases h : most ≤ 0
        · exact .inl (if_pos h)
        · exact .inr (.inr (.inr ⟨_, _, if_neg h⟩))
    simp only [acmp, aeq_refl this, AV.by, St.on, int2, no]; rfl
  -- left
  generalize hK2 : K.filter (keepP lo hi) = K2
  have hK2l : K2.length ≤ K.length := by rw [← hK2]; exact List.length_filter_le _ _
  have hK2n : K2.Nodup := by rw [← hK2]; exact I.nod.sublist List.filter_sublist
  refine el_A (newL_out (xs := K2.map fun a => .tup [.int a, .bool true]) Fr.refl W11.wf (by simp; lia)) fun n12 O12 => ?_
  generalize hσ12 : σ11.alloc (.list (K2.map fun a => .tup [.int a, .bool true])) = σ12 at n12 O12
  have hleft : ev (n + 39) ρ5 (.bif .dict [.comp (.tup [.var 12, .bool true]) (.one 12) (.var 26) (some (.and (.not (.cmp2 (.var 14) .le (.var 12) .lt (.var 15))) (.cmp (.bin .mod (.var 12) (.int 5)) .ne (.int 4)))) [14, 15]]) σ11 = some (.loc σ12.next, σ12.alloc (.dict (K2.map kb))) := by
    have hck := comp_keep (n + 26) i26 i14 i15 W11.kg
    rw [hK2] at hck
    refine (ev_bif1 (hck.trans n12)).trans ?_
    have hp := prsOf_map (K2.map fun a => (a, At.bool true))
    rw [List.map_map] at hp
    have hp' : prsOf (K2.map fun a => .tup [.int a, .bool true]) = some (K2.map fun a => (a, At.bool true)) := hp
    simp only [abif, O12.get, hp', Option.map_some, AV.by, St.on, args, no, no2, int2]
    rw [fold_dput]
    · rw [List.nil_append, List.map_map]; rfl
    · rw [List.map_nil, List.nil_append, List.map_map]
      have : ((fun x : Int × At => x.1) ∘ fun a => (a, At.bool true)) = id := rfl
      rw [this, List.map_id]; exact hK2n
  have fr13 : Fr [] σ12 (σ12.alloc (.dict (K2.map kb))) := fr_alloc
  have g13 : (σ12.alloc (.dict (K2.map kb))).get σ12.next = some (.dict (K2.map kb)) := by rw [get_alloc, if_pos rfl]
  have hl13 : σ12.next < (σ12.alloc (.dict (K2.map kb))).next := Nat.lt_succ_self _
  have W13 := (W11.fresh O12.fr).fresh fr13
  have s8 := ex_set (x := 13) hleft
  generalize hk2 : σ12.next = k2 at s8 g13 hl13
  generalize σ12.alloc (.dict (K2.map kb)) = σ13 at s8 g13 W13 hl13
  generalize hρ6 : upd ρ5 13 (some (.loc k2)) = ρ6 at s8
  have j16 : ρ6 16 = some (.loc l) := by rw [← hρ6]; exact i16
  have j14 : ρ6 14 = some (.int lo) := by rw [← hρ6]; exact i14
  have j15 : ρ6 15 = some (.int hi) := by rw [← hρ6]; exact i15
  have j13 : ρ6 13 = some (.loc k2) := by rw [← hρ6]; rfl
  -- the others
  refine el_A (newL_out (xs := fives.map sp) Fr.refl W13.wf (by simp [fives])) fun n14 O14 => ?_
  generalize hσ14 : σ13.alloc (.list (fives.map sp)) = σ14 at n14 O14
  have hmore : ∃ (T : List Sn) (r : Nat) (σ15 : St), T = (if lo < hi then [(lo, hi)] else []) ∧ ev (n + 38) ρ6 (.ife (.cmp (.var 14) .lt (.var 15)) (.list [.tup [.var 14, .var 15]]) (.list [])) σ14 = some (.loc r, σ15) ∧ Out σ14 r (T.map sp) σ15 := by
    have hc : ev (n + 37) ρ6 (.cmp (.var 14) .lt (.var 15)) σ14 = some (.bool (decide (lo < hi)), σ14) := ev_cmp (ev_var j14) (ev_var j15) rfl
    by_cases h : lo < hi
    · rw [decide_eq_true h] at hc
      refine el_A (newL_out (xs := [sp (lo, hi)]) Fr.refl O14.wf (by simp)) fun n15 O15 => ?_
      refine ⟨[(lo, hi)], _, _, (if_pos h).symm, (ev_ife_t hc).trans ?_, O15⟩
      rw [ev]; simp only [evs, ev_tup2 (n := n + 35) (ev_var j14) (ev_var j15), Option.bind_some]
      exact n15
    · rw [decide_eq_false h] at hc
      refine el_A (newL_out (xs := []) Fr.refl O14.wf (by simp)) fun n15 O15 => ?_
      refine ⟨[], _, _, (if_neg h).symm, (ev_ife_f hc).trans ?_, O15⟩
      rw [ev]; simp only [evs, Option.bind_some]
      exact n15
  refine el_EEEAA hmore fun T r15 σ15 hT e15 O15 => ?_; clear hmore
  have hTl : T.length ≤ 1 := by rw [hT]; split <;> simp
  have g14' : σ15.get σ13.next = some (.list (fives.map sp)) := (O15.fr.get O14.lt (by simp)).trans O14.get
  refine el_A (newL_out (xs := (fives ++ T).map sp) Fr.refl O15.wf (by simp [fives]; lia)) fun n16 O16 => ?_
  generalize hσ16 : σ15.alloc (.list ((fives ++ T).map sp)) = σ16 at n16 O16
  have hoth : ev (n + 39) ρ6 (.bin .add (.comp (.tup [.var 12, .bin .add (.var 12) (.int 1)]) (.one 12) (.range [.int 4, .int 30, .int 5]) none []) (.ife (.cmp (.var 14) .lt (.var 15)) (.list [.tup [.var 14, .var 15]]) (.list []))) σ13 = some (.loc σ15.next, σ16) := by
    refine (ev_bin ((comp_fives (n + 30)).trans n14) e15).trans ?_
    simp only [abin, g14', O15.get, AV.by, St.on, int2, no]
    rw [← List.map_append]; exact n16
  have s9 := ex_set (x := 21) hoth
  have W16 := ((W13.fresh O14.fr).fresh O15.fr).fresh O16.fr
  have g16 : σ16.get k2 = some (.dict (K2.map kb)) := (O16.fr.get (by have := O15.fr.le; have := O14.fr.le; lia) (by simp)).trans ((O15.fr.get (by have := O14.fr.le; lia) (by simp)).trans ((O14.fr.get hl13 (by simp)).trans g13))
  generalize hρ7 : upd ρ6 21 (some (.loc σ15.next)) = ρ7 at s9
  have l16 : ρ7 16 = some (.loc l) := by rw [← hρ7]; exact j16
  have l13 : ρ7 13 = some (.loc k2) := by rw [← hρ7]; exact j13
  have l21 : ρ7 21 = some (.loc σ15.next) := by rw [← hρ7]; rfl
  -- the answer
  refine el_EEEAAA (run_without (n + 19) (x := 0) (y := 26) W16.wf W16.lg O16.get I.nrm (by lia) (by lia) (fun a h => I.rng a ((I.mem a).mp h))) fun r17 σ17 S17 e17 O17 nS17 hS17 => ?_
  have hk2l : k2 < σ17.next := by
    have h1 := get_lt W16.wf g16
    have h2 := O17.fr.le
    lia
  have g17 : σ17.get k2 = some (.dict (K2.map kb)) := (O17.fr.get (get_lt W16.wf g16) (by simp)).trans g16
  refine el_EEEAAAA (run_pairs (n + 23) O17.wf g17 (by rw [kb_keys]; exact hK2n) (by simp; lia)) fun r18 σ18 R18 e18 O18 nR18 hR18 _ => ?_
  have hfin : R18 = S17 := nrmS_uniq nR18 nS17 fun a => by
    rw [hR18, kb_keys, hS17, I.mem, ← hK2, List.mem_filter, hT]
    constructor
    · rintro ⟨h1, h2⟩
      refine ⟨h1, fun t ht => ?_⟩
      unfold keepP at h2
      simp only [Bool.and_eq_true, Bool.not_eq_true', Bool.and_eq_false_iff, decide_eq_false_iff_not] at h2
      have hr := I.rng a h1
      rcases List.mem_append.mp ht with ht | ht
      · simp only [fives, List.mem_cons, List.not_mem_nil, or_false] at ht
        rcases ht with rfl | rfl | rfl | rfl | rfl | rfl <;> dsimp only <;> lia
      · split at ht
        · rw [List.mem_singleton] at ht; subst ht; dsimp only; lia
        · cases ht
    · rintro ⟨h1, h2⟩
      refine ⟨h1, ?_⟩
      have hr := I.rng a h1
      unfold keepP
      simp only [Bool.and_eq_true, Bool.not_eq_true', Bool.and_eq_false_iff, decide_eq_false_iff_not]
      have f1 := h2 (4, 5) (by simp [fives])
      have f2 := h2 (9, 10) (by simp [fives])
      have f3 := h2 (14, 15) (by simp [fives])
      have f4 := h2 (19, 20) (by simp [fives])
      have f5 := h2 (24, 25) (by simp [fives])
      dsimp only at f1 f2 f3 f4 f5
      refine ⟨?_, by lia⟩
      by_cases h : lo < hi
      · have f6 := h2 (lo, hi) (by rw [if_pos h]; simp)
        dsimp only at f6
        lia
      · lia
  subst hfin
  refine ⟨σ18, runF_ret (d := f17) (ρ := ρ0) (ρ' := ρ7) rfl (by rw [← hρ0]; rfl) ?_, (((W16.fresh O17.fr).fresh O18.fr).fr).mono fun x hx h => by simp at h ⊢; lia⟩
  refine (exs_next (f := ex (n + 40)) s1).trans ((exs_next (f := ex (n + 40)) s2).trans ((exs_next (f := ex (n + 40)) s3).trans ((exs_next (f := ex (n + 40)) s4).trans ((exs_next (f := ex (n + 40)) s5).trans ((exs_next (f := ex (n + 40)) s6).trans ((exs_next (f := ex (n + 40)) s7).trans ((exs_next (f := ex (n + 40)) s8).trans ((exs_next (f := ex (n + 40)) s9).trans (exs_ret (f := ex (n + 40)) (ex_ret ?_))))))))))
  refine ev_cmp ((ev_call2 l16 l21).trans e17) ((ev_call1 l13).trans e18) ?_
  exact aeq_sp ((O18.fr.get O17.lt (by simp)).trans O17.get) O18.get

/-- the law, evaluated -/
theorem run_law {l : List Int} {σ : St} {s : Nat} (wf : WfS σ) (hs : σ.get s = some (.list (l.map .int))) : ∃ σ', runF 60 18 [.loc s] σ = some (.bool true, σ') ∧ Fr [] σ σ' := by
  generalize hρ0 : upd noEn 22 (some (.loc s)) = ρ0
  have a22 : ρ0 22 = some (.loc s) := by rw [← hρ0]; rfl
  refine el_EEEEEAA (run_box 44 wf hs) fun b q σ1 seed xs e1 B hq7 => ?_; refine el_AAA hq7 fun wf1 fr1 hb hq => ?_; clear hq7
  have c1 : ev 59 ρ0 (.call 12 [.var 22, .int 71]) σ = some (.loc b, σ1) := by
    rw [ev_call]; simp only [evs, ev_var (n := 57) a22, ev_int (n := 57), Option.bind_some]; exact e1
  have s1 := ex_set (x := 24) c1
  generalize hρ1 : upd ρ0 24 (some (.loc b)) = ρ1 at s1
  have a24 : ρ1 24 = some (.loc b) := by rw [← hρ1]; rfl
  refine el_EAAAEE (run_pieces 17 wf1 B) fun σ2 e2 wf2 fr2 seed2 xs2 B2 => ?_
  refine el_EA (run_spans 17 wf2 B2) fun σ3 e3 fr3 => ?_
  refine ⟨σ3, runF_ret (d := f18) (ρ := ρ0) (ρ' := ρ1) rfl (by rw [← hρ0]; rfl) ?_, fr1.fresh (fr2.trans fr3) fun x hx => by simp at hx; lia⟩
  exact (exs_next (f := ex 60) s1).trans (exs_ret (f := ex 60) (ex_ret ((ev_and_t ((ev_call1 a24).trans e2)).trans ((ev_call1 a24).trans e3))))
end Mine

/-! Join -/
namespace Mine
open PySem PySem.W PyProof.Rows PySem.SeqAt

/-- a heap without one object -/
noncomputable def hide (h : Heap) (a : Addr) : Heap := { h with objs := h.objs.setIfInBounds a { cls := .none, data := .freed } }
theorem hide_at (h : Heap) (a : Addr) : (hide h a).get? a = none := by
  unfold hide Heap.get?
  by_cases ha : a < h.objs.size
  · simp [ha]
  · simp [ha]
theorem hide_ne (h : Heap) {a b : Addr} (hb : b ≠ a) : (hide h a).get? b = h.get? b := by
  unfold hide Heap.get?
  dsimp only
  rw [Array.getElem?_setIfInBounds_ne (Ne.symm hb)]
theorem hide_sub (h : Heap) (a b : Addr) (o : Obj) (e : (hide h a).get? b = some o) : h.get? b = some o := by
  by_cases hb : b = a
  · subst hb; rw [hide_at] at e; cases e
  · rw [hide_ne h hb] at e; exact e
theorem hide_ns {h : Heap} {a L : Addr} {m : Str → Option Value} {oa : Obj} (ha : h.get? a = some oa) (hd : ∀ es ep, oa.data ≠ .dict es ep) (n : h.Ns L m) : (hide h a).Ns L m := by
  refine el_EEEAA n fun o es ep e d r => ?_; clear n
  refine ⟨o, es, ep, ?_, d, r⟩
  rw [hide_ne h (by rintro rfl; rw [ha] at e; cases e; exact hd _ _ d)]
  exact e

noncomputable def okFn (p : Program) (f : Nat) : Bool := match fns[f]? with
  | some d => (recsOf p).any fun r => r.name == fnm f && mFn d r.params r.body r.scope
  | none => false
noncomputable def okNames : List Str := [Str.ofString "range", Str.ofString "enumerate"] ++ ([Bf.len, .bytes, .list, .sorted, .min, .max, .sum, .dict].map fun f => Str.ofString (bfName f))
noncomputable def okFree (p : Program) (loose : List Str) (x : Str) : Bool := !startupNames.contains x && !loose.contains x && !((recsOf p).map (·.name)).contains x && !((litsOf p).map (·.1)).contains x && !((clssOf p loose).map (·.name)).contains x && !(x == ("__name__" : Str))
noncomputable def okProg (p : Program) (loose : List Str) : Bool := (List.range 19).all (okFn p) && okNames.all (okFree p loose)

section
variable {p : Program} {loose : List Str} {mean : ExcName → Option Value} {mg mb : Str → Option Value} {h : Heap}
theorem free_of (T : Top p loose mean mg mb h) {x : Str} (hx : okFree p loose x = true) : mg x = none ∧ mb x = bootBuiltins x := by
  unfold okFree at hx
  simp only [Bool.and_eq_true, Bool.not_eq_true', List.contains_eq_mem, decide_eq_false_iff_not, beq_eq_false_iff_ne] at hx
  refine el_A hx fun hq1 h6 => ?_; clear hx; refine el_A hq1 fun hq3 h5 => ?_; obtain ⟨⟨⟨h1, h2⟩, h3⟩, h4⟩ := hq3
  exact ⟨T.free x h1 h2 h3 h4 h5, T.builtins x h6⟩

theorem base_of {prog : Program} {w : World} {a : Addr} {oa : Obj} (T : Top p loose mean mg mb h) (hp : okProg p loose = true) (ha : h.get? a = some oa) (hd : ∀ es ep, oa.data ≠ .dict es ep) (hd' : ∀ fd, oa.data ≠ .func fd) (hd'' : ∀ vs, oa.data ≠ .fields vs) :
    Base prog w (hide h a) mg mb := by
  unfold okProg at hp
  rw [Bool.and_eq_true] at hp
  refine el_A hp fun hp1 hp2 => ?_; clear hp
  have hfree : ∀ x ∈ okNames, mg x = none ∧ mb x = bootBuiltins x := fun x hx => free_of T (List.all_eq_true.mp hp2 x hx)
  refine ⟨hide_ns ha hd T.g, hide_ns ha hd T.b, ?_, ?_, ?_, ?_, ?_⟩
  · refine el_EA T.nolimit fun mc n e => ?_
    exact ⟨mc, hide_ns ha hd n, e⟩
  · intro f d hf
    have hf19 : f < 19 := by have := (List.getElem?_eq_some_iff.mp hf).1; exact Nat.lt_of_lt_of_le this (by decide +kernel)
    have h1 := List.all_eq_true.mp hp1 f (List.mem_range.mpr hf19)
    unfold okFn at h1
    rw [hf] at h1
    dsimp only at h1
    refine el_EA (List.any_eq_true.mp h1) fun r hr h2 => ?_
    rw [Bool.and_eq_true, beq_iff_eq] at h2
    refine el_A h2 fun hn hm => ?_
    refine el_EEEEEA (T.fn r hr) fun c o pm code doc e1 hq2 => ?_; refine el_AA hq2 fun e2 e3 e4 => ?_; clear hq2
    rw [hn] at e1 e3 e4
    refine ⟨c, o, pm, code, doc, r.params, r.body, r.scope, e1, ?_, e3, ?_, hm⟩
    · rw [hide_ne h (by rintro rfl; rw [ha] at e2; cases e2; exact hd' _ e3)]; exact e2
    · exact e4.keepsBut (a := a) (fun b o hb e => by rw [hide_ne h hb]; exact e) ha hd''
  · intro f
    have hx : Str.ofString (bfName f) ∈ okNames := by
      unfold okNames
      refine List.mem_append.mpr (.inr (List.mem_map.mpr ⟨f, ?_, rfl⟩))
      cases f <;> simp
    refine el_A (hfree _ hx) fun e1 e2 => ?_
    refine ⟨e1, e2.trans ?_⟩
    cases f <;> rfl
  · refine el_A (hfree (Str.ofString "range") (by unfold okNames; simp)) fun e1 e2 => ?_
    exact ⟨e1, e2.trans rfl⟩
  · refine el_A (hfree (Str.ofString "enumerate") (by unfold okNames; simp)) fun e1 e2 => ?_
    exact ⟨e1, e2.trans rfl⟩
end
end Mine

/-! Join2 -/
namespace Mine
open PySem PySem.W PyProof.Rows PySem.SeqAt

theorem ints_all {h : Heap} {as : Nat → Addr} {N : Nat} : ∀ {vs : List Value} {l : List Int}, IntsAre vs l → All2 (Rep h as N) vs (l.map .int)
  | _, _, .nil => .nil
  | _, _, .cons n t r => .cons ⟨t, rfl⟩ (ints_all r)

noncomputable def stL (l : List Int) : St := St.alloc ⟨0, fun _ => none⟩ (.list (l.map .int))
theorem stL_get (l : List Int) : (stL l).get 0 = some (.list (l.map .int)) := rfl
theorem stL_wf (l : List Int) : WfS (stL l) := wf_alloc fun _ _ => rfl
theorem stL_obj (l : List Int) : (stL l).obj 0 = some ⟨0, .list (l.map .int)⟩ := rfl

section
variable {p prog : Program} {loose : List Str} {mean : ExcName → Option Value} {mg mb : Str → Option Value} {w : World}
theorem law_call {s : Shared} {a fa : Addr} {vs : List Value} {l : List Int} (T : Top p loose mean mg mb s.heap) (hp : okProg p loose = true) (hmg : mg (fnm 18) = some (.ref fa))
    (ha : s.heap.get? a = some { cls := .type "list", data := .seq vs.toArray }) (hI : IntsAre vs l) (hl : l.length ≤ 63) (hne : (a == sysModules) = false) :
    wpAny (model prog w) callerA (call (.ref fa) [.ref a]) (fun v s' => v = .bool true ∧ (∀ b o, s.heap.get? b = some o → s'.heap.get? b = some o) ∧ s'.os = s.os ∧ s'.gens = s.gens) NoE s := by
  have B : Base prog w (hide s.heap a) mg mb := base_of T hp ha (fun _ _ e => nomatch e) (fun _ e => nomatch e) (fun _ e => nomatch e)
  refine el_EA (run_law (stL_wf l) (stL_get l)) fun σ' e fr => ?_
  have e0 : ((fns[18]?).bind fun d => (bindP d.ps [.loc 0] noEn).bind fun ρ₁ =>
    (exs (ex 60) d.body ρ₁ (stL l)).bind fun q => some ((match q.1 with | .ret v => v | .next => AV.none), q.2.2)) = some (.bool true, σ') := e
  refine bind_elim e0 fun d e₂ e0 => ?_
  refine bind_elim e0 fun ρ₁ e₃ e0 => ?_
  refine bind3_elim e0 fun fl ρ' σ₂ e₄ e0 => ?_
  have e1 : (flV fl, σ₂) = (AV.bool true, σ') := Option.some.inj (by cases fl <;> exact e0)
  have hfl : flV fl = .bool true := congrArg Prod.fst e1
  have hσ : σ₂ = σ' := congrArg Prod.snd e1
  subst hσ
  refine el_EEEEEEE (B.fn 18 d e₂) fun fa' o pm code doc params body hq1 => ?_; refine el_EAAAA hq1 fun scope hm2 ho hd hcode hm => ?_; clear hq1
  rw [hmg] at hm2
  cases hm2
  have X := fn_ok hm
  have S : SRel prog w (hide s.heap a) s.heap (fun _ => a) (stL l) := by
    refine ⟨fun b o e => hide_sub _ _ _ _ e, fun k hk => ?_, stL_wf l, fun x y hx hy _ => ?_, fun _ _ => hide_at _ _, fun _ _ => hne, ?_⟩
    · have hk0 : k = 0 := by have : k < 1 := hk; omega
      subst hk0
      exact ⟨_, stL_obj l, by simp [lim]; omega, vs, ⟨_, ha⟩, ints_all hI⟩
    · have : x < 1 := hx
      have : y < 1 := hy
      omega
    · refine el_EA B.nolimit fun mc hq2 _ => ?_; refine el_EEEA hq2 fun o _ _ e _ => ?_
      exact ⟨o, e⟩
  have hkeep : ∀ b o, (hide s.heap a).get? b = some o → s.heap.get? b = some o := fun b o e => hide_sub _ _ _ _ e
  have q : All2 (Rep s.heap (fun _ => a) (stL l).next) [.ref a] [.loc 0] := .cons ⟨Nat.lt_succ_self _, rfl⟩ .nil
  have hA : AOk (callerA.deeper (callEnvC (Calls.docDef (fnm 18) params body scope pm code doc) s.heap.objs.size fa)) 60 := (⟨rfl, by decide, by decide⟩ : AOk callerA 61).deep _
  have hlen : ([.ref a] : List Value).length = (params.args.map (·.arg)).length := by
    rw [X.names, List.length_map, bindP_len e₃]; rfl
  have hb := bind_plain (name := fnm 18) (body := body) (scope := scope) (pm := pm) (cd := code) (doc := doc) X.pos X.vararg X.kwonly X.kwarg (by rw [X.names]; exact nodup_vn X.nodup fun x hx => (X.ps x hx).1) hlen
  refine wpAny_call (codeAny_call_cells (by decide) (hkeep _ _ ho) hd (B.nolimit.keeps hkeep) (hcode.keeps hkeep) rfl hb rfl ?_ ?_ X.cor X.gen X.kind)
  · intro x hx
    rw [X.names] at hx
    refine el_EA (List.mem_map.mp (List.of_mem_zip (a := x.1) (b := x.2) hx).1) fun y hy e => ?_
    refine el_A (X.ps y hy) fun _ hk => ?_
    rw [← e]
    rw [Bool.or_eq_true] at hk
    rcases hk with hk | hk
    · exact .inl (has_lookup hk)
    · refine .inr ⟨has_lookup hk, ?_⟩
      refine el_E (cellsFrom_has (n := s.heap.objs.size + 1) (acc := []) (mem_of_lookup (has_lookup hk))) fun cc hc => ?_
      refine el_E (lookup_some_of_mem hc) fun c' hc' => ?_
      show ((cellsFrom (s.heap.objs.size + 1) scope.names []).lookup (vn y)).isSome = true
      rw [hc']; rfl
  · intro s₂ Y
    rw [X.names] at Y
    refine wpAny_mono (body_sound (sound B 60).2.2 X (call_env (fd := Calls.docDef (fnm 18) params body scope pm code doc) X.kind rfl rfl) hA S Y rfl (cellsFrom_nodup (by exact List.nodup_nil) (fun _ _ h => nomatch h) X.nd) q e₃ e₄) (fun f s' P => ?_) fun _ _ z => z.elim
    refine el_EAA P fun as' Tt S' R => ?_; clear P
    rw [hfl] at R
    have hpost : (match f with | .ret v => v | _ => Value.none) = .bool true ∧ (∀ b o, s.heap.get? b = some o → s'.heap.get? b = some o) ∧ s'.os = s.os ∧ s'.gens = s.gens := by
      refine ⟨R, fun b o e => ?_, Tt.os, Tt.gens⟩
      by_cases hb : b = a
      · subst hb
        refine el_EAAA (Tt.mono 0 _ (Nat.lt_succ_self _) (stL_obj l)) fun o' h1 h2 h3 h4 => ?_
        have h5 := (fr.keep 0 (Nat.lt_succ_self _) (by simp)).trans (stL_obj l)
        rw [h1] at h5
        cases h5
        refine el_A (h4 rfl) fun _ h6 => ?_
        exact h6.trans e
      · exact Tt.keep b o e (fun f => f) fun _ _ => hb
    cases f <;> exact hpost
end
theorem list_of_well {P : PySem.Params} {h : Heap} {a : Addr} {vs : List Value} {l : List PyData} (hL : h.IsList a vs.toArray) (w : Well P h (.ref a) (ofPy (.list l))) :
    h.get? a = some { cls := .type "list", data := .seq vs.toArray } := by
  have w2 : Well P h (.ref a) (.list (ofPys l)) := w
  refine el_EAAE hL fun o e1 _ n e2 => ?_; clear hL
  cases w2 with
  | list e3 _ =>
    rw [e1] at e3
    cases e3
    injection e2 with e4 e5
    rw [e4] at e1
    exact e1
theorem not_modules {h : Heap} {a : Addr} {l : List PyData} {as bs : List Addr} (r : Reads h (.ref a) (.list l) as) (z : ∀ b ∈ as ++ bs, (b == sysModules) = false) : (a == sysModules) = false := by
  refine el_EEEAA (reads_list_items r) fun a' _ cs e1 e2 _ => ?_
  cases e1
  exact z a (by rw [e2]; exact List.mem_append_left _ (List.mem_cons_self ..))
theorem law_post (l : OpenLaw) (args : List WData) : l.row.claim.post args (.bool true) args = true :=
  postW_of (r := l.row.toRowW) (X := true) rfl (by
    show WTm.value l.row.records (.eq .res (.lit (.bool true))) _ = _
    simp [WTm.value, same]) rfl
theorem law_raises (l : OpenLaw) (args : List WData) (cls : ExcName) : l.row.claim.raises args cls = false :=
  raisesW_false (r := l.row.toRowW) (fun ct h => by cases h) cls
end Mine

namespace Mine
open PySem PySem.W PyProof.Rows
/-- the text with its defs alone -/
noncomputable def view : Program := { PySem.Challenge.pw_no0061_01 with main := { PySem.Challenge.pw_no0061_01.main with body := PySem.Challenge.pw_no0061_01.main.body.filter fun s => match s with | .FunctionDef .. => true | _ => false } }
set_option maxRecDepth 100000 in
set_option maxHeartbeats 8000000 in
theorem left : LeftO PySem.Challenge.rw_no0061_01.row.prog view [] (fun s => xlAt view [] s && recOk (RowW.records PySem.Challenge.rw_no0061_01.row.toRowW) s) (Hook.obs Hook.none) (Hook.val Hook.none) 1368 := fun w => by kernel_rfl
end Mine

open PySem PySem.W PyProof.Rows
set_option maxRecDepth 100000 in
set_option maxHeartbeats 8000000 in
theorem PySem.Challenge.cw_no0061_01_holds : PySem.Challenge.rw_no0061_01.Holds := by
  w_on
  o_law
  refine holds_open (q := Mine.view) (loose := []) (XP := XL Mine.view []) (YP := Hook.says Hook.none) Mine.left (Hook.of Hook.none) (Hook.keeps Hook.none) (fun s e => xl_of s (Bool.and_eq_true_iff.mp e).1) XL.keeps (by rfl) (by rfl) (by rfl) (fun s e => recFacts_of (Bool.and_eq_true_iff.mp e).2) (by rfl) (by assumption) (by decide +kernel) ⟨rfl, rfl, rfl, rfl, rfl, by decide +kernel⟩ ?hw ?hc
  case hw => w_witness2
  intro w s₀ s₁ mg mb G Y fa o pm cd doc dV kV ho hd hcd hD hmg hg args vals as hpre hlay hrd hwl hlo
  have T := G.T
  clear ho hd hcd hD
  have hlo2 := hlo
  wrow_args hpre hlay hrd hwl hlo
  rename_i l h1 h2 h3 h4 h5 as1 as2 a vs as3 hL ra w1 r0 hI hr hc1 hc2
  have hcall := Mine.law_call (prog := PySem.Challenge.rw_no0061_01.row.prog) (w := w) (a := a) (fa := fa) (vs := vs) (l := l) T (by decide +kernel) hmg
  have ha := Mine.list_of_well hL w1
  have hne := Mine.not_modules r0 hlo2
  refine wpAny_mono (hcall ha hI (by omega) hne) (fun v s' hv => ?_) (fun _ _ z => z.elim)
  obtain ⟨rfl, hk, hos, hgn⟩ := hv
  refine ⟨.inl ⟨.bool true, .bool true, [], rfl, ?_, .bool _, ?_, fun _ => ⟨List.nodup_nil, fun _ h => nomatch h⟩⟩, .of_keep hk, hos, .of_eq (hgn.trans hg)⟩
  · exact Mine.law_raises PySem.Challenge.rw_no0061_01 _
  · exact Mine.law_post PySem.Challenge.rw_no0061_01 _
