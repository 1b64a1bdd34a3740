import PyProof.Rows.All
import Wide.All
import OpenK.AllK
import Wide.FinOn
import PyProof.TableCode
import Lean
import PySem.Challenge.RW_nn0169_01
set_option Elab.async false
set_option compiler.extract_closed false
set_option bootstrap.genMatcherCode false
set_option linter.unusedVariables false
set_option linter.unusedSimpArgs false
set_option linter.deprecated false
set_option maxRecDepth 1000000
set_option tactic.hygienic false
set_option hygiene false
set_option genSizeOf false
set_option genInjectivity false
namespace Mi
section
open PySem
theorem e02 {P0 P1 : Prop} {Q : Prop} (h : P0 ∧ P1) (k : P0 → P1 → Q) : Q := k h.1 h.2
theorem e03 {P0 P1 P2 : Prop} {Q : Prop} (h : P0 ∧ P1 ∧ P2) (k : P0 → P1 → P2 → Q) : Q := k h.1 h.2.1 h.2.2
theorem e04 {P0 P1 P2 P3 : Prop} {Q : Prop} (h : P0 ∧ P1 ∧ P2 ∧ P3) (k : P0 → P1 → P2 → P3 → Q) : Q := k h.1 h.2.1 h.2.2.1 h.2.2.2
theorem e05 {P0 P1 P2 P3 P4 : Prop} {Q : Prop} (h : P0 ∧ P1 ∧ P2 ∧ P3 ∧ P4) (k : P0 → P1 → P2 → P3 → P4 → Q) : Q := k h.1 h.2.1 h.2.2.1 h.2.2.2.1 h.2.2.2.2
theorem e11 {α0 : Sort _} {P0 : α0 → Prop} {Q : Prop} (h : ∃ x0, P0 x0) (k : ∀ x0, P0 x0 → Q) : Q := h.elim fun x0 h => k x0 h
theorem e12 {α0 : Sort _} {P0 P1 : α0 → Prop} {Q : Prop} (h : ∃ x0, P0 x0 ∧ P1 x0) (k : ∀ x0, P0 x0 → P1 x0 → Q) : Q := h.elim fun x0 h => k x0 h.1 h.2
theorem e13 {α0 : Sort _} {P0 P1 P2 : α0 → Prop} {Q : Prop} (h : ∃ x0, P0 x0 ∧ P1 x0 ∧ P2 x0) (k : ∀ x0, P0 x0 → P1 x0 → P2 x0 → Q) : Q := h.elim fun x0 h => k x0 h.1 h.2.1 h.2.2
theorem e15 {α0 : Sort _} {P0 P1 P2 P3 P4 : α0 → Prop} {Q : Prop} (h : ∃ x0, P0 x0 ∧ P1 x0 ∧ P2 x0 ∧ P3 x0 ∧ P4 x0) (k : ∀ x0, P0 x0 → P1 x0 → P2 x0 → P3 x0 → P4 x0 → Q) : Q := h.elim fun x0 h => k x0 h.1 h.2.1 h.2.2.1 h.2.2.2.1 h.2.2.2.2
theorem e21 {α0 α1 : Sort _} {P0 : α0 → α1 → Prop} {Q : Prop} (h : ∃ x0, ∃ x1, P0 x0 x1) (k : ∀ x0 x1, P0 x0 x1 → Q) : Q := h.elim fun x0 h => h.elim fun x1 h => k x0 x1 h
theorem e22 {α0 α1 : Sort _} {P0 P1 : α0 → α1 → Prop} {Q : Prop} (h : ∃ x0, ∃ x1, P0 x0 x1 ∧ P1 x0 x1) (k : ∀ x0 x1, P0 x0 x1 → P1 x0 x1 → Q) : Q := h.elim fun x0 h => h.elim fun x1 h => k x0 x1 h.1 h.2
theorem e23 {α0 α1 : Sort _} {P0 P1 P2 : α0 → α1 → Prop} {Q : Prop} (h : ∃ x0, ∃ x1, P0 x0 x1 ∧ P1 x0 x1 ∧ P2 x0 x1) (k : ∀ x0 x1, P0 x0 x1 → P1 x0 x1 → P2 x0 x1 → Q) : Q := h.elim fun x0 h => h.elim fun x1 h => k x0 x1 h.1 h.2.1 h.2.2
theorem e24 {α0 α1 : Sort _} {P0 P1 P2 P3 : α0 → α1 → Prop} {Q : Prop} (h : ∃ x0, ∃ x1, P0 x0 x1 ∧ P1 x0 x1 ∧ P2 x0 x1 ∧ P3 x0 x1) (k : ∀ x0 x1, P0 x0 x1 → P1 x0 x1 → P2 x0 x1 → P3 x0 x1 → Q) : Q := h.elim fun x0 h => h.elim fun x1 h => k x0 x1 h.1 h.2.1 h.2.2.1 h.2.2.2
theorem e25 {α0 α1 : Sort _} {P0 P1 P2 P3 P4 : α0 → α1 → Prop} {Q : Prop} (h : ∃ x0, ∃ x1, P0 x0 x1 ∧ P1 x0 x1 ∧ P2 x0 x1 ∧ P3 x0 x1 ∧ P4 x0 x1) (k : ∀ x0 x1, P0 x0 x1 → P1 x0 x1 → P2 x0 x1 → P3 x0 x1 → P4 x0 x1 → Q) : Q := h.elim fun x0 h => h.elim fun x1 h => k x0 x1 h.1 h.2.1 h.2.2.1 h.2.2.2.1 h.2.2.2.2
theorem e27 {α0 α1 : Sort _} {P0 P1 P2 P3 P4 P5 P6 : α0 → α1 → Prop} {Q : Prop} (h : ∃ x0, ∃ x1, P0 x0 x1 ∧ P1 x0 x1 ∧ P2 x0 x1 ∧ P3 x0 x1 ∧ P4 x0 x1 ∧ P5 x0 x1 ∧ P6 x0 x1) (k : ∀ x0 x1, P0 x0 x1 → P1 x0 x1 → P2 x0 x1 → P3 x0 x1 → P4 x0 x1 → P5 x0 x1 → P6 x0 x1 → Q) : Q := h.elim fun x0 h => h.elim fun x1 h => k x0 x1 h.1 h.2.1 h.2.2.1 h.2.2.2.1 h.2.2.2.2.1 h.2.2.2.2.2.1 h.2.2.2.2.2.2
theorem e32 {α0 α1 α2 : Sort _} {P0 P1 : α0 → α1 → α2 → Prop} {Q : Prop} (h : ∃ x0, ∃ x1, ∃ x2, P0 x0 x1 x2 ∧ P1 x0 x1 x2) (k : ∀ x0 x1 x2, P0 x0 x1 x2 → P1 x0 x1 x2 → Q) : Q := h.elim fun x0 h => h.elim fun x1 h => h.elim fun x2 h => k x0 x1 x2 h.1 h.2
theorem e33 {α0 α1 α2 : Sort _} {P0 P1 P2 : α0 → α1 → α2 → Prop} {Q : Prop} (h : ∃ x0, ∃ x1, ∃ x2, P0 x0 x1 x2 ∧ P1 x0 x1 x2 ∧ P2 x0 x1 x2) (k : ∀ x0 x1 x2, P0 x0 x1 x2 → P1 x0 x1 x2 → P2 x0 x1 x2 → Q) : Q := h.elim fun x0 h => h.elim fun x1 h => h.elim fun x2 h => k x0 x1 x2 h.1 h.2.1 h.2.2
theorem e34 {α0 α1 α2 : Sort _} {P0 P1 P2 P3 : α0 → α1 → α2 → Prop} {Q : Prop} (h : ∃ x0, ∃ x1, ∃ x2, P0 x0 x1 x2 ∧ P1 x0 x1 x2 ∧ P2 x0 x1 x2 ∧ P3 x0 x1 x2) (k : ∀ x0 x1 x2, P0 x0 x1 x2 → P1 x0 x1 x2 → P2 x0 x1 x2 → P3 x0 x1 x2 → Q) : Q := h.elim fun x0 h => h.elim fun x1 h => h.elim fun x2 h => k x0 x1 x2 h.1 h.2.1 h.2.2.1 h.2.2.2
theorem e35 {α0 α1 α2 : Sort _} {P0 P1 P2 P3 P4 : α0 → α1 → α2 → Prop} {Q : Prop} (h : ∃ x0, ∃ x1, ∃ x2, P0 x0 x1 x2 ∧ P1 x0 x1 x2 ∧ P2 x0 x1 x2 ∧ P3 x0 x1 x2 ∧ P4 x0 x1 x2) (k : ∀ x0 x1 x2, P0 x0 x1 x2 → P1 x0 x1 x2 → P2 x0 x1 x2 → P3 x0 x1 x2 → P4 x0 x1 x2 → Q) : Q := h.elim fun x0 h => h.elim fun x1 h => h.elim fun x2 h => k x0 x1 x2 h.1 h.2.1 h.2.2.1 h.2.2.2.1 h.2.2.2.2
theorem e36 {α0 α1 α2 : Sort _} {P0 P1 P2 P3 P4 P5 : α0 → α1 → α2 → Prop} {Q : Prop} (h : ∃ x0, ∃ x1, ∃ x2, P0 x0 x1 x2 ∧ P1 x0 x1 x2 ∧ P2 x0 x1 x2 ∧ P3 x0 x1 x2 ∧ P4 x0 x1 x2 ∧ P5 x0 x1 x2) (k : ∀ x0 x1 x2, P0 x0 x1 x2 → P1 x0 x1 x2 → P2 x0 x1 x2 → P3 x0 x1 x2 → P4 x0 x1 x2 → P5 x0 x1 x2 → Q) : Q := h.elim fun x0 h => h.elim fun x1 h => h.elim fun x2 h => k x0 x1 x2 h.1 h.2.1 h.2.2.1 h.2.2.2.1 h.2.2.2.2.1 h.2.2.2.2.2
theorem e41 {α0 α1 α2 α3 : Sort _} {P0 : α0 → α1 → α2 → α3 → Prop} {Q : Prop} (h : ∃ x0, ∃ x1, ∃ x2, ∃ x3, P0 x0 x1 x2 x3) (k : ∀ x0 x1 x2 x3, P0 x0 x1 x2 x3 → Q) : Q := h.elim fun x0 h => h.elim fun x1 h => h.elim fun x2 h => h.elim fun x3 h => k x0 x1 x2 x3 h
theorem e42 {α0 α1 α2 α3 : Sort _} {P0 P1 : α0 → α1 → α2 → α3 → Prop} {Q : Prop} (h : ∃ x0, ∃ x1, ∃ x2, ∃ x3, P0 x0 x1 x2 x3 ∧ P1 x0 x1 x2 x3) (k : ∀ x0 x1 x2 x3, P0 x0 x1 x2 x3 → P1 x0 x1 x2 x3 → Q) : Q := h.elim fun x0 h => h.elim fun x1 h => h.elim fun x2 h => h.elim fun x3 h => k x0 x1 x2 x3 h.1 h.2
theorem e44 {α0 α1 α2 α3 : Sort _} {P0 P1 P2 P3 : α0 → α1 → α2 → α3 → Prop} {Q : Prop} (h : ∃ x0, ∃ x1, ∃ x2, ∃ x3, P0 x0 x1 x2 x3 ∧ P1 x0 x1 x2 x3 ∧ P2 x0 x1 x2 x3 ∧ P3 x0 x1 x2 x3) (k : ∀ x0 x1 x2 x3, P0 x0 x1 x2 x3 → P1 x0 x1 x2 x3 → P2 x0 x1 x2 x3 → P3 x0 x1 x2 x3 → Q) : Q := h.elim fun x0 h => h.elim fun x1 h => h.elim fun x2 h => h.elim fun x3 h => k x0 x1 x2 x3 h.1 h.2.1 h.2.2.1 h.2.2.2
theorem e45 {α0 α1 α2 α3 : Sort _} {P0 P1 P2 P3 P4 : α0 → α1 → α2 → α3 → Prop} {Q : Prop} (h : ∃ x0, ∃ x1, ∃ x2, ∃ x3, P0 x0 x1 x2 x3 ∧ P1 x0 x1 x2 x3 ∧ P2 x0 x1 x2 x3 ∧ P3 x0 x1 x2 x3 ∧ P4 x0 x1 x2 x3) (k : ∀ x0 x1 x2 x3, P0 x0 x1 x2 x3 → P1 x0 x1 x2 x3 → P2 x0 x1 x2 x3 → P3 x0 x1 x2 x3 → P4 x0 x1 x2 x3 → Q) : Q := h.elim fun x0 h => h.elim fun x1 h => h.elim fun x2 h => h.elim fun x3 h => k x0 x1 x2 x3 h.1 h.2.1 h.2.2.1 h.2.2.2.1 h.2.2.2.2
theorem e46 {α0 α1 α2 α3 : Sort _} {P0 P1 P2 P3 P4 P5 : α0 → α1 → α2 → α3 → Prop} {Q : Prop} (h : ∃ x0, ∃ x1, ∃ x2, ∃ x3, P0 x0 x1 x2 x3 ∧ P1 x0 x1 x2 x3 ∧ P2 x0 x1 x2 x3 ∧ P3 x0 x1 x2 x3 ∧ P4 x0 x1 x2 x3 ∧ P5 x0 x1 x2 x3) (k : ∀ x0 x1 x2 x3, P0 x0 x1 x2 x3 → P1 x0 x1 x2 x3 → P2 x0 x1 x2 x3 → P3 x0 x1 x2 x3 → P4 x0 x1 x2 x3 → P5 x0 x1 x2 x3 → Q) : Q := h.elim fun x0 h => h.elim fun x1 h => h.elim fun x2 h => h.elim fun x3 h => k x0 x1 x2 x3 h.1 h.2.1 h.2.2.1 h.2.2.2.1 h.2.2.2.2.1 h.2.2.2.2.2
theorem e47 {α0 α1 α2 α3 : Sort _} {P0 P1 P2 P3 P4 P5 P6 : α0 → α1 → α2 → α3 → Prop} {Q : Prop} (h : ∃ x0, ∃ x1, ∃ x2, ∃ x3, P0 x0 x1 x2 x3 ∧ P1 x0 x1 x2 x3 ∧ P2 x0 x1 x2 x3 ∧ P3 x0 x1 x2 x3 ∧ P4 x0 x1 x2 x3 ∧ P5 x0 x1 x2 x3 ∧ P6 x0 x1 x2 x3) (k : ∀ x0 x1 x2 x3, P0 x0 x1 x2 x3 → P1 x0 x1 x2 x3 → P2 x0 x1 x2 x3 → P3 x0 x1 x2 x3 → P4 x0 x1 x2 x3 → P5 x0 x1 x2 x3 → P6 x0 x1 x2 x3 → Q) : Q := h.elim fun x0 h => h.elim fun x1 h => h.elim fun x2 h => h.elim fun x3 h => k x0 x1 x2 x3 h.1 h.2.1 h.2.2.1 h.2.2.2.1 h.2.2.2.2.1 h.2.2.2.2.2.1 h.2.2.2.2.2.2
theorem e51 {α0 α1 α2 α3 α4 : Sort _} {P0 : α0 → α1 → α2 → α3 → α4 → Prop} {Q : Prop} (h : ∃ x0, ∃ x1, ∃ x2, ∃ x3, ∃ x4, P0 x0 x1 x2 x3 x4) (k : ∀ x0 x1 x2 x3 x4, P0 x0 x1 x2 x3 x4 → Q) : Q := h.elim fun x0 h => h.elim fun x1 h => h.elim fun x2 h => h.elim fun x3 h => h.elim fun x4 h => k x0 x1 x2 x3 x4 h
theorem e53 {α0 α1 α2 α3 α4 : Sort _} {P0 P1 P2 : α0 → α1 → α2 → α3 → α4 → Prop} {Q : Prop} (h : ∃ x0, ∃ x1, ∃ x2, ∃ x3, ∃ x4, P0 x0 x1 x2 x3 x4 ∧ P1 x0 x1 x2 x3 x4 ∧ P2 x0 x1 x2 x3 x4) (k : ∀ x0 x1 x2 x3 x4, P0 x0 x1 x2 x3 x4 → P1 x0 x1 x2 x3 x4 → P2 x0 x1 x2 x3 x4 → Q) : Q := h.elim fun x0 h => h.elim fun x1 h => h.elim fun x2 h => h.elim fun x3 h => h.elim fun x4 h => k x0 x1 x2 x3 x4 h.1 h.2.1 h.2.2
theorem e54 {α0 α1 α2 α3 α4 : Sort _} {P0 P1 P2 P3 : α0 → α1 → α2 → α3 → α4 → Prop} {Q : Prop} (h : ∃ x0, ∃ x1, ∃ x2, ∃ x3, ∃ x4, P0 x0 x1 x2 x3 x4 ∧ P1 x0 x1 x2 x3 x4 ∧ P2 x0 x1 x2 x3 x4 ∧ P3 x0 x1 x2 x3 x4) (k : ∀ x0 x1 x2 x3 x4, P0 x0 x1 x2 x3 x4 → P1 x0 x1 x2 x3 x4 → P2 x0 x1 x2 x3 x4 → P3 x0 x1 x2 x3 x4 → Q) : Q := h.elim fun x0 h => h.elim fun x1 h => h.elim fun x2 h => h.elim fun x3 h => h.elim fun x4 h => k x0 x1 x2 x3 x4 h.1 h.2.1 h.2.2.1 h.2.2.2
theorem i12 {α0 : Sort _} {P0 P1 : α0 → Prop} {x0 : α0} (h0 : P0 x0) (h1 : P1 x0) : ∃ y0, P0 y0 ∧ P1 y0 := ⟨x0, h0, h1⟩
theorem i13 {α0 : Sort _} {P0 P1 P2 : α0 → Prop} {x0 : α0} (h0 : P0 x0) (h1 : P1 x0) (h2 : P2 x0) : ∃ y0, P0 y0 ∧ P1 y0 ∧ P2 y0 := ⟨x0, h0, h1, h2⟩
theorem i21 {α0 α1 : Sort _} {P0 : α0 → α1 → Prop} {x0 : α0} {x1 : α1} (h0 : P0 x0 x1) : ∃ y0, ∃ y1, P0 y0 y1 := ⟨x0, x1, h0⟩
theorem i22 {α0 α1 : Sort _} {P0 P1 : α0 → α1 → Prop} {x0 : α0} {x1 : α1} (h0 : P0 x0 x1) (h1 : P1 x0 x1) : ∃ y0, ∃ y1, P0 y0 y1 ∧ P1 y0 y1 := ⟨x0, x1, h0, h1⟩
theorem i23 {α0 α1 : Sort _} {P0 P1 P2 : α0 → α1 → Prop} {x0 : α0} {x1 : α1} (h0 : P0 x0 x1) (h1 : P1 x0 x1) (h2 : P2 x0 x1) : ∃ y0, ∃ y1, P0 y0 y1 ∧ P1 y0 y1 ∧ P2 y0 y1 := ⟨x0, x1, h0, h1, h2⟩
theorem i24 {α0 α1 : Sort _} {P0 P1 P2 P3 : α0 → α1 → Prop} {x0 : α0} {x1 : α1} (h0 : P0 x0 x1) (h1 : P1 x0 x1) (h2 : P2 x0 x1) (h3 : P3 x0 x1) : ∃ y0, ∃ y1, P0 y0 y1 ∧ P1 y0 y1 ∧ P2 y0 y1 ∧ P3 y0 y1 := ⟨x0, x1, h0, h1, h2, h3⟩
theorem i36 {α0 α1 α2 : Sort _} {P0 P1 P2 P3 P4 P5 : α0 → α1 → α2 → Prop} {x0 : α0} {x1 : α1} {x2 : α2} (h0 : P0 x0 x1 x2) (h1 : P1 x0 x1 x2) (h2 : P2 x0 x1 x2) (h3 : P3 x0 x1 x2) (h4 : P4 x0 x1 x2) (h5 : P5 x0 x1 x2) : ∃ y0, ∃ y1, ∃ y2, P0 y0 y1 y2 ∧ P1 y0 y1 y2 ∧ P2 y0 y1 y2 ∧ P3 y0 y1 y2 ∧ P4 y0 y1 y2 ∧ P5 y0 y1 y2 := ⟨x0, x1, x2, h0, h1, h2, h3, h4, h5⟩
theorem i41 {α0 α1 α2 α3 : Sort _} {P0 : α0 → α1 → α2 → α3 → Prop} {x0 : α0} {x1 : α1} {x2 : α2} {x3 : α3} (h0 : P0 x0 x1 x2 x3) : ∃ y0, ∃ y1, ∃ y2, ∃ y3, P0 y0 y1 y2 y3 := ⟨x0, x1, x2, x3, h0⟩
theorem i42 {α0 α1 α2 α3 : Sort _} {P0 P1 : α0 → α1 → α2 → α3 → Prop} {x0 : α0} {x1 : α1} {x2 : α2} {x3 : α3} (h0 : P0 x0 x1 x2 x3) (h1 : P1 x0 x1 x2 x3) : ∃ y0, ∃ y1, ∃ y2, ∃ y3, P0 y0 y1 y2 y3 ∧ P1 y0 y1 y2 y3 := ⟨x0, x1, x2, x3, h0, h1⟩
theorem i44 {α0 α1 α2 α3 : Sort _} {P0 P1 P2 P3 : α0 → α1 → α2 → α3 → Prop} {x0 : α0} {x1 : α1} {x2 : α2} {x3 : α3} (h0 : P0 x0 x1 x2 x3) (h1 : P1 x0 x1 x2 x3) (h2 : P2 x0 x1 x2 x3) (h3 : P3 x0 x1 x2 x3) : ∃ y0, ∃ y1, ∃ y2, ∃ y3, P0 y0 y1 y2 y3 ∧ P1 y0 y1 y2 y3 ∧ P2 y0 y1 y2 y3 ∧ P3 y0 y1 y2 y3 := ⟨x0, x1, x2, x3, h0, h1, h2, h3⟩
theorem i45 {α0 α1 α2 α3 : Sort _} {P0 P1 P2 P3 P4 : α0 → α1 → α2 → α3 → Prop} {x0 : α0} {x1 : α1} {x2 : α2} {x3 : α3} (h0 : P0 x0 x1 x2 x3) (h1 : P1 x0 x1 x2 x3) (h2 : P2 x0 x1 x2 x3) (h3 : P3 x0 x1 x2 x3) (h4 : P4 x0 x1 x2 x3) : ∃ y0, ∃ y1, ∃ y2, ∃ y3, P0 y0 y1 y2 y3 ∧ P1 y0 y1 y2 y3 ∧ P2 y0 y1 y2 y3 ∧ P3 y0 y1 y2 y3 ∧ P4 y0 y1 y2 y3 := ⟨x0, x1, x2, x3, h0, h1, h2, h3, h4⟩
theorem i46 {α0 α1 α2 α3 : Sort _} {P0 P1 P2 P3 P4 P5 : α0 → α1 → α2 → α3 → Prop} {x0 : α0} {x1 : α1} {x2 : α2} {x3 : α3} (h0 : P0 x0 x1 x2 x3) (h1 : P1 x0 x1 x2 x3) (h2 : P2 x0 x1 x2 x3) (h3 : P3 x0 x1 x2 x3) (h4 : P4 x0 x1 x2 x3) (h5 : P5 x0 x1 x2 x3) : ∃ y0, ∃ y1, ∃ y2, ∃ y3, P0 y0 y1 y2 y3 ∧ P1 y0 y1 y2 y3 ∧ P2 y0 y1 y2 y3 ∧ P3 y0 y1 y2 y3 ∧ P4 y0 y1 y2 y3 ∧ P5 y0 y1 y2 y3 := ⟨x0, x1, x2, x3, h0, h1, h2, h3, h4, h5⟩
theorem i54 {α0 α1 α2 α3 α4 : Sort _} {P0 P1 P2 P3 : α0 → α1 → α2 → α3 → α4 → Prop} {x0 : α0} {x1 : α1} {x2 : α2} {x3 : α3} {x4 : α4} (h0 : P0 x0 x1 x2 x3 x4) (h1 : P1 x0 x1 x2 x3 x4) (h2 : P2 x0 x1 x2 x3 x4) (h3 : P3 x0 x1 x2 x3 x4) : ∃ y0, ∃ y1, ∃ y2, ∃ y3, ∃ y4, P0 y0 y1 y2 y3 y4 ∧ P1 y0 y1 y2 y3 y4 ∧ P2 y0 y1 y2 y3 y4 ∧ P3 y0 y1 y2 y3 y4 := ⟨x0, x1, x2, x3, x4, h0, h1, h2, h3⟩
inductive BI where
  | len | range | int | abs | str | chr | sorted | tuple | dict | bytes | isinstance | min | bool | list
inductive BOp where | add | sub | mul | fdiv | mod | pow
inductive COp where | eq | ne | lt | le | gt | ge | is | isnt | isin | nin
inductive V where
  | none
  | bool (b : Bool)
  | int (i : Int)
  | str (l : List Nat)
  | bytes (l : List Nat)
  | tup (l : List V)
  | obj (c : Nat) (fs : List V)
  | ref (a : Nat)
  | fn (f : Nat)
  | cls (c : Nat)
  | bi (b : BI)
  | rng (lo : Int) (st : Int) (n : Nat)
inductive O where
  | list (l : List V)
  | dict (ep : Nat) (l : List (V × V))
  | inst (c : Nat) (fs : List V)
  | hid (x : Nat)
  | ro (l : List V)
structure Hp where
  get : Nat → Option O
  top : Nat
noncomputable def Hp.set (h : Hp) (a : Nat) (o : O) : Hp := ⟨fun b => if b = a then some o else h.get b, h.top⟩
noncomputable def Hp.add (h : Hp) (a : Nat) (o : O) : Hp := ⟨fun b => if b = a then some o else h.get b, a + 1⟩
noncomputable abbrev Ls := List (Option V)
inductive Ex where
  | stuck
  | cst (v : V)
  | loc (i : Nat)
  | bin (op : BOp) (a b : Ex)
  | not (a : Ex)
  | neg (a : Ex)
  | cmp (a : Ex) (l : List (COp × Ex))
  | and (l : List Ex)
  | or (l : List Ex)
  | ite (t a b : Ex)
  | attr (e : Ex) (f : Nat)
  | idx (e i : Ex)
  | slc (e : Ex) (lo hi st : Ex)
  | call (f : Ex) (l : List Ex)
  | meth (o : Ex) (m : Nat) (l : List Ex)
  | tup (l : List Ex)
  | list (l : List Ex)
  | dict (l : List (Ex × Ex))
  | lcomp (elt src : Ex) (ifs : List Ex) (sl : List (Option Nat))
  | dcomp (k v src : Ex) (ifs : List Ex) (sl : List (Option Nat))
inductive Tg where
  | stuck
  | loc (i : Nat)
  | attr (e : Ex) (f : Nat)
  | sub (o i : Ex)
  | tup (l : List Nat)
inductive St where
  | stuck
  | expr (e : Ex)
  | ret (e : Ex)
  | asg (t : Tg) (e : Ex)
  | ite (t : Ex) (a b : List St)
  | whl (t : Ex) (b : List St)
  | for_ (t : Tg) (e : Ex) (b : List St)
  | cont
  | brk
inductive Fl where
  | next | cont | brk
  | ret (v : V)
structure Need (p q : Prop) : Prop where
  need : p
  out : q
inductive RdO (h : Hp) (a : Nat) (k : O → Prop) : Prop
  | mk (o : O) : h.get a = some o → k o → RdO h a k
inductive Som {α : Type} (x : Option α) (k : α → Prop) : Prop
  | mk (v : α) : x = some v → k v → Som x k
inductive Val (x : V) (k : V → Prop) : Prop
  | mk (v : V) : x = v → k v → Val x k
structure MIf (b : Bool) (t e : Prop) : Prop where
  t : b = true → t
  e : b = false → e
structure Fresh (h : Hp) (k : Nat → Prop) : Prop where
  out : ∀ a, h.top ≤ a → k a
structure Fr1 (h : Hp) (o : O) (q : Nat → Hp → Prop) : Prop where
  out : Fresh h fun a => q a (h.add a o)
structure FrD (h : Hp) (l : List (V × V)) (q : Nat → Hp → Prop) : Prop where
  out : Fresh h fun a => ∀ ep : Nat, q a (h.add a (.dict ep l))
structure Stop (p : Prop) : Prop where
  out : p
noncomputable def eqS (a : Nat) (D : List Nat → Bool) (m : List Nat) : Bool := match m with
  | [] => false
  | b :: m => Nat.beq a b && D m
noncomputable def eqL (l : List Nat) : List Nat → Bool := List.rec List.isEmpty (fun a Z D => eqS a D) l
theorem eqL_iff {l : List Nat} : ∀ {m : List Nat}, eqL l m = decide (l = m) := by
  induction l with
  | nil => intro m; induction m using List.casesOn <;> rfl
  | cons a l ih =>
    intro m
    induction m using List.casesOn with
    | nil => rfl
    | cons b m =>
      show (Nat.beq a b && eqL l m) = _
      rw [ih, Bool.eq_iff_iff, Bool.and_eq_true_iff, Nat.beq_eq, decide_eq_true_iff, decide_eq_true_iff, List.cons.injEq]
section
variable {α : Type}
noncomputable def onSome (f : α → Prop) (x : Option α) : Prop := match x with
  | some v => f v
  | none => False
noncomputable def isI (v : V) : Option Int := match v with
  | .int j => some j
  | _ => none
noncomputable def isS (v : V) : Option (List Nat) := match v with
  | .str j => some j
  | _ => none
noncomputable def isY (v : V) : Option (List Nat) := match v with
  | .bytes j => some j
  | _ => none
noncomputable def isT (v : V) : Option (List V) := match v with
  | .tup j => some j
  | _ => none
noncomputable def isR (v : V) : Option Nat := match v with
  | .ref j => some j
  | _ => none
noncomputable def isB (v : V) : Option Bool := match v with
  | .bool j => some j
  | _ => none
noncomputable def onInt (f : Int → Prop) (v : V) : Prop := onSome f (isI v)
noncomputable def onStr (f : List Nat → Prop) (v : V) : Prop := onSome f (isS v)
noncomputable def onBytes (f : List Nat → Prop) (v : V) : Prop := onSome f (isY v)
noncomputable def onTup (f : List V → Prop) (v : V) : Prop := onSome f (isT v)
noncomputable def onRef (f : Nat → Prop) (v : V) : Prop := onSome f (isR v)
noncomputable def onBool (f : Bool → Prop) (v : V) : Prop := onSome f (isB v)
noncomputable def onNone (p : Prop) (v : V) : Prop := match v with
  | .none => p
  | _ => False
noncomputable def oList (f : List V → Prop) (o : O) : Prop := match o with
  | .list l => f l
  | _ => False
noncomputable def oDict (f : List (V × V) → Prop) (o : O) : Prop := match o with
  | .dict _ l => f l
  | _ => False
noncomputable def oInst (f : Nat → List V → Prop) (o : O) : Prop := match o with
  | .inst c l => f c l
  | _ => False
noncomputable def onNil (p : Prop) (l : List α) : Prop := match l with
  | [] => p
  | _ :: _ => False
noncomputable def onCons (f : α → List α → Prop) (l : List α) : Prop := match l with
  | [] => False
  | a :: l => f a l
noncomputable def on1 (f : α → Prop) (l : List α) : Prop := onCons (fun a => onNil (f a)) l
noncomputable def on2 (f : α → α → Prop) (l : List α) : Prop := onCons (fun a => on1 (f a)) l
theorem none_ne {b : α} {p : Prop} (e : none = some b) : p := by cases e
theorem onSome_inv {f : α → Prop} {x : Option α} (h : onSome f x) : ∃ v, x = some v ∧ f v := by
  induction x using Option.casesOn with
  | none => exact h.elim
  | some v => exact ⟨v, rfl, h⟩
noncomputable def soms {β : Type} (f : β → Prop) (x : Option β) : Prop := match x with
  | some v => f v
  | none => True
theorem soms_at {β : Type} {f : β → Prop} {x : Option β} {v : β} (h : soms f x) (e : x = some v) : f v := by
  rw [e] at h; exact h
theorem isI_all (v : V) : soms (fun j => v = .int j) (isI v) := by induction v using V.casesOn <;> first | exact trivial | rfl
theorem isI_inv {v j} (h : isI v = some j) : v = .int j := soms_at (f := fun j => v = .int j) (isI_all v) h
theorem onInt_inv {f v} (h : onInt f v) : ∃ i, v = .int i ∧ f i := let ⟨i, e, q⟩ := onSome_inv h; ⟨i, isI_inv e, q⟩
theorem isS_all (v : V) : soms (fun j => v = .str j) (isS v) := by induction v using V.casesOn <;> first | exact trivial | rfl
theorem isS_inv {v j} (h : isS v = some j) : v = .str j := soms_at (f := fun j => v = .str j) (isS_all v) h
theorem onStr_inv {f v} (h : onStr f v) : ∃ i, v = .str i ∧ f i := let ⟨i, e, q⟩ := onSome_inv h; ⟨i, isS_inv e, q⟩
theorem isY_all (v : V) : soms (fun j => v = .bytes j) (isY v) := by induction v using V.casesOn <;> first | exact trivial | rfl
theorem isY_inv {v j} (h : isY v = some j) : v = .bytes j := soms_at (f := fun j => v = .bytes j) (isY_all v) h
theorem onBytes_inv {f v} (h : onBytes f v) : ∃ i, v = .bytes i ∧ f i := let ⟨i, e, q⟩ := onSome_inv h; ⟨i, isY_inv e, q⟩
theorem isT_all (v : V) : soms (fun j => v = .tup j) (isT v) := by induction v using V.casesOn <;> first | exact trivial | rfl
theorem isT_inv {v j} (h : isT v = some j) : v = .tup j := soms_at (f := fun j => v = .tup j) (isT_all v) h
theorem onTup_inv {f v} (h : onTup f v) : ∃ i, v = .tup i ∧ f i := let ⟨i, e, q⟩ := onSome_inv h; ⟨i, isT_inv e, q⟩
theorem isR_all (v : V) : soms (fun j => v = .ref j) (isR v) := by induction v using V.casesOn <;> first | exact trivial | rfl
theorem isR_inv {v j} (h : isR v = some j) : v = .ref j := soms_at (f := fun j => v = .ref j) (isR_all v) h
theorem onRef_inv {f v} (h : onRef f v) : ∃ i, v = .ref i ∧ f i := let ⟨i, e, q⟩ := onSome_inv h; ⟨i, isR_inv e, q⟩
theorem isB_all (v : V) : soms (fun j => v = .bool j) (isB v) := by induction v using V.casesOn <;> first | exact trivial | rfl
theorem isB_inv {v j} (h : isB v = some j) : v = .bool j := soms_at (f := fun j => v = .bool j) (isB_all v) h
theorem onBool_inv {f v} (h : onBool f v) : ∃ i, v = .bool i ∧ f i := let ⟨i, e, q⟩ := onSome_inv h; ⟨i, isB_inv e, q⟩
theorem onNone_inv {f v} (h : onNone f v) : v = .none ∧ f := by
  induction v using V.casesOn with
  | none => exact ⟨rfl, h⟩
  | _ => exact h.elim
theorem oList_inv {f o} (h : oList f o) : ∃ l, o = .list l ∧ f l := by
  induction o using O.casesOn with
  | list l => exact ⟨l, rfl, h⟩
  | _ => exact h.elim
theorem oDict_inv {f o} (h : oDict f o) : ∃ ep l, o = .dict ep l ∧ f l := by
  induction o using O.casesOn with
  | dict ep l => exact ⟨ep, l, rfl, h⟩
  | _ => exact h.elim
theorem oInst_inv {f o} (h : oInst f o) : ∃ c l, o = .inst c l ∧ f c l := by
  induction o using O.casesOn with
  | inst c l => exact ⟨c, l, rfl, h⟩
  | _ => exact h.elim
theorem onNil_inv {p : Prop} {l : List α} (h : onNil p l) : l = [] ∧ p := by
  induction l using List.casesOn with
  | nil => exact ⟨rfl, h⟩
  | cons _ _ => exact h.elim
theorem onCons_inv {f : α → List α → Prop} {l : List α} (h : onCons f l) : ∃ a r, l = a :: r ∧ f a r := by
  induction l using List.casesOn with
  | nil => exact h.elim
  | cons a r => exact ⟨a, r, rfl, h⟩
theorem on1_inv {f : α → Prop} {l : List α} (h : on1 f l) : ∃ a, l = [a] ∧ f a := by
  refine e22 (onCons_inv h) fun a r eq1 => ?_
  subst eq1
  intro h
  refine e02 (onNil_inv h) fun eq1 => ?_
  subst eq1
  intro h
  exact ⟨a, rfl, h⟩
theorem on2_inv {f : α → α → Prop} {l : List α} (h : on2 f l) : ∃ a b, l = [a, b] ∧ f a b := by
  refine e22 (onCons_inv h) fun a r eq1 => ?_
  subst eq1
  intro h
  refine e12 (on1_inv h) fun b eq1 => ?_
  subst eq1
  intro h
  exact ⟨a, b, rfl, h⟩
end
theorem rdList {h : Hp} {a : Nat} {f : List V → Prop} (k : RdO h a (oList f)) : ∃ l, h.get a = some (.list l) ∧ f l := by
  obtain ⟨o, e, k⟩ := k
  refine e12 (oList_inv k) fun l eq1 => ?_
  subst eq1
  intro k
  exact ⟨l, e, k⟩
theorem rdDict {h : Hp} {a : Nat} {f : List (V × V) → Prop} (k : RdO h a (oDict f)) : ∃ ep l, h.get a = some (.dict ep l) ∧ f l := by
  obtain ⟨o, e, k⟩ := k
  refine e22 (oDict_inv k) fun ep l eq1 => ?_
  subst eq1
  intro k
  exact ⟨ep, l, e, k⟩
theorem rdInst {h : Hp} {a : Nat} {f : Nat → List V → Prop} (k : RdO h a (oInst f)) : ∃ c l, h.get a = some (.inst c l) ∧ f c l := by
  obtain ⟨o, e, k⟩ := k
  refine e22 (oInst_inv k) fun c l eq1 => ?_
  subst eq1
  intro k
  exact ⟨c, l, e, k⟩
noncomputable def eqP (v w : V) : Option Bool := match v with
  | .int a => (isI w).map fun b => decide (a = b)
  | .str a => (isS w).map fun b => eqL a b
  | .bytes a => (isY w).map fun b => eqL a b
  | _ => none
noncomputable def pyS (D : V → Bool) (v : V) : Bool := match v with
  | .none => true
  | .int _ => true
  | .str l => l.all (fun c => Nat.blt c 128)
  | .tup l => l.all D
  | _ => false
noncomputable def pyOk (n : Nat) : V → Bool := Nat.rec (fun Z => false) (fun Z => pyS) n
structure MEq (p : Prop) (k : Bool → Prop) : Prop where
  out : ∀ b, (b = true ↔ p) → k b
noncomputable def lookI (i : Int) : List (V × V) → Option V
  | [] => none
  | e :: r => match isI e.1 with
    | some j => if i = j then some e.2 else lookI i r
    | none => lookI i r
noncomputable def lookS (x : List Nat) : List (V × V) → Option V
  | [] => none
  | e :: r => match isS e.1 with
    | some y => cond (eqL x y) (some e.2) (lookS x r)
    | none => lookS x r
noncomputable def putI (i : Int) (v : V) : List (V × V) → List (V × V)
  | [] => [(.int i, v)]
  | e :: r => match isI e.1 with
    | some j => if i = j then (.int j, v) :: r else (.int j, e.2) :: putI i v r
    | none => e :: putI i v r
noncomputable def putS (x : List Nat) (v : V) : List (V × V) → List (V × V)
  | [] => [(.str x, v)]
  | e :: r => match isS e.1 with
    | some y => cond (eqL x y) ((.str y, v) :: r) ((.str y, e.2) :: putS x v r)
    | none => e :: putS x v r
theorem lookS_ne {x y : List Nat} {u : V} {r : List (V × V)} (h : eqL x y = false) : lookS x ((.str y, u) :: r) = lookS x r := congrArg (cond · (some u) (lookS x r)) h
theorem lookS_eq {x y : List Nat} {u : V} {r : List (V × V)} (h : eqL x y = true) : lookS x ((.str y, u) :: r) = some u := congrArg (cond · (some u) (lookS x r)) h
noncomputable def delI (i : Int) (es : List (V × V)) : List (V × V) := es.filter fun e => match isI e.1 with
  | some j => !decide (i = j)
  | none => true
noncomputable def intKeys : List (V × V) → Option (List Int)
  | [] => some []
  | e :: r => match isI e.1 with
    | some i => (intKeys r).map (i :: ·)
    | none => none
noncomputable def strKeys : List (V × V) → Bool
  | [] => true
  | e :: r => match isS e.1 with
    | some _ => strKeys r
    | none => false
noncomputable def small (l : Nat) : Prop := l ≤ 1000000
noncomputable abbrev KE := V → Hp → Prop
noncomputable abbrev KB := Bool → Hp → Prop
noncomputable def atH (k : KE) (h : Hp) : V → Prop := fun r => k r h
noncomputable def kB (k : V → Prop) : Bool → Prop := fun b => k (.bool b)
noncomputable def kNB (k : V → Prop) : Bool → Prop := fun b => k (.bool (!b))
noncomputable def truthy (v : V) (h : Hp) (k : Bool → Prop) : Prop := match v with
  | .none => k false
  | .bool b => k b
  | .int i => k (i != 0)
  | .ref a => RdO h a (oList fun l => Need (l.length ≤ 1000000) (k (!l.isEmpty)))
  | _ => False
noncomputable def dBin (op : BOp) (a b : V) (k : V → Prop) : Prop := match op with
  | .sub => onInt (fun x => onInt (fun y => k (.int (x - y))) b) a
  | .mul => onInt (fun x => onInt (fun y => Need (x.natAbs < 2 ^ 62 ∧ y.natAbs < 2 ^ 62) (k (.int (x * y)))) b) a
  | .fdiv => onInt (fun x => onInt (fun y => Need (0 < y ∧ (y < 1000000000000 ∨ y = 10 ^ 240)) (k (.int (x / y)))) b) a
  | .mod => onInt (fun x => onInt (fun y => Need (0 < y) (k (.int (x % y)))) b) a
  | .pow => onInt (fun x => onInt (fun y => Need (x = 10 ∧ 0 ≤ y ∧ y ≤ 300) (k (.int (x ^ y.toNat)))) b) a
  | .add => match a with
    | .int x => onInt (fun y => k (.int (x + y))) b
    | .str x => onStr (fun y => Need (small (x.length + y.length)) (k (.str (x ++ y)))) b
    | .tup x => onTup (fun y => Need (small (x.length + y.length)) (k (.tup (x ++ y)))) b
    | _ => False
noncomputable def inL (x : V) (l : List V) : Option Bool := List.rec (some false) (fun y Z D => (eqP y x).bind fun b => D.map (b || ·)) l
noncomputable def isNone (v : V) : Bool := match v with
  | .none => true
  | _ => false
noncomputable def dEq (a b : V) (h : Hp) (q : Bool → Prop) : Prop := match a with
  | .ref x => onRef (fun y => RdO h x fun o => RdO h y fun p => oList (fun l => oList (onNil (q l.isEmpty)) p) o) b
  | .tup x => onTup (fun y => Need (pyOk 8 (.tup x) = true ∧ pyOk 8 (.tup y) = true) (MEq (x = y) q)) b
  | v => onSome q (eqP v b)
noncomputable def dIn (a b : V) (h : Hp) (q : Bool → Prop) : Prop := match b with
  | .ref d => onInt (fun x => RdO h d (oDict fun es => Need (intKeys es ≠ none) (q (lookI x es).isSome))) a
  | .tup l => Som (inL a l) q
  | _ => False
noncomputable def dCmp (op : COp) (a b : V) (h : Hp) (k : V → Prop) : Prop := match op with
  | .lt => onInt (fun x => onInt (fun y => k (.bool (decide (x < y)))) b) a
  | .le => onInt (fun x => onInt (fun y => k (.bool (decide (x ≤ y)))) b) a
  | .gt => onInt (fun x => onInt (fun y => k (.bool (decide (x > y)))) b) a
  | .ge => onInt (fun x => onInt (fun y => k (.bool (decide (x ≥ y)))) b) a
  | .is => onNone (k (.bool (isNone a))) b
  | .isnt => onNone (k (.bool (!isNone a))) b
  | .eq => dEq a b h (kB k)
  | .ne => dEq a b h (kNB k)
  | .isin => dIn a b h (kB k)
  | .nin => dIn a b h (kNB k)
noncomputable def pickL (l : List V) (i : Int) : Option V := if 0 ≤ i then l[i.toNat]? else if i = -1 then l.getLast? else none
noncomputable def idxO (i : V) (k : V → Prop) (o : O) : Prop := match o with
  | .list l => onInt (fun j => Need (small l.length) (Som (pickL l j) k)) i
  | .dict _ es => match i with
    | .int j => Need (intKeys es ≠ none) (Som (lookI j es) k)
    | .str x => Som (lookS x es) k
    | _ => False
  | _ => False
noncomputable def dIdx (o i : V) (h : Hp) (k : V → Prop) : Prop := match o with
  | .bytes l => onInt (fun j => Need (0 ≤ j ∧ j < l.length ∧ small l.length) (k (.int (l.getD j.toNat 0)))) i
  | .tup l => onInt (fun j => Need (0 ≤ j ∧ j < l.length ∧ small l.length) (Som (l[j.toNat]?) k)) i
  | .ref a => RdO h a (idxO i k)
  | _ => False
noncomputable def kRef (k : KE) : Nat → Hp → Prop := fun a h => k (.ref a) h
noncomputable def cut {α : Type} (l : List α) (lo hi : Nat) : List α := (l.take hi).drop lo
noncomputable def takeO (b : Int) (h : Hp) (k : KE) (o : O) : Prop := match o with
  | .list l => Need (0 ≤ b ∧ small l.length) (Fr1 h (.list (l.take b.toNat)) (kRef k))
  | .ro l => Need (0 ≤ b ∧ small l.length) (Fr1 h (.list (l.take b.toNat)) (kRef k))
  | _ => False
noncomputable def dSlc (o lo hi st : V) (h : Hp) (k : KE) : Prop := match o with
  | .bytes l => onInt (fun a => onNone (match hi with
    | .none => Need (0 ≤ a ∧ small l.length) (k (.bytes (l.drop a.toNat)) h)
    | .int b => Need (0 ≤ a ∧ 0 ≤ b ∧ small l.length) (k (.bytes (cut l a.toNat b.toNat)) h)
    | _ => False) st) lo
  | .ref x => match lo with
    | .int a => onNone (onNone (RdO h x (oList fun l => Need (0 ≤ a ∧ small l.length) (Fr1 h (.list (l.drop a.toNat)) (kRef k)))) st) hi
    | .none => match hi with
      | .int b => onNone (RdO h x (takeO b h k)) st
      | .none => onInt (fun s => Need (s = -1) (RdO h x (oList fun l => Need (small l.length) (Fr1 h (.list l.reverse) (kRef k))))) st
      | _ => False
    | _ => False
  | _ => False
structure Fn where
  np : Nat
  dfl : List V
  nl : Nat
  body : List St
structure Ci where
  init : Nat
  frozen : Bool
  flds : List Nat
  meths : List (Nat × Nat)
structure Pr where
  fn : Nat → Option Fn
  ci : Nat → Option Ci
  isi : List Nat
noncomputable def mAppend : Nat := 0
noncomputable def mPop : Nat := 1
noncomputable def mGet : Nat := 2
noncomputable def mUpdate : Nat := 3
noncomputable def mJoin : Nat := 4
noncomputable def mEncode : Nat := 5
noncomputable def ixOf (f : Nat) (l : List Nat) : Option Nat := List.rec none (fun g Z D => cond (Nat.beq f g) (some 0) (D.map (· + 1))) l
noncomputable def lookN {α : Type} (f : Nat) (l : List (Nat × α)) : Option α := List.rec none (fun p Z D => cond (Nat.beq f p.1) (some p.2) D) l
theorem cond_some {α : Type} {b : Bool} {x y : α} {D : Option α} {Q : Prop} (e : cond b (some x) D = some y) (h1 : b = true → x = y → Q) (h2 : b = false → D = some y → Q) : Q := by
  induction b using Bool.casesOn
  · exact h2 rfl e
  · exact h1 rfl (Option.some.inj e)
noncomputable def fldIx (P : Pr) (c f : Nat) : Option Nat := (P.ci c).bind fun ci => ixOf f ci.flds
noncomputable def fldOf (P : Pr) (c f : Nat) (fs : List V) : Option V := (fldIx P c f).bind fun i => fs[i]?
noncomputable def methOf (P : Pr) (c m : Nat) : Option Nat := (P.ci c).bind fun ci => lookN m ci.meths
noncomputable def kFld (P : Pr) (f : Nat) (k : V → Prop) (c : Nat) (fs : List V) : Prop := onSome k (fldOf P c f fs)
noncomputable def dAttr (P : Pr) (o : V) (f : Nat) (h : Hp) (k : V → Prop) : Prop := match o with
  | .obj c fs => kFld P f k c fs
  | .ref a => RdO h a (oInst (kFld P f k))
  | _ => False
noncomputable def rngL (lo st : Int) : Nat → List V
  | 0 => []
  | n + 1 => .int lo :: rngL (lo + st) st n
inductive Src where
  | free
  | list (a : Nat)
  | dict (a : Nat) (ep : Nat)
noncomputable def srcO (k : Src → List V → Prop) (a : Nat) (o : O) : Prop := match o with
  | .list l => k (.list a) l
  | .dict ep es => k (.dict a ep) (es.map (·.1))
  | _ => False
noncomputable def srcOf (v : V) (h : Hp) (k : Src → List V → Prop) : Prop := match v with
  | .rng lo st n => k .free (rngL lo st n)
  | .bytes l => k .free (l.map fun (c : Nat) => V.int (c : Int))
  | .ref a => RdO h a (srcO k a)
  | _ => False
noncomputable def Src.same (s : Src) (vs : List V) (h : Hp) : Prop := match s with
  | .free => True
  | .list a => h.get a = some (.list vs)
  | .dict a ep => ∃ es, h.get a = some (.dict ep es) ∧ es.map (·.1) = vs
noncomputable abbrev KL := List V → Hp → Prop
noncomputable abbrev DE := Ex → Hp → KE → Prop
noncomputable def atLs (f : Ex → Ls → Hp → KE → Prop) (ls : Ls) : DE := fun e h k => f e ls h k
noncomputable def kL2 (v : V) (k : KL) : KL := fun vs h => k (v :: vs) h
noncomputable def kL1 (R : Hp → KL → Prop) (k : KL) : KE := fun v h => R h (kL2 v k)
noncomputable def zL (h : Hp) (k : KL) : Prop := k [] h
noncomputable def cL (d : DE) (e : Ex) (_ : List Ex) (R : Hp → KL → Prop) (h : Hp) (k : KL) : Prop := d e h (kL1 R k)
noncomputable def denL (d : DE) (l : List Ex) : Hp → KL → Prop := List.rec zL (cL d) l
noncomputable abbrev KP := List (V × V) → Hp → Prop
noncomputable def kP3 (v w : V) (k : KP) : KP := fun vs h => k ((v, w) :: vs) h
noncomputable def kP2 (R : Hp → KP → Prop) (v : V) (k : KP) : KE := fun w h => R h (kP3 v w k)
noncomputable def kP1 (d : DE) (b : Ex) (R : Hp → KP → Prop) (k : KP) : KE := fun v h => d b h (kP2 R v k)
noncomputable def zP (h : Hp) (k : KP) : Prop := k [] h
noncomputable def cP (d : DE) (e : Ex × Ex) (_ : List (Ex × Ex)) (R : Hp → KP → Prop) (h : Hp) (k : KP) : Prop := d e.1 h (kP1 d e.2 R k)
noncomputable def denPs (d : DE) (l : List (Ex × Ex)) : Hp → KP → Prop := List.rec zP (cP d) l
noncomputable def putV (e : V × V) (es : List (V × V)) : Option (List (V × V)) := match e.1 with
  | .int i => some (putI i e.2 es)
  | .str x => some (putS x e.2 es)
  | _ => none
noncomputable def putAll : List (V × V) → List (V × V) → Option (List (V × V))
  | [], es => some es
  | e :: r, es => (putV e es).bind (putAll r)
noncomputable def kC2 (R : V → Hp → KE → Prop) (b : V) (h : Hp) (k : KE) : V → Prop := fun r => onBool (fun t => MIf t (R b h k) (k r h)) r
noncomputable def kC1 (o : COp) (a : V) (R : V → Hp → KE → Prop) (k : KE) : KE := fun b h => dCmp o a b h (kC2 R b h k)
noncomputable def kC0 (o : COp) (a : V) (k : KE) : KE := fun b h => dCmp o a b h (atH k h)
noncomputable def zC (_ : V) (_ : Hp) (_ : KE) : Prop := False
noncomputable def cC (d : DE) (e : COp × Ex) (l : List (COp × Ex)) (R : V → Hp → KE → Prop) (a : V) (h : Hp) (k : KE) : Prop := match l with
  | [] => d e.2 h (kC0 e.1 a k)
  | _ :: _ => d e.2 h (kC1 e.1 a R k)
noncomputable def denCmp (d : DE) (a : V) (l : List (COp × Ex)) (h : Hp) (k : KE) : Prop := List.rec (motive := fun Z => V → Hp → KE → Prop) zC (cC d) l a h k
noncomputable def zFalse (_ : Hp) (_ : KE) : Prop := False
noncomputable def kA2 (R : Hp → KE → Prop) (v : V) (h : Hp) (k : KE) : Bool → Prop := fun t => MIf t (R h k) (k v h)
noncomputable def kA1 (R : Hp → KE → Prop) (k : KE) : KE := fun v h => truthy v h (kA2 R v h k)
noncomputable def cAnd (d : DE) (e : Ex) (l : List Ex) (R : Hp → KE → Prop) (h : Hp) (k : KE) : Prop := match l with
  | [] => d e h k
  | _ :: _ => d e h (kA1 R k)
noncomputable def denAnd (d : DE) (l : List Ex) : Hp → KE → Prop := List.rec zFalse (cAnd d) l
noncomputable def kO2 (R : Hp → KE → Prop) (v : V) (h : Hp) (k : KE) : Bool → Prop := fun t => MIf t (k v h) (R h k)
noncomputable def kO1 (R : Hp → KE → Prop) (k : KE) : KE := fun v h => truthy v h (kO2 R v h k)
noncomputable def cOr (d : DE) (e : Ex) (l : List Ex) (R : Hp → KE → Prop) (h : Hp) (k : KE) : Prop := match l with
  | [] => d e h k
  | _ :: _ => d e h (kO1 R k)
noncomputable def denOr (d : DE) (l : List Ex) : Hp → KE → Prop := List.rec zFalse (cOr d) l
noncomputable def bindA (np : Nat) (dfl args : List V) (nl : Nat) : Option Ls :=
  if args.length ≤ np ∧ np ≤ args.length + dfl.length ∧ np ≤ nl then
    some ((args ++ dfl.drop (args.length + dfl.length - np)).map some ++ List.replicate (nl - np) none)
  else none
noncomputable abbrev Calls := Nat → List V → Hp → KE → Prop
noncomputable def memN (c : Nat) (l : List Nat) : Bool := List.rec false (fun d Z D => Nat.beq c d || D) l
inductive IC where
  | cls (c : Nat)
  | int | bool | list | dict
noncomputable def icB (b : BI) : Option IC := match b with
  | .int => some .int
  | .bool => some .bool
  | .list => some .list
  | .dict => some .dict
  | _ => none
noncomputable def icOf (P : Pr) (c : V) : Option IC := match c with
  | .cls d => match memN d P.isi with
    | true => some (.cls d)
    | false => none
  | .bi b => icB b
  | _ => none
noncomputable def IC.isCls (x : Nat) (c : IC) : Bool := match c with | .cls d => Nat.beq x d | _ => false
noncomputable def IC.isInt (c : IC) : Bool := match c with | .int => true | _ => false
noncomputable def IC.isList (c : IC) : Bool := match c with | .list => true | _ => false
noncomputable def IC.isDict (c : IC) : Bool := match c with | .dict => true | _ => false
noncomputable def isiO (c : IC) (k : Bool → Prop) (o : O) : Prop := match o with
  | .list _ => k c.isList
  | .dict _ _ => k c.isDict
  | _ => False
noncomputable def isiV (v : V) (h : Hp) (k : Bool → Prop) (c : IC) : Prop := match v with
  | .ref a => RdO h a (isiO c k)
  | .obj x _ => k (c.isCls x)
  | .int _ => k c.isInt
  | .none => k false
  | _ => False
noncomputable def isInst (P : Pr) (v c : V) (h : Hp) (k : Bool → Prop) : Prop := onSome (isiV v h k) (icOf P c)
noncomputable def decT : Nat → Nat → List Nat → List Nat
  | 0, _, acc => acc
  | f + 1, n, acc => if n < 10 then (48 + n) :: acc else decT f (n / 10) ((48 + n % 10) :: acc)
noncomputable def decText (n : Nat) : List Nat := decT 4 n []
noncomputable def insI (i : Int) : List Int → List Int
  | [] => [i]
  | j :: l => if i ≤ j then i :: j :: l else j :: insI i l
noncomputable def sortI : List Int → List Int
  | [] => []
  | i :: l => insI i (sortI l)
noncomputable def strsOf : List V → Option (List (List Nat))
  | [] => some []
  | v :: r => (isS v).bind fun x => (strsOf r).map (x :: ·)
noncomputable def lenV (h : Hp) (k : KE) (v : V) : Prop := match v with
  | .bytes l => Need (small l.length) (k (.int l.length) h)
  | .str l => Need (small l.length) (k (.int l.length) h)
  | .ref a => RdO h a (oList fun l => Need (small l.length) (k (.int l.length) h))
  | _ => False
noncomputable def bRange2 (h : Hp) (k : KE) (a : Int) (r : List V) (b : Int) : Prop := match r with
  | [] => Need (-(2 ^ 62) < a ∧ a < 2 ^ 62 ∧ -(2 ^ 62) < b ∧ b < 2 ^ 62) (k (.rng a 1 (b - a).toNat) h)
  | c :: r => onNil (onInt (fun s => Need (s = 2 ∧ -(2 ^ 60) < a ∧ a < 2 ^ 60 ∧ -(2 ^ 60) < b ∧ b < 2 ^ 60) (k (.rng a 2 ((b - a + 1) / 2).toNat) h)) c) r
noncomputable def bRange (h : Hp) (k : KE) (r : List V) (n : Int) : Prop := match r with
  | [] => Need (-(2 ^ 62) < n ∧ n < 2 ^ 62) (k (.rng 0 1 n.toNat) h)
  | b :: r => onInt (bRange2 h k n r) b
noncomputable def sortS (h : Hp) (k : KE) (x : List Nat) (r : List (V × V)) : Prop := match r with
  | [] => Fr1 h (.list [.str x]) (kRef k)
  | f :: r => onNil (onStr (fun y => Need (y < x) (Fr1 h (.list [.str y, .str x]) (kRef k))) f.1) r
noncomputable def sortN (h : Hp) (k : KE) (es : List (V × V)) : Prop := Som (intKeys es) fun is => Need (is.length < 64) (Fr1 h (.list ((sortI is).map .int)) (kRef k))
noncomputable def sortD (h : Hp) (k : KE) (es : List (V × V)) : Prop := match es with
  | [] => sortN h k []
  | e :: r => match e.1 with
    | .str x => sortS h k x r
    | v => sortN h k ((v, e.2) :: r)
noncomputable def dBi (P : Pr) (b : BI) (args : List V) (h : Hp) (k : KE) : Prop := match b with
  | .len => on1 (lenV h k) args
  | .range => onCons (fun a r => onInt (bRange h k r) a) args
  | .int => on1 (onInt fun n => k (.int n) h) args
  | .abs => on1 (onInt fun n => k (.int n.natAbs) h) args
  | .str => on1 (onInt fun n => Need (0 ≤ n ∧ n < 10000) (k (.str (decText n.toNat)) h)) args
  | .chr => on1 (onInt fun n => Need (0 ≤ n ∧ n < 128) (k (.str [n.toNat]) h)) args
  | .min => on2 (fun a b => onInt (fun x => onInt (fun y => k (.int (if y < x then y else x)) h) b) a) args
  | .bytes => on1 (onBytes fun l => Need (small l.length) (k (.bytes l) h)) args
  | .isinstance => on2 (fun v c => isInst P v c h (kB (atH k h))) args
  | .tuple => on1 (onRef fun a => RdO h a (oList fun l => Need (small l.length) (k (.tup l) h))) args
  | .dict => on1 (onRef fun a => RdO h a (oList (on1 (onTup (on2 fun s v => onStr (fun x => FrD h [(.str x, v)] (kRef k)) s))))) args
  | .sorted => on1 (onRef fun a => RdO h a (oDict (sortD h k))) args
  | _ => False
inductive MR where
  | own (f : Nat)
  | app | lpop | get | dpop | upd | join | enc
noncomputable def mList (m : Nat) : Option MR := match Nat.beq m mAppend with
  | true => some .app
  | false => match Nat.beq m mPop with
    | true => some .lpop
    | false => none
noncomputable def mDict (m : Nat) : Option MR := match Nat.beq m mGet with
  | true => some .get
  | false => match Nat.beq m mPop with
    | true => some .dpop
    | false => match Nat.beq m mUpdate with
      | true => some .upd
      | false => none
noncomputable def mStr (m : Nat) : Option MR := match Nat.beq m mJoin with
  | true => some .join
  | false => match Nat.beq m mEncode with
    | true => some .enc
    | false => none
noncomputable def mInst (P : Pr) (c m : Nat) : Option MR := (methOf P c m).map .own
noncomputable def mObj (P : Pr) (m : Nat) (o : O) : Option MR := match o with
  | .inst c _ => mInst P c m
  | .list _ => mList m
  | .dict _ _ => mDict m
  | _ => none
noncomputable def mO (P : Pr) (m : Nat) (k : MR → Prop) (o : O) : Prop := onSome k (mObj P m o)
noncomputable def mRes (P : Pr) (o : V) (m : Nat) (h : Hp) (k : MR → Prop) : Prop := match o with
  | .obj c _ => onSome k (mInst P c m)
  | .ref a => RdO h a (mO P m k)
  | .str _ => onSome k (mStr m)
  | _ => False
noncomputable def mGetV (h : Hp) (k : KE) (es : List (V × V)) (d : V) (i : V) : Prop := match i with
  | .int i => Need (intKeys es ≠ none) (Val ((lookI i es).getD d) (atH k h))
  | .str x => Need (∀ i v r, es ≠ (.int i, v) :: r) (k ((lookS x es).getD d) h)
  | _ => False
noncomputable def mGet2 (h : Hp) (k : KE) (es : List (V × V)) (i : V) (r : List V) : Prop := match r with
  | [] => mGetV h k es .none i
  | d :: r => onNil (onInt (fun j => mGetV h k es d (.int j)) i) r
noncomputable def dMeth (C : Calls) (r : MR) (o : V) (args : List V) (h : Hp) (k : KE) : Prop := match r with
  | .own f => C f (o :: args) h k
  | .app => onRef (fun a => on1 (fun v => RdO h a (oList fun l => Need (small l.length) (k .none (h.set a (.list (l ++ [v])))))) args) o
  | .lpop => onRef (fun a => onNil (RdO h a (oList fun l => Need (small l.length) (Som l.getLast? fun v => k v (h.set a (.list l.dropLast))))) args) o
  | .get => onRef (fun a => onCons (fun i r => RdO h a (oDict fun es => mGet2 h k es i r)) args) o
  | .dpop => onRef (fun a => on1 (onInt fun i => RdO h a (oDict fun es => Need (intKeys es ≠ none ∧ small es.length) (Som (lookI i es) fun v => ∀ ep, k v (h.set a (.dict ep (delI i es)))))) args) o
  | .upd => onRef (fun a => on1 (onRef fun b => RdO h a (oDict fun es => RdO h b (oDict fun fs => Need (intKeys es ≠ none ∧ intKeys fs ≠ none ∧ small (es.length + fs.length) ∧ a ≠ b) (Som (putAll fs es) fun es => ∀ ep, k .none (h.set a (.dict ep es)))))) args) o
  | .join => onStr (fun x => on1 (onRef fun a => RdO h a (oList fun l => Som (strsOf l) fun ss => Need (x = [] ∧ small (ss.flatten).length ∧ small ss.length) (k (.str ss.flatten) h))) args) o
  | .enc => onStr (fun x => on1 (onStr fun c => Need (c = [97, 115, 99, 105, 105] ∧ small x.length ∧ ∀ c ∈ x, c < 128) (k (.bytes x) h)) args) o
noncomputable def denIf (t : Ex → Ls → Hp → KB → Prop) (l : List Ex) (ls : Ls) (h : Hp) (k : KB) : Prop := match l with
  | [] => k true h
  | e :: l => onNil (t e ls h k) l
noncomputable def denC (d : Ex → Ls → Hp → KE → Prop) (t : Ex → Ls → Hp → KB → Prop) (elt : Ex) (ifs : List Ex) (sl : Ls) (s : Src) (all : List V) (a : Nat) : List V → Hp → (Hp → Prop) → Prop
  | [], h, k => s.same all h ∧ k h
  | v :: vs, h, k => s.same all h ∧ denIf t ifs (some v :: sl) h fun b h => MIf b (d elt (some v :: sl) h fun r h => RdO h a (oList fun acc =>
      Need (small acc.length) (denC d t elt ifs sl s all a vs (h.set a (.list (acc ++ [r]))) k))) (denC d t elt ifs sl s all a vs h k)
noncomputable def denD (d : Ex → Ls → Hp → KE → Prop) (t : Ex → Ls → Hp → KB → Prop) (ke ve : Ex) (ifs : List Ex) (sl : Ls) (s : Src) (all : List V) (a : Nat) : List V → Hp → (Hp → Prop) → Prop
  | [], h, k => s.same all h ∧ k h
  | v :: vs, h, k => s.same all h ∧ denIf t ifs (some v :: sl) h fun q h => MIf q (d ke (some v :: sl) h fun kv h => d ve (some v :: sl) h fun b h => onStr (fun x => RdO h a (oDict fun acc =>
      Need ((∀ i v r, acc ≠ (.int i, v) :: r) ∧ small acc.length) (∀ ep, denD d t ke ve ifs sl s all a vs (h.set a (.dict ep (putS x b acc))) k))) kv) (denD d t ke ve ifs sl s all a vs h k)
noncomputable def lget (ls : Ls) (i : Nat) : Option V := (ls[i]?).join
noncomputable def slotsOf (ls : Ls) (sl : List (Option Nat)) : Ls := sl.map fun i => i.bind (lget ls)
noncomputable def mkK (ci : Ci) (c d a : Nat) (h : Hp) (k : KE) : KE := fun r h' => onNone (match ci.frozen with
  | false => k (.ref a) h'
  | true => RdO h' a (oInst fun c' fs => Need (c' = c ∧ fs.length = ci.flds.length ∧ h'.get d = some (.hid a) ∧ ∀ b, b ≠ a → b ≠ d → h'.get b = h.get b) (k (.obj c fs) ⟨h.get, h'.top⟩))) r
structure Mk (P : Pr) (C : Calls) (c : Nat) (vs : List V) (h : Hp) (k : KE) : Prop where
  out : onSome (fun ci => ∀ d a, h.top ≤ d → d < a → C ci.init (.ref a :: vs) ((h.add d (.hid a)).add a (.inst c [])) (mkK ci c d a h k)) (P.ci c)
noncomputable def dApp (P : Pr) (C : Calls) (g : V) (vs : List V) (h : Hp) (k : KE) : Prop := match g with
  | .fn i => C i vs h k
  | .bi b => dBi P b vs h k
  | .cls c => Mk P C c vs h k
  | _ => False
structure D4 where
  den : Ex → Ls → Hp → KE → Prop
  denT : Ex → Ls → Hp → KB → Prop
  goA : List Ex → Ls → Hp → KB → Prop
  goO : List Ex → Ls → Hp → KB → Prop
section
variable (P : Pr) (C : Calls) (D : D4)
noncomputable def kBin2 (o : BOp) (v : V) (k : KE) : KE := fun w h => dBin o v w (atH k h)
noncomputable def kBin1 (o : BOp) (b : Ex) (ls : Ls) (k : KE) : KE := fun v h => D.den b ls h (kBin2 o v k)
noncomputable def kNot (k : KE) : KE := fun v h => truthy v h (kNB (atH k h))
noncomputable def kNeg (k : KE) : KE := fun v h => onInt (fun i => k (.int (-i)) h) v
noncomputable def kCmp (l : List (COp × Ex)) (ls : Ls) (k : KE) : KE := fun v h => denCmp (atLs D.den ls) v l h k
noncomputable def kIte (a b : Ex) (ls : Ls) (k : KE) : KB := fun c h => MIf c (D.den a ls h k) (D.den b ls h k)
noncomputable def kAttr (f : Nat) (k : KE) : KE := fun v h => dAttr P v f h (atH k h)
noncomputable def kIdx2 (v : V) (k : KE) : KE := fun w h => dIdx v w h (atH k h)
noncomputable def kIdx1 (i : Ex) (ls : Ls) (k : KE) : KE := fun v h => D.den i ls h (kIdx2 v k)
noncomputable def kSlc4 (v a b : V) (k : KE) : KE := fun c h => dSlc v a b c h k
noncomputable def kSlc3 (st : Ex) (ls : Ls) (v a : V) (k : KE) : KE := fun b h => D.den st ls h (kSlc4 v a b k)
noncomputable def kSlc2 (hi st : Ex) (ls : Ls) (v : V) (k : KE) : KE := fun a h => D.den hi ls h (kSlc3 D st ls v a k)
noncomputable def kSlc1 (lo hi st : Ex) (ls : Ls) (k : KE) : KE := fun v h => D.den lo ls h (kSlc2 D hi st ls v k)
noncomputable def kApp (g : V) (k : KE) : KL := fun vs h => dApp P C g vs h k
noncomputable def kCall (l : List Ex) (ls : Ls) (k : KE) : KE := fun g h => denL (atLs D.den ls) l h (kApp P C g k)
noncomputable def kMe3 (r : MR) (v : V) (k : KE) : KL := fun vs h => dMeth C r v vs h k
noncomputable def kMe2 (l : List Ex) (ls : Ls) (v : V) (h : Hp) (k : KE) : MR → Prop := fun r => denL (atLs D.den ls) l h (kMe3 C r v k)
noncomputable def kMe1 (m : Nat) (l : List Ex) (ls : Ls) (k : KE) : KE := fun v h => mRes P v m h (kMe2 C D l ls v h k)
noncomputable def kTup (k : KE) : KL := fun vs h => k (.tup vs) h
noncomputable def kLst (k : KE) : KL := fun vs h => Fr1 h (.list vs) (kRef k)
noncomputable def kDic2 (a : Nat) (k : KE) : KP := fun ps h => RdO h a (oDict (onNil (Som (putAll ps []) fun es => Need (small es.length ∧ (intKeys ps ≠ none ∨ strKeys ps = true)) (∀ ep, k (.ref a) (h.set a (.dict ep es))))))
noncomputable def kDic1 (l : List (Ex × Ex)) (ls : Ls) (k : KE) : Nat → Hp → Prop := fun a h => denPs (atLs D.den ls) l h (kDic2 a k)
noncomputable def kEnd (k : KE) (a : Nat) : Hp → Prop := fun h => k (.ref a) h
noncomputable def kLc3 (elt : Ex) (ifs : List Ex) (sl : Ls) (s : Src) (vs : List V) (k : KE) : Nat → Hp → Prop := fun a h => Stop (denC D.den D.denT elt ifs sl s vs a vs h (kEnd k a))
noncomputable def kLc2 (elt : Ex) (ifs : List Ex) (sl : Ls) (h : Hp) (k : KE) : Src → List V → Prop := fun s vs => Fr1 h (.list []) (kLc3 D elt ifs sl s vs k)
noncomputable def kLc1 (elt : Ex) (ifs : List Ex) (sl : Ls) (k : KE) : KE := fun v h => srcOf v h (kLc2 D elt ifs sl h k)
noncomputable def kDc3 (ke ve : Ex) (ifs : List Ex) (sl : Ls) (s : Src) (vs : List V) (k : KE) : Nat → Hp → Prop := fun a h => Stop (denD D.den D.denT ke ve ifs sl s vs a vs h (kEnd k a))
noncomputable def kDc2 (ke ve : Ex) (ifs : List Ex) (sl : Ls) (h : Hp) (k : KE) : Src → List V → Prop := fun s vs => FrD h [] (kDc3 D ke ve ifs sl s vs k)
noncomputable def kDc1 (ke ve : Ex) (ifs : List Ex) (sl : Ls) (k : KE) : KE := fun v h => srcOf v h (kDc2 D ke ve ifs sl h k)
noncomputable def armE (e : Ex) (ls : Ls) (h : Hp) (k : KE) : Prop := match e with
  | .stuck => False
  | .cst v => k v h
  | .loc i => onSome (fun v => k v h) (lget ls i)
  | .bin o a b => D.den a ls h (kBin1 D o b ls k)
  | .not a => D.den a ls h (kNot k)
  | .neg a => D.den a ls h (kNeg k)
  | .cmp a l => D.den a ls h (kCmp D l ls k)
  | .and l => denAnd (atLs D.den ls) l h k
  | .or l => denOr (atLs D.den ls) l h k
  | .ite t a b => D.denT t ls h (kIte D a b ls k)
  | .attr e f => D.den e ls h (kAttr P f k)
  | .idx e i => D.den e ls h (kIdx1 D i ls k)
  | .slc e lo hi st => D.den e ls h (kSlc1 D lo hi st ls k)
  | .call f l => D.den f ls h (kCall P C D l ls k)
  | .meth o m l => D.den o ls h (kMe1 P C D m l ls k)
  | .tup l => denL (atLs D.den ls) l h (kTup k)
  | .list l => denL (atLs D.den ls) l h (kLst k)
  | .dict l => match l with
    | [] => FrD h [] (kRef k)
    | e :: r => FrD h [] (kDic1 D (e :: r) ls k)
  | .lcomp elt src ifs sl => D.den src ls h (kLc1 D elt ifs (slotsOf ls sl ++ ls) k)
  | .dcomp ke ve src ifs sl => D.den src ls h (kDc1 D ke ve ifs (slotsOf ls sl ++ ls) k)
noncomputable def kTru (k : KB) : KE := fun v h => truthy v h fun b => k b h
noncomputable def kNotT (k : KB) : KB := fun b h => k (!b) h
noncomputable def kIteT (a b : Ex) (ls : Ls) (k : KB) : KB := fun c h => MIf c (D.denT a ls h k) (D.denT b ls h k)
noncomputable def armT (e : Ex) (ls : Ls) (h : Hp) (k : KB) : Prop := match e with
  | .not a => D.denT a ls h (kNotT k)
  | .and l => D.goA l ls h k
  | .or l => D.goO l ls h k
  | .ite t a b => D.denT t ls h (kIteT D a b ls k)
  | e => D.den e ls h (kTru k)
noncomputable def kGoA (l : List Ex) (ls : Ls) (k : KB) : KB := fun b h => MIf b (D.goA l ls h k) (k false h)
noncomputable def kGoO (l : List Ex) (ls : Ls) (k : KB) : KB := fun b h => MIf b (k true h) (D.goO l ls h k)
noncomputable def armA (l : List Ex) (ls : Ls) (h : Hp) (k : KB) : Prop := match l with
  | [] => k true h
  | e :: l => D.denT e ls h (kGoA D l ls k)
noncomputable def armO (l : List Ex) (ls : Ls) (h : Hp) (k : KB) : Prop := match l with
  | [] => k false h
  | e :: l => D.denT e ls h (kGoO D l ls k)
noncomputable def dZ : D4 := ⟨fun Z Z Z Z => False, fun Z Z Z Z => False, fun l Z h k => onNil (k true h) l, fun l Z h k => onNil (k false h) l⟩
noncomputable def dStp (_ : Nat) (D : D4) : D4 := ⟨armE P C D, armT D, armA D, armO D⟩
noncomputable def dAll (n : Nat) : D4 := Nat.rec dZ (dStp P C) n
noncomputable def den (n : Nat) : Ex → Ls → Hp → KE → Prop := (dAll P C n).den
noncomputable def denT (n : Nat) : Ex → Ls → Hp → KB → Prop := (dAll P C n).denT
noncomputable def goA (n : Nat) : List Ex → Ls → Hp → KB → Prop := (dAll P C n).goA
noncomputable def goO (n : Nat) : List Ex → Ls → Hp → KB → Prop := (dAll P C n).goO
end
noncomputable abbrev KS := Fl → Ls → Hp → Prop
noncomputable def setL (ls : Ls) (i : Nat) (v : V) : Ls := ls.set i (some v)
noncomputable def storeTup : List Nat → List V → Ls → Option Ls
  | [], l, ls => match l with
    | [] => some ls
    | _ :: _ => none
  | i :: r, l, ls => match l with
    | [] => none
    | v :: vs => storeTup r vs (setL ls i v)
noncomputable def putAt (fs : List V) (i : Nat) (v : V) : List V := fs.take i ++ v :: fs.drop (i + 1)
noncomputable def tgO (P : Pr) (a f : Nat) (v : V) (h : Hp) (k : Hp → Prop) (c : Nat) (fs : List V) : Prop :=
  onSome (fun i => Need (i ≤ fs.length) (k (h.set a (.inst c (putAt fs i v))))) (fldIx P c f)
noncomputable def kTgA (P : Pr) (f : Nat) (v : V) (k : Hp → Prop) : KE := fun o h => onRef (fun a => RdO h a (oInst (tgO P a f v h k))) o
noncomputable def tgS (a : Nat) (v w : V) (h : Hp) (k : Hp → Prop) (o : O) : Prop := match o with
  | .list l => onInt (fun j => Need (0 ≤ j ∧ j < l.length ∧ small l.length) (k (h.set a (.list (l.set j.toNat v))))) w
  | .dict _ es => match w with
    | .int j => Need (intKeys es ≠ none ∧ small es.length) (∀ ep, k (h.set a (.dict ep (putI j v es))))
    | .str x => Need ((∀ i v r, es ≠ (.int i, v) :: r) ∧ small es.length) (∀ ep, k (h.set a (.dict ep (putS x v es))))
    | _ => False
  | _ => False
noncomputable def kTgS2 (o v : V) (k : Hp → Prop) : KE := fun w h => onRef (fun a => RdO h a (tgS a v w h k)) o
noncomputable def kTgS1 (D : D4) (i : Ex) (ls : Ls) (v : V) (k : Hp → Prop) : KE := fun o h => D.den i ls h (kTgS2 o v k)
noncomputable def denTg (P : Pr) (D : D4) (t : Tg) (v : V) (ls : Ls) (h : Hp) (k : Ls → Hp → Prop) : Prop := match t with
  | .stuck => False
  | .loc i => k (setL ls i v) h
  | .attr e f => D.den e ls h (kTgA P f v (k ls))
  | .sub o i => D.den o ls h (kTgS1 D i ls v (k ls))
  | .tup l => onTup (fun vs => onSome (fun ls => k ls h) (storeTup l vs ls)) v
noncomputable def ForL (tg : V → Ls → Hp → (Ls → Hp → Prop) → Prop) (body : Ls → Hp → KS → Prop) (s : Src) (all : List V) : List V → Ls → Hp → KS → Prop
  | [], ls, h, k => s.same all h ∧ k .next ls h
  | v :: vs, ls, h, k => s.same all h ∧ tg v ls h fun ls h => body ls h fun f ls h => match f with
    | .next => ForL tg body s all vs ls h k
    | .cont => ForL tg body s all vs ls h k
    | .brk => k .next ls h
    | .ret v => k (.ret v) ls h
noncomputable def Whl (test : Ls → Hp → KB → Prop) (body : Ls → Hp → KS → Prop) (ls : Ls) (h : Hp) (k : KS) : Prop :=
  ∃ (I : Nat → Ls → Hp → Prop) (n : Nat), I n ls h ∧ ∀ n ls h, I n ls h → test ls h fun b h => MIf b
    (body ls h fun f ls h => match f with
      | .next => ∃ m, m < n ∧ I m ls h
      | .cont => ∃ m, m < n ∧ I m ls h
      | .brk => k .next ls h
      | .ret v => k (.ret v) ls h)
    (k .next ls h)
noncomputable def nxt (R : Ls → Hp → KS → Prop) (k : KS) : KS := fun f ls h => match f with
  | .next => R ls h k
  | f => k f ls h
noncomputable abbrev DS := St → Ls → Hp → KS → Prop
noncomputable def zS (ls : Ls) (h : Hp) (k : KS) : Prop := k .next ls h
noncomputable def cS' (d : DS) (s : St) (l : List St) (R : Ls → Hp → KS → Prop) (ls : Ls) (h : Hp) (k : KS) : Prop := match l with
  | [] => d s ls h k
  | _ :: _ => d s ls h (nxt R k)
noncomputable def denSs (d : DS) (l : List St) : Ls → Hp → KS → Prop := List.rec zS (cS' d) l
structure For (tg : V → Ls → Hp → (Ls → Hp → Prop) → Prop) (body : Ls → Hp → KS → Prop) (s : Src) (vs : List V) (ls : Ls) (h : Hp) (k : KS) : Prop where
  out : ForL tg body s vs vs ls h k
structure While (test : Ls → Hp → KB → Prop) (body : Ls → Hp → KS → Prop) (ls : Ls) (h : Hp) (k : KS) : Prop where
  out : Whl test body ls h k
noncomputable def kExpr (ls : Ls) (k : KS) : KE := fun Z h => k .next ls h
noncomputable def kRet (ls : Ls) (k : KS) : KE := fun v h => k (.ret v) ls h
noncomputable def kNx (k : KS) : Ls → Hp → Prop := fun ls h => k .next ls h
noncomputable def kAsg (P : Pr) (D : D4) (t : Tg) (ls : Ls) (k : KS) : KE := fun v h => denTg P D t v ls h (kNx k)
noncomputable def kIf (A B : Ls → Hp → KS → Prop) (ls : Ls) (k : KS) : KB := fun c h => MIf c (A ls h k) (B ls h k)
noncomputable def kFor2 (tg : V → Ls → Hp → (Ls → Hp → Prop) → Prop) (body : Ls → Hp → KS → Prop) (ls : Ls) (h : Hp) (k : KS) : Src → List V → Prop := fun s vs => For tg body s vs ls h k
noncomputable def kFor (tg : V → Ls → Hp → (Ls → Hp → Prop) → Prop) (body : Ls → Hp → KS → Prop) (ls : Ls) (k : KS) : KE := fun v h => srcOf v h (kFor2 tg body ls h k)
noncomputable def armS (P : Pr) (D : D4) (d : DS) (s : St) (ls : Ls) (h : Hp) (k : KS) : Prop := match s with
  | .stuck => False
  | .expr e => D.den e ls h (kExpr ls k)
  | .ret e => D.den e ls h (kRet ls k)
  | .asg t e => D.den e ls h (kAsg P D t ls k)
  | .ite t a b => D.denT t ls h (kIf (denSs d a) (denSs d b) ls k)
  | .whl t b => While (D.denT t) (denSs d b) ls h k
  | .for_ t e b => D.den e ls h (kFor (denTg P D t) (denSs d b) ls k)
  | .cont => k .cont ls h
  | .brk => k .brk ls h
noncomputable def sZ (_ : St) (_ : Ls) (_ : Hp) (_ : KS) : Prop := False
noncomputable def sStp (P : Pr) (C : Calls) (n : Nat) (d : DS) : DS := armS P (dAll P C n) d
noncomputable def denS (P : Pr) (C : Calls) (n : Nat) : DS := Nat.rec sZ (sStp P C) n
structure CallW (p : Prop) : Prop where
  out : p
noncomputable def fin (k : KE) : KS := fun f Z h => match f with
  | .ret v => k v h
  | .next => k .none h
  | _ => False
noncomputable def wrapC (R : Calls) : Calls := fun f vs h k => CallW (R f vs h k)
noncomputable def stpC (P : Pr) (_ : Nat) (R : Calls) : Calls := fun f vs h k =>
  onSome (fun fn => onSome (fun ls => denSs (denS P (wrapC R) 20) fn.body ls h (fin k)) (bindA fn.np fn.dfl vs fn.nl)) (P.fn f)
noncomputable def cZ (_ : Nat) (_ : List V) (_ : Hp) (_ : KE) : Prop := False
noncomputable def callD (P : Pr) (d : Nat) : Calls := Nat.rec cZ (stpC P) d
end
section
open PySem
noncomputable def b30 : List St := [.ret (.cmp (.loc 0) [(.isin, .cst (.tup [.int 0, .int 9, .int 10, .int 12, .int 13, .int 32]))])]
noncomputable def l30 : List Str := [Str.ofString "code"]
noncomputable def f30 : Fn := ⟨1, [], 1, b30⟩
noncomputable def b37 : List St := [.ret (.and [.cmp (.loc 0) [(.ge, .cst (.int 0))], .cmp (.loc 0) [(.nin, .cst (.tup [.int 0, .int 9, .int 10, .int 12, .int 13, .int 32]))], .cmp (.loc 0) [(.nin, .cst (.tup [.int 40, .int 41, .int 60, .int 62, .int 91, .int 93, .int 123, .int 125, .int 47, .int 37]))]])]
noncomputable def l37 : List Str := [Str.ofString "code"]
noncomputable def f37 : Fn := ⟨1, [], 1, b37⟩
noncomputable def b44 : List St := [.ret (.cmp (.cst (.int 48)) [(.le, .loc 0), (.le, .cst (.int 57))])]
noncomputable def l44 : List Str := [Str.ofString "code"]
noncomputable def f44 : Fn := ⟨1, [], 1, b44⟩
noncomputable def b59 : List St := [.asg (.attr (.loc 0) 6) (.loc 1), .asg (.attr (.loc 0) 7) (.loc 2), .asg (.attr (.loc 0) 8) (.ite (.cmp (.loc 3) [(.lt, .cst (.int 0))]) (.call (.cst (.bi .len)) [.loc 1]) (.call (.cst (.bi .min)) [.loc 3, .call (.cst (.bi .len)) [.loc 1]]))]
noncomputable def l59 : List Str := [Str.ofString "self", Str.ofString "data", Str.ofString "at", Str.ofString "end"]
noncomputable def f59 : Fn := ⟨4, [.int 0, .int (-1)], 4, b59⟩
noncomputable def b66 : List St := [.ret (.cmp (.attr (.loc 0) 7) [(.ge, .attr (.loc 0) 8)])]
noncomputable def l66 : List Str := [Str.ofString "self"]
noncomputable def f66 : Fn := ⟨1, [], 1, b66⟩
noncomputable def b74 : List St := [.asg (.loc 2) (.bin .add (.attr (.loc 0) 7) (.loc 1)), .ret (.ite (.cmp (.loc 2) [(.lt, .attr (.loc 0) 8)]) (.idx (.attr (.loc 0) 6) (.loc 2)) (.neg (.cst (.int 1))))]
noncomputable def l74 : List Str := [Str.ofString "self", Str.ofString "ahead", Str.ofString "spot"]
noncomputable def f74 : Fn := ⟨2, [.int 0], 3, b74⟩
noncomputable def b81 : List St := [.ite (.cmp (.attr (.loc 0) 7) [(.ge, .attr (.loc 0) 8)]) [.ret (.neg (.cst (.int 1)))] [], .asg (.loc 1) (.idx (.attr (.loc 0) 6) (.attr (.loc 0) 7)), .asg (.attr (.loc 0) 7) (.bin .add (.attr (.loc 0) 7) (.cst (.int 1))), .ret (.loc 1)]
noncomputable def l81 : List Str := [Str.ofString "self", Str.ofString "code"]
noncomputable def f81 : Fn := ⟨1, [], 2, b81⟩
noncomputable def b88 : List St := [.ret (.and [.cmp (.bin .add (.attr (.loc 0) 7) (.call (.cst (.bi .len)) [.loc 1])) [(.le, .attr (.loc 0) 8)], .cmp (.slc (.attr (.loc 0) 6) (.attr (.loc 0) 7) (.bin .add (.attr (.loc 0) 7) (.call (.cst (.bi .len)) [.loc 1])) (.cst (.none))) [(.eq, .loc 1)]])]
noncomputable def l88 : List Str := [Str.ofString "self", Str.ofString "word"]
noncomputable def f88 : Fn := ⟨2, [], 2, b88⟩
noncomputable def b95 : List St := [.ite (.not (.meth (.loc 0) 12 [.loc 1])) [.ret (.cst (.bool false))] [], .asg (.attr (.loc 0) 7) (.bin .add (.attr (.loc 0) 7) (.call (.cst (.bi .len)) [.loc 1])), .ret (.cst (.bool true))]
noncomputable def l95 : List Str := [Str.ofString "self", Str.ofString "word"]
noncomputable def f95 : Fn := ⟨2, [], 2, b95⟩
noncomputable def b102 : List St := [.whl (.cmp (.attr (.loc 0) 7) [(.lt, .attr (.loc 0) 8)]) [.asg (.loc 1) (.idx (.attr (.loc 0) 6) (.attr (.loc 0) 7)), .ite (.cmp (.loc 1) [(.eq, .cst (.int 37))]) [.whl (.and [.cmp (.attr (.loc 0) 7) [(.lt, .attr (.loc 0) 8)], .cmp (.idx (.attr (.loc 0) 6) (.attr (.loc 0) 7)) [(.nin, .tup [.cst (.int 10), .cst (.int 13)])]]) [.asg (.attr (.loc 0) 7) (.bin .add (.attr (.loc 0) 7) (.cst (.int 1)))]] [.ite (.cmp (.loc 1) [(.isin, .cst (.tup [.int 0, .int 9, .int 10, .int 12, .int 13, .int 32]))]) [.asg (.attr (.loc 0) 7) (.bin .add (.attr (.loc 0) 7) (.cst (.int 1)))] [.ret (.cst (.none))]]]]
noncomputable def l102 : List Str := [Str.ofString "self", Str.ofString "code"]
noncomputable def f102 : Fn := ⟨1, [], 2, b102⟩
noncomputable def b109 : List St := [.asg (.loc 1) (.attr (.loc 0) 7), .whl (.and [.cmp (.attr (.loc 0) 7) [(.lt, .attr (.loc 0) 8)], .call (.cst (.fn 37)) [.idx (.attr (.loc 0) 6) (.attr (.loc 0) 7)]]) [.asg (.attr (.loc 0) 7) (.bin .add (.attr (.loc 0) 7) (.cst (.int 1)))], .ret (.slc (.attr (.loc 0) 6) (.loc 1) (.attr (.loc 0) 7) (.cst (.none)))]
noncomputable def l109 : List Str := [Str.ofString "self", Str.ofString "first"]
noncomputable def f109 : Fn := ⟨1, [], 2, b109⟩
noncomputable def b116 : List St := [.ite (.cmp (.meth (.loc 0) 10 []) [(.eq, .cst (.int 13))]) [.asg (.attr (.loc 0) 7) (.bin .add (.attr (.loc 0) 7) (.cst (.int 1))), .ite (.cmp (.meth (.loc 0) 10 []) [(.eq, .cst (.int 10))]) [.asg (.attr (.loc 0) 7) (.bin .add (.attr (.loc 0) 7) (.cst (.int 1)))] [], .ret (.cst (.bool true))] [], .ite (.cmp (.meth (.loc 0) 10 []) [(.eq, .cst (.int 10))]) [.asg (.attr (.loc 0) 7) (.bin .add (.attr (.loc 0) 7) (.cst (.int 1))), .ret (.cst (.bool true))] [], .ret (.cst (.bool false))]
noncomputable def l116 : List Str := [Str.ofString "self"]
noncomputable def f116 : Fn := ⟨1, [], 1, b116⟩
noncomputable def b130 : List St := [.asg (.loc 1) (.attr (.loc 0) 7), .asg (.loc 2) (.cst (.int 0)), .whl (.call (.cst (.fn 44)) [.meth (.loc 0) 10 []]) [.asg (.loc 2) (.bin .sub (.bin .add (.bin .mul (.loc 2) (.cst (.int 10))) (.meth (.loc 0) 11 [])) (.cst (.int 48)))], .ite (.or [.cmp (.attr (.loc 0) 7) [(.eq, .loc 1)], .cmp (.bin .sub (.attr (.loc 0) 7) (.loc 1)) [(.gt, .cst (.int 20))]]) [.asg (.attr (.loc 0) 7) (.loc 1), .ret (.cst (.none))] [], .ret (.loc 2)]
noncomputable def l130 : List Str := [Str.ofString "self", Str.ofString "first", Str.ofString "number"]
noncomputable def f130 : Fn := ⟨1, [], 3, b130⟩
noncomputable def b303 : List St := [.asg (.loc 1) (.cst (.int 0)), .ite (.and [.cmp (.call (.cst (.bi .len)) [.loc 0]) [(.gt, .cst (.int 0))], .or [.cmp (.idx (.loc 0) (.cst (.int 0))) [(.eq, .cst (.int 43))], .cmp (.idx (.loc 0) (.cst (.int 0))) [(.eq, .cst (.int 45))]]]) [.asg (.loc 1) (.cst (.int 1))] [], .asg (.loc 2) (.cst (.int 0)), .asg (.loc 3) (.cst (.int 0)), .asg (.loc 4) (.neg (.cst (.int 1))), .for_ (.loc 5) (.slc (.loc 0) (.loc 1) (.cst (.none)) (.cst (.none))) [.ite (.and [.cmp (.loc 5) [(.eq, .cst (.int 46))], .cmp (.loc 4) [(.lt, .cst (.int 0))]]) [.asg (.loc 4) (.cst (.int 0))] [.ite (.cmp (.cst (.int 48)) [(.le, .loc 5), (.le, .bin .add (.cst (.int 48)) (.cst (.int 9)))]) [.asg (.loc 2) (.bin .sub (.bin .add (.bin .mul (.cst (.int 10)) (.loc 2)) (.loc 5)) (.cst (.int 48))), .asg (.loc 3) (.bin .add (.loc 3) (.cst (.int 1))), .ite (.cmp (.loc 4) [(.ge, .cst (.int 0))]) [.asg (.loc 4) (.bin .add (.loc 4) (.cst (.int 1)))] []] [.ret (.cst (.none))]]], .ite (.or [.cmp (.loc 3) [(.eq, .cst (.int 0))], .cmp (.loc 3) [(.gt, .cst (.int 40))]]) [.ret (.cst (.none))] [], .ite (.cmp (.idx (.loc 0) (.cst (.int 0))) [(.eq, .cst (.int 45))]) [.asg (.loc 2) (.neg (.loc 2))] [], .ret (.ite (.cmp (.loc 4) [(.lt, .cst (.int 0))]) (.loc 2) (.call (.cst (.cls 285)) [.loc 2, .loc 4]))]
noncomputable def l303 : List Str := [Str.ofString "octets", Str.ofString "begun", Str.ofString "top", Str.ofString "numerals", Str.ofString "places", Str.ofString "code"]
noncomputable def f303 : Fn := ⟨1, [], 6, b303⟩
noncomputable def b317 : List St := [.asg (.attr (.loc 0) 18) (.loc 1)]
noncomputable def l317 : List Str := [Str.ofString "self", Str.ofString "text"]
noncomputable def f317 : Fn := ⟨2, [], 2, b317⟩
noncomputable def b339 : List St := [.asg (.attr (.loc 0) 19) (.loc 1), .asg (.attr (.loc 0) 20) (.loc 2)]
noncomputable def l339 : List Str := [Str.ofString "self", Str.ofString "octets", Str.ofString "is_hex"]
noncomputable def f339 : Fn := ⟨3, [.bool false], 3, b339⟩
noncomputable def b360 : List St := [.asg (.attr (.loc 0) 21) (.loc 1), .asg (.attr (.loc 0) 19) (.loc 2)]
noncomputable def l360 : List Str := [Str.ofString "self", Str.ofString "head", Str.ofString "octets"]
noncomputable def f360 : Fn := ⟨3, [], 3, b360⟩
noncomputable def b381 : List St := [.asg (.attr (.loc 0) 17) (.loc 1), .asg (.attr (.loc 0) 22) (.loc 2)]
noncomputable def l381 : List Str := [Str.ofString "self", Str.ofString "number", Str.ofString "generation"]
noncomputable def f381 : Fn := ⟨3, [], 3, b381⟩
noncomputable def b402 : List St := [.ite (.cmp (.loc 0) [(.is, .cst (.none))]) [.ret (.cst (.str [110, 117, 108, 108]))] [], .ite (.call (.cst (.bi .isinstance)) [.loc 0, .cst (.bi .bool)]) [.ret (.cst (.str [116, 114, 117, 116, 104]))] [], .ite (.call (.cst (.bi .isinstance)) [.loc 0, .cst (.bi .int)]) [.ret (.cst (.str [105, 110, 116]))] [], .ite (.call (.cst (.bi .isinstance)) [.loc 0, .cst (.cls 285)]) [.ret (.cst (.str [114, 101, 97, 108]))] [], .ite (.call (.cst (.bi .isinstance)) [.loc 0, .cst (.cls 320)]) [.ret (.cst (.str [110, 97, 109, 101]))] [], .ite (.call (.cst (.bi .isinstance)) [.loc 0, .cst (.cls 342)]) [.ret (.cst (.str [115, 116, 114, 105, 110, 103]))] [], .ite (.call (.cst (.bi .isinstance)) [.loc 0, .cst (.bi .list)]) [.ret (.cst (.str [97, 114, 114, 97, 121]))] [], .ite (.call (.cst (.bi .isinstance)) [.loc 0, .cst (.bi .dict)]) [.ret (.cst (.str [100, 105, 99, 116]))] [], .ite (.call (.cst (.bi .isinstance)) [.loc 0, .cst (.cls 363)]) [.ret (.cst (.str [115, 116, 114, 101, 97, 109]))] [], .ite (.call (.cst (.bi .isinstance)) [.loc 0, .cst (.cls 391)]) [.ret (.cst (.str [114, 101, 102]))] [], .stuck]
noncomputable def l402 : List Str := [Str.ofString "value"]
noncomputable def f402 : Fn := ⟨1, [], 1, b402⟩
noncomputable def b409 : List St := [.ite (.cmp (.loc 0) [(.eq, .cst (.str [110, 117, 108, 108]))]) [.ret (.tup [.cst (.str [110, 117, 108, 108])])] [], .ite (.cmp (.loc 0) [(.eq, .cst (.str [116, 114, 117, 116, 104]))]) [.ret (.tup [.cst (.str [116, 114, 117, 116, 104]), .ite (.loc 1) (.cst (.int 1)) (.cst (.int 0))])] [], .ite (.cmp (.loc 0) [(.eq, .cst (.str [105, 110, 116]))]) [.ret (.tup [.cst (.str [105, 110, 116]), .loc 1])] [], .ite (.cmp (.loc 0) [(.eq, .cst (.str [114, 101, 97, 108]))]) [.ret (.tup [.cst (.str [114, 101, 97, 108]), .stuck, .stuck])] [], .ite (.cmp (.loc 0) [(.eq, .cst (.str [110, 97, 109, 101]))]) [.ret (.tup [.cst (.str [110, 97, 109, 101]), .attr (.loc 1) 18])] [], .ite (.cmp (.loc 0) [(.eq, .cst (.str [115, 116, 114, 105, 110, 103]))]) [.ret (.tup [.cst (.str [115, 116, 114, 105, 110, 103]), .call (.cst (.bi .bytes)) [.attr (.loc 1) 19]])] [], .ret (.tup [.cst (.str [114, 101, 102]), .attr (.loc 1) 17, .attr (.loc 1) 22])]
noncomputable def l409 : List Str := [Str.ofString "kind", Str.ofString "value"]
noncomputable def f409 : Fn := ⟨2, [], 2, b409⟩
noncomputable def b414 : List St := [.asg (.loc 1) (.call (.cst (.fn 402)) [.loc 0]), .ite (.cmp (.loc 1) [(.eq, .cst (.str [97, 114, 114, 97, 121]))]) [.ret (.bin .add (.tup [.cst (.str [97, 114, 114, 97, 121])]) (.call (.cst (.bi .tuple)) [.lcomp (.call (.cst (.fn 414)) [.loc 0]) (.loc 0) [] []]))] [], .ite (.cmp (.loc 1) [(.eq, .cst (.str [100, 105, 99, 116]))]) [.ret (.bin .add (.tup [.cst (.str [100, 105, 99, 116])]) (.call (.cst (.bi .tuple)) [.lcomp (.tup [.loc 0, .call (.cst (.fn 414)) [.idx (.loc 1) (.loc 0)]]) (.call (.cst (.bi .sorted)) [.loc 0]) [.cmp (.idx (.loc 1) (.loc 0)) [(.isnt, .cst (.none))]] [(some 0)]]))] [], .ite (.cmp (.loc 1) [(.eq, .cst (.str [115, 116, 114, 101, 97, 109]))]) [.ret (.tup [.cst (.str [115, 116, 114, 101, 97, 109]), .call (.cst (.fn 414)) [.attr (.loc 0) 21], .call (.cst (.bi .bytes)) [.attr (.loc 0) 19]])] [], .ret (.call (.cst (.fn 409)) [.loc 1, .loc 0])]
noncomputable def l414 : List Str := [Str.ofString "value", Str.ofString "kind"]
noncomputable def f414 : Fn := ⟨1, [], 2, b414⟩
noncomputable def b429 : List St := [.asg (.attr (.loc 0) 23) (.ite (.cmp (.loc 1) [(.is, .cst (.none))]) (.dict []) (.loc 1)), .asg (.attr (.loc 0) 24) (.ite (.cmp (.loc 2) [(.is, .cst (.none))]) (.dict []) (.loc 2))]
noncomputable def l429 : List Str := [Str.ofString "self", Str.ofString "table", Str.ofString "trailer"]
noncomputable def f429 : Fn := ⟨3, [.none, .none], 3, b429⟩
noncomputable def b436 : List St := [.asg (.loc 2) (.loc 1), .for_ (.loc 3) (.call (.cst (.bi .range)) [.cst (.int 30)]) [.ite (.not (.call (.cst (.bi .isinstance)) [.loc 2, .cst (.cls 391)])) [.ret (.loc 2)] [], .asg (.tup [4, 5]) (.meth (.attr (.loc 0) 23) 2 [.attr (.loc 2) 17, .tup [.neg (.cst (.int 1)), .cst (.none)]]), .ite (.cmp (.loc 4) [(.ne, .attr (.loc 2) 22)]) [.ret (.cst (.none))] [], .asg (.loc 2) (.loc 5)], .ret (.ite (.call (.cst (.bi .isinstance)) [.loc 2, .cst (.cls 391)]) (.cst (.none)) (.loc 2))]
noncomputable def l436 : List Str := [Str.ofString "self", Str.ofString "value", Str.ofString "here", Str.ofString "hop", Str.ofString "generation", Str.ofString "found"]
noncomputable def f436 : Fn := ⟨2, [], 6, b436⟩
noncomputable def b443 : List St := [.ret (.meth (.loc 0) 25 [.meth (.loc 1) 2 [.loc 2]])]
noncomputable def l443 : List Str := [Str.ofString "self", Str.ofString "head", Str.ofString "key"]
noncomputable def f443 : Fn := ⟨3, [], 3, b443⟩
noncomputable def b464 : List St := [.asg (.sub (.attr (.loc 0) 23) (.loc 1)) (.tup [.loc 2, .loc 3])]
noncomputable def l464 : List Str := [Str.ofString "self", Str.ofString "number", Str.ofString "generation", Str.ofString "value"]
noncomputable def f464 : Fn := ⟨4, [], 4, b464⟩
noncomputable def b478 : List St := [.ite (.cmp (.loc 1) [(.isin, .attr (.loc 0) 23)]) [.expr (.meth (.attr (.loc 0) 23) 1 [.loc 1])] []]
noncomputable def l478 : List Str := [Str.ofString "self", Str.ofString "number"]
noncomputable def f478 : Fn := ⟨2, [], 2, b478⟩
noncomputable def b485 : List St := [.ret (.call (.cst (.bi .sorted)) [.attr (.loc 0) 23])]
noncomputable def l485 : List Str := [Str.ofString "self"]
noncomputable def f485 : Fn := ⟨1, [], 1, b485⟩
noncomputable def b497 : List St := [.asg (.loc 1) (.call (.cst (.bi .tuple)) [.lcomp (.tup [.loc 0, .idx (.idx (.attr (.loc 1) 23) (.loc 0)) (.cst (.int 0)), .call (.cst (.fn 414)) [.idx (.idx (.attr (.loc 1) 23) (.loc 0)) (.cst (.int 1))]]) (.meth (.loc 0) 28 []) [] [(some 0)]]), .ret (.tup [.loc 1, .call (.cst (.fn 414)) [.attr (.loc 0) 24]])]
noncomputable def l497 : List Str := [Str.ofString "self", Str.ofString "rows"]
noncomputable def f497 : Fn := ⟨1, [], 2, b497⟩
noncomputable def b525 : List St := [.asg (.loc 2) (.list []), .asg (.loc 3) (.cst (.int 0)), .whl (.cmp (.loc 3) [(.lt, .call (.cst (.bi .len)) [.loc 0])]) [.asg (.loc 4) (.idx (.loc 0) (.loc 3)), .asg (.loc 3) (.bin .add (.loc 3) (.cst (.int 1))), .ite (.and [.cmp (.loc 4) [(.eq, .cst (.int 35))], .cmp (.bin .add (.loc 3) (.cst (.int 1))) [(.lt, .call (.cst (.bi .len)) [.loc 0])]]) [.asg (.loc 5) (.call (.stuck) [.idx (.loc 0) (.loc 3)]), .asg (.loc 6) (.call (.stuck) [.idx (.loc 0) (.bin .add (.loc 3) (.cst (.int 1)))]), .ite (.and [.cmp (.loc 5) [(.ge, .cst (.int 0))], .cmp (.loc 6) [(.ge, .cst (.int 0))]]) [.asg (.loc 4) (.bin .add (.bin .mul (.cst (.int 16)) (.loc 5)) (.loc 6)), .asg (.loc 3) (.bin .add (.loc 3) (.cst (.int 2)))] []] [], .ite (.cmp (.loc 4) [(.eq, .cst (.int 0))]) [.stuck] [], .expr (.meth (.loc 2) 0 [.call (.cst (.bi .chr)) [.loc 4]])], .ret (.meth (.cst (.str [])) 4 [.loc 2])]
noncomputable def l525 : List Str := [Str.ofString "octets", Str.ofString "at", Str.ofString "signs", Str.ofString "place", Str.ofString "code", Str.ofString "high", Str.ofString "low"]
noncomputable def f525 : Fn := ⟨2, [.int (-1)], 7, b525⟩
noncomputable def b558 : List St := [.asg (.loc 2) (.meth (.loc 0) 15 []), .asg (.loc 3) (.call (.cst (.fn 303)) [.loc 2]), .ite (.cmp (.loc 3) [(.is, .cst (.none))]) [.ret (.tup [.cst (.str [119, 111, 114, 100]), .loc 2, .loc 1])] [], .ite (.call (.cst (.bi .isinstance)) [.loc 3, .cst (.bi .int)]) [.ret (.tup [.cst (.str [105, 110, 116]), .loc 3, .loc 1])] [], .ret (.tup [.cst (.str [114, 101, 97, 108]), .loc 3, .loc 1])]
noncomputable def l558 : List Str := [Str.ofString "cursor", Str.ofString "at", Str.ofString "run", Str.ofString "number"]
noncomputable def f558 : Fn := ⟨2, [], 4, b558⟩
noncomputable def b565 : List St := [.ite (.cmp (.loc 1) [(.eq, .cst (.int 47))]) [.expr (.meth (.loc 0) 11 []), .ret (.tup [.cst (.str [110, 97, 109, 101]), .call (.cst (.fn 525)) [.meth (.loc 0) 15 [], .loc 2], .loc 2])] [], .ite (.cmp (.loc 1) [(.eq, .cst (.int 40))]) [.expr (.meth (.loc 0) 11 []), .ret (.tup [.cst (.str [115, 116, 114, 105, 110, 103]), .call (.stuck) [.loc 0], .loc 2])] [], .ite (.meth (.loc 0) 13 [.cst (.bytes [60, 60])]) [.ret (.tup [.cst (.str [115, 105, 103, 110]), .cst (.bytes [60, 60]), .loc 2])] [], .ite (.meth (.loc 0) 13 [.cst (.bytes [62, 62])]) [.ret (.tup [.cst (.str [115, 105, 103, 110]), .cst (.bytes [62, 62]), .loc 2])] [], .ite (.cmp (.loc 1) [(.eq, .cst (.int 60))]) [.expr (.meth (.loc 0) 11 []), .ret (.tup [.cst (.str [104, 101, 120]), .call (.stuck) [.loc 0], .loc 2])] [], .ite (.cmp (.loc 1) [(.isin, .cst (.tup [.int 91, .int 93, .int 123, .int 125]))]) [.expr (.meth (.loc 0) 11 []), .ret (.tup [.cst (.str [115, 105, 103, 110]), .call (.cst (.bi .bytes)) [.list [.loc 1]], .loc 2])] [], .stuck]
noncomputable def l565 : List Str := [Str.ofString "cursor", Str.ofString "code", Str.ofString "at"]
noncomputable def f565 : Fn := ⟨3, [], 3, b565⟩
noncomputable def b572 : List St := [.expr (.meth (.loc 0) 14 []), .asg (.loc 1) (.attr (.loc 0) 7), .asg (.loc 2) (.meth (.loc 0) 10 []), .ite (.cmp (.loc 2) [(.eq, .neg (.cst (.int 1)))]) [.ret (.tup [.cst (.str [101, 110, 100]), .cst (.bytes []), .loc 1])] [], .ite (.or [.cmp (.loc 2) [(.eq, .cst (.int 47))], .cmp (.loc 2) [(.eq, .cst (.int 40))], .cmp (.loc 2) [(.eq, .cst (.int 41))], .cmp (.loc 2) [(.eq, .cst (.int 60))], .cmp (.loc 2) [(.eq, .cst (.int 62))], .cmp (.loc 2) [(.isin, .cst (.tup [.int 91, .int 93, .int 123, .int 125]))]]) [.ret (.call (.cst (.fn 565)) [.loc 0, .loc 2, .loc 1])] [], .ret (.call (.cst (.fn 558)) [.loc 0, .loc 1])]
noncomputable def l572 : List Str := [Str.ofString "cursor", Str.ofString "at", Str.ofString "code"]
noncomputable def f572 : Fn := ⟨1, [], 3, b572⟩
noncomputable def b579 : List St := [.ret (.and [.cmp (.idx (.loc 0) (.cst (.int 0))) [(.eq, .cst (.str [115, 105, 103, 110]))], .cmp (.idx (.loc 0) (.cst (.int 1))) [(.eq, .loc 1)]])]
noncomputable def l579 : List Str := [Str.ofString "token", Str.ofString "sign"]
noncomputable def f579 : Fn := ⟨2, [], 2, b579⟩
noncomputable def b593 : List St := [.asg (.attr (.loc 0) 30) (.loc 1), .asg (.attr (.loc 0) 31) (.list [])]
noncomputable def l593 : List Str := [Str.ofString "self", Str.ofString "mark"]
noncomputable def f593 : Fn := ⟨2, [], 2, b593⟩
noncomputable def b600 : List St := [.ret (.and [.cmp (.attr (.loc 0) 30) [(.eq, .cst (.bytes [60, 60]))], .cmp (.bin .mod (.call (.cst (.bi .len)) [.attr (.loc 0) 31]) (.cst (.int 2))) [(.eq, .cst (.int 0))]])]
noncomputable def l600 : List Str := [Str.ofString "self"]
noncomputable def f600 : Fn := ⟨1, [], 1, b600⟩
noncomputable def b614 : List St := [.ret (.and [.call (.cst (.bi .isinstance)) [.loc 0, .cst (.bi .int)], .not (.call (.cst (.bi .isinstance)) [.loc 0, .cst (.bi .bool)]), .cmp (.loc 0) [(.ge, .cst (.int 0))]])]
noncomputable def l614 : List Str := [Str.ofString "value"]
noncomputable def f614 : Fn := ⟨1, [], 1, b614⟩
noncomputable def b621 : List St := [.asg (.loc 2) (.call (.cst (.cls 147)) [.attr (.loc 0) 6, .attr (.loc 0) 7, .attr (.loc 0) 8]), .expr (.meth (.loc 2) 14 []), .asg (.loc 3) (.call (.cst (.fn 303)) [.meth (.loc 2) 15 []]), .expr (.meth (.loc 2) 14 []), .ite (.or [.not (.call (.cst (.fn 614)) [.loc 3]), .cmp (.meth (.loc 2) 15 []) [(.ne, .cst (.bytes [82]))]]) [.ret (.loc 1)] [], .asg (.attr (.loc 0) 7) (.attr (.loc 2) 7), .ret (.call (.cst (.cls 391)) [.loc 1, .loc 3])]
noncomputable def l621 : List Str := [Str.ofString "cursor", Str.ofString "number", Str.ofString "probe", Str.ofString "generation"]
noncomputable def f621 : Fn := ⟨2, [], 4, b621⟩
noncomputable def b635 : List St := [.asg (.tup [3, 4, 5]) (.loc 1), .ite (.and [.cmp (.loc 3) [(.eq, .cst (.str [105, 110, 116]))], .cmp (.loc 4) [(.ge, .cst (.int 0))], .loc 2]) [.ret (.call (.cst (.fn 621)) [.loc 0, .loc 4])] [], .ite (.or [.cmp (.loc 3) [(.eq, .cst (.str [105, 110, 116]))], .cmp (.loc 3) [(.eq, .cst (.str [114, 101, 97, 108]))]]) [.ret (.loc 4)] [], .ite (.cmp (.loc 3) [(.eq, .cst (.str [110, 97, 109, 101]))]) [.ret (.call (.cst (.cls 320)) [.loc 4])] [], .ite (.cmp (.loc 3) [(.eq, .cst (.str [115, 116, 114, 105, 110, 103]))]) [.ret (.call (.cst (.cls 342)) [.loc 4])] [], .ite (.cmp (.loc 3) [(.eq, .cst (.str [104, 101, 120]))]) [.ret (.call (.cst (.cls 342)) [.loc 4, .cst (.bool true)])] [], .ite (.cmp (.loc 3) [(.eq, .cst (.str [119, 111, 114, 100]))]) [.ret (.call (.stuck) [.loc 4, .loc 5])] [], .ite (.cmp (.loc 3) [(.eq, .cst (.str [101, 110, 100]))]) [.stuck] [], .stuck]
noncomputable def l635 : List Str := [Str.ofString "cursor", Str.ofString "token", Str.ofString "lets_references", Str.ofString "kind", Str.ofString "worth", Str.ofString "at"]
noncomputable def f635 : Fn := ⟨3, [], 6, b635⟩
noncomputable def b640 : List St := [.asg (.loc 1) (.dict []), .for_ (.loc 2) (.call (.cst (.bi .range)) [.cst (.int 0), .call (.cst (.bi .len)) [.loc 0], .cst (.int 2)]) [.asg (.sub (.loc 1) (.attr (.idx (.loc 0) (.loc 2)) 18)) (.idx (.loc 0) (.bin .add (.loc 2) (.cst (.int 1))))], .ret (.dcomp (.loc 0) (.idx (.loc 1) (.loc 0)) (.loc 1) [.cmp (.idx (.loc 1) (.loc 0)) [(.isnt, .cst (.none))]] [(some 1)])]
noncomputable def l640 : List Str := [Str.ofString "items", Str.ofString "found", Str.ofString "spot"]
noncomputable def f640 : Fn := ⟨1, [], 3, b640⟩
noncomputable def b647 : List St := [.asg (.loc 3) (.ite (.cmp (.loc 1) [(.eq, .cst (.bytes [93]))]) (.cst (.bytes [91])) (.cst (.bytes [60, 60]))), .ite (.or [.cmp (.loc 0) [(.eq, .list [])], .cmp (.attr (.idx (.loc 0) (.neg (.cst (.int 1)))) 30) [(.ne, .loc 3)]]) [.stuck] [], .asg (.loc 4) (.meth (.loc 0) 1 []), .ite (.cmp (.loc 3) [(.eq, .cst (.bytes [91]))]) [.ret (.attr (.loc 4) 31)] [], .ite (.not (.meth (.loc 4) 32 [])) [.stuck] [], .ret (.call (.cst (.fn 640)) [.attr (.loc 4) 31])]
noncomputable def l647 : List Str := [Str.ofString "frames", Str.ofString "worth", Str.ofString "at", Str.ofString "opening", Str.ofString "frame"]
noncomputable def f647 : Fn := ⟨3, [], 5, b647⟩
noncomputable def b655 : List St := [.asg (.loc 3) (.list []), .whl (.cst (.bool true)) [.asg (.tup [4, 5, 6]) (.loc 1), .asg (.loc 7) (.and [.cmp (.loc 4) [(.eq, .cst (.str [115, 105, 103, 110]))], .cmp (.loc 5) [(.isin, .tup [.cst (.bytes [91]), .cst (.bytes [60, 60])])]]), .ite (.and [.cmp (.loc 3) [(.ne, .list [])], .meth (.idx (.loc 3) (.neg (.cst (.int 1)))) 32 [], .cmp (.loc 4) [(.ne, .cst (.str [110, 97, 109, 101]))], .not (.call (.cst (.fn 579)) [.loc 1, .cst (.bytes [62, 62])])]) [.stuck] [], .ite (.loc 7) [.ite (.cmp (.call (.cst (.bi .len)) [.loc 3]) [(.eq, .cst (.int 40))]) [.stuck] [], .expr (.meth (.loc 3) 0 [.call (.cst (.cls 603)) [.loc 5]])] [.ite (.and [.cmp (.loc 4) [(.eq, .cst (.str [115, 105, 103, 110]))], .cmp (.loc 5) [(.isin, .tup [.cst (.bytes [93]), .cst (.bytes [62, 62])])]]) [.asg (.loc 8) (.call (.cst (.fn 647)) [.loc 3, .loc 5, .loc 6])] [.asg (.loc 8) (.call (.cst (.fn 635)) [.loc 0, .loc 1, .loc 2])], .ite (.cmp (.loc 3) [(.eq, .list [])]) [.ret (.loc 8)] [], .expr (.meth (.attr (.idx (.loc 3) (.neg (.cst (.int 1)))) 31) 0 [.loc 8])], .asg (.loc 1) (.call (.cst (.fn 572)) [.loc 0])]]
noncomputable def l655 : List Str := [Str.ofString "cursor", Str.ofString "token", Str.ofString "lets_references", Str.ofString "frames", Str.ofString "kind", Str.ofString "worth", Str.ofString "at", Str.ofString "is_opening", Str.ofString "value"]
noncomputable def f655 : Fn := ⟨3, [.bool true], 9, b655⟩
noncomputable def b662 : List St := [.ret (.call (.cst (.fn 655)) [.loc 0, .call (.cst (.fn 572)) [.loc 0]])]
noncomputable def l662 : List Str := [Str.ofString "cursor"]
noncomputable def f662 : Fn := ⟨1, [], 1, b662⟩
noncomputable def b669 : List St := [.asg (.loc 2) (.meth (.loc 0) 2 [.cst (.str [76, 101, 110, 103, 116, 104])]), .ite (.cmp (.loc 1) [(.isnt, .cst (.none))]) [.asg (.loc 2) (.meth (.loc 1) 25 [.loc 2])] [], .ret (.ite (.call (.cst (.fn 614)) [.loc 2]) (.loc 2) (.cst (.none)))]
noncomputable def l669 : List Str := [Str.ofString "head", Str.ofString "shelf", Str.ofString "value"]
noncomputable def f669 : Fn := ⟨2, [], 3, b669⟩
noncomputable def b684 : List St := [.expr (.meth (.loc 0) 16 []), .asg (.loc 3) (.attr (.loc 0) 7), .asg (.loc 4) (.call (.cst (.fn 669)) [.loc 1, .loc 2]), .ite (.cmp (.loc 4) [(.isnt, .cst (.none))]) [.asg (.loc 5) (.call (.cst (.cls 147)) [.attr (.loc 0) 6, .bin .add (.loc 3) (.loc 4), .attr (.loc 0) 8]), .expr (.meth (.loc 5) 16 []), .ite (.meth (.loc 5) 13 [.cst (.bytes [101, 110, 100, 115, 116, 114, 101, 97, 109])]) [.asg (.attr (.loc 0) 7) (.attr (.loc 5) 7), .ret (.call (.cst (.cls 363)) [.loc 1, .slc (.attr (.loc 0) 6) (.loc 3) (.bin .add (.loc 3) (.loc 4)) (.cst (.none))])] []] [], .asg (.loc 6) (.stuck), .ite (.cmp (.loc 6) [(.lt, .cst (.int 0))]) [.stuck] [], .asg (.attr (.loc 0) 7) (.bin .add (.loc 6) (.call (.cst (.bi .len)) [.cst (.bytes [101, 110, 100, 115, 116, 114, 101, 97, 109])])), .ret (.call (.cst (.cls 363)) [.loc 1, .call (.stuck) [.slc (.attr (.loc 0) 6) (.loc 3) (.loc 6) (.cst (.none))]])]
noncomputable def l684 : List Str := [Str.ofString "cursor", Str.ofString "head", Str.ofString "shelf", Str.ofString "begun", Str.ofString "length", Str.ofString "probe", Str.ofString "end"]
noncomputable def f684 : Fn := ⟨3, [.none], 7, b684⟩
noncomputable def b691 : List St := [.asg (.loc 2) (.call (.cst (.cls 147)) [.attr (.loc 0) 6, .attr (.loc 0) 7, .attr (.loc 0) 8]), .expr (.meth (.loc 2) 14 []), .ite (.or [.not (.meth (.loc 2) 13 [.loc 1]), .call (.cst (.fn 37)) [.meth (.loc 2) 10 []]]) [.ret (.cst (.bool false))] [], .asg (.attr (.loc 0) 7) (.attr (.loc 2) 7), .ret (.cst (.bool true))]
noncomputable def l691 : List Str := [Str.ofString "cursor", Str.ofString "word", Str.ofString "probe"]
noncomputable def f691 : Fn := ⟨2, [], 3, b691⟩
noncomputable def b698 : List St := [.asg (.tup [1, 2, 3]) (.call (.cst (.fn 572)) [.loc 0]), .ite (.or [.cmp (.loc 1) [(.ne, .cst (.str [105, 110, 116]))], .cmp (.loc 2) [(.lt, .cst (.int 0))]]) [.stuck] [], .ret (.loc 2)]
noncomputable def l698 : List Str := [Str.ofString "cursor", Str.ofString "kind", Str.ofString "worth", Str.ofString "at"]
noncomputable def f698 : Fn := ⟨1, [], 4, b698⟩
noncomputable def b706 : List St := [.asg (.loc 2) (.call (.cst (.fn 698)) [.loc 0]), .asg (.loc 3) (.call (.cst (.fn 698)) [.loc 0]), .asg (.tup [4, 5, 6]) (.call (.cst (.fn 572)) [.loc 0]), .ite (.or [.cmp (.loc 4) [(.ne, .cst (.str [119, 111, 114, 100]))], .cmp (.loc 5) [(.ne, .cst (.bytes [111, 98, 106]))]]) [.stuck] [], .asg (.loc 7) (.call (.cst (.fn 662)) [.loc 0]), .ite (.and [.call (.cst (.bi .isinstance)) [.loc 7, .cst (.bi .dict)], .call (.cst (.fn 691)) [.loc 0, .cst (.bytes [115, 116, 114, 101, 97, 109])]]) [.asg (.loc 7) (.call (.cst (.fn 684)) [.loc 0, .loc 7, .loc 1])] [], .expr (.call (.cst (.fn 691)) [.loc 0, .cst (.bytes [101, 110, 100, 111, 98, 106])]), .ret (.tup [.loc 2, .loc 3, .loc 7])]
noncomputable def l706 : List Str := [Str.ofString "cursor", Str.ofString "shelf", Str.ofString "number", Str.ofString "generation", Str.ofString "kind", Str.ofString "worth", Str.ofString "at", Str.ofString "value"]
noncomputable def f706 : Fn := ⟨2, [.none], 8, b706⟩
noncomputable def b720 : List St := [.asg (.attr (.loc 0) 33) (.loc 1), .asg (.attr (.loc 0) 34) (.loc 2), .asg (.attr (.loc 0) 35) (.loc 3)]
noncomputable def l720 : List Str := [Str.ofString "self", Str.ofString "way", Str.ofString "one", Str.ofString "two"]
noncomputable def f720 : Fn := ⟨4, [], 4, b720⟩
noncomputable def b741 : List St := [.asg (.loc 1) (.dict []), .for_ (.loc 2) (.loc 0) [.for_ (.loc 3) (.loc 2) [.ite (.cmp (.loc 3) [(.nin, .loc 1)]) [.asg (.sub (.loc 1) (.loc 3)) (.idx (.loc 2) (.loc 3))] []]], .ret (.loc 1)]
noncomputable def l741 : List Str := [Str.ofString "tables", Str.ofString "found", Str.ofString "table", Str.ofString "number"]
noncomputable def f741 : Fn := ⟨1, [], 4, b741⟩
noncomputable def b748 : List St := [.ite (.not (.call (.cst (.bi .isinstance)) [.loc 1, .cst (.cls 363)])) [.ret (.cst (.bool false))] [], .asg (.loc 2) (.meth (.loc 0) 2 [.attr (.loc 1) 21, .cst (.str [84, 121, 112, 101])]), .ret (.and [.call (.cst (.bi .isinstance)) [.loc 2, .cst (.cls 320)], .cmp (.attr (.loc 2) 18) [(.eq, .cst (.str [88, 82, 101, 102]))]])]
noncomputable def l748 : List Str := [Str.ofString "shelf", Str.ofString "value", Str.ofString "kind"]
noncomputable def f748 : Fn := ⟨2, [], 3, b748⟩
noncomputable def b755 : List St := [.ite (.cmp (.call (.cst (.fn 402)) [.loc 1]) [(.ne, .cst (.str [115, 116, 114, 101, 97, 109]))]) [.ret (.cst (.bool false))] [], .asg (.loc 2) (.meth (.loc 0) 2 [.attr (.loc 1) 21, .cst (.str [84, 121, 112, 101])]), .ret (.and [.cmp (.call (.cst (.fn 402)) [.loc 2]) [(.eq, .cst (.str [110, 97, 109, 101]))], .cmp (.attr (.loc 2) 18) [(.eq, .cst (.str [79, 98, 106, 83, 116, 109]))]])]
noncomputable def l755 : List Str := [Str.ofString "shelf", Str.ofString "value", Str.ofString "word"]
noncomputable def f755 : Fn := ⟨2, [], 3, b755⟩
noncomputable def b770 : List St := [.asg (.attr (.loc 0) 7) (.loc 1), .asg (.attr (.loc 0) 36) (.loc 2), .asg (.attr (.loc 0) 24) (.loc 3)]
noncomputable def l770 : List Str := [Str.ofString "self", Str.ofString "at", Str.ofString "entries", Str.ofString "trailer"]
noncomputable def f770 : Fn := ⟨4, [], 4, b770⟩
noncomputable def b782 : List St := [.ret (.call (.cst (.fn 741)) [.lcomp (.attr (.loc 0) 36) (.loc 0) [] []])]
noncomputable def l782 : List Str := [Str.ofString "sections"]
noncomputable def f782 : Fn := ⟨1, [], 1, b782⟩
noncomputable def b787 : List St := [.ite (.not (.loc 0)) [.ret (.dict [])] [], .asg (.loc 1) (.attr (.idx (.loc 0) (.cst (.int 0))) 24), .ret (.call (.cst (.bi .dict)) [.lcomp (.tup [.loc 0, .idx (.loc 1) (.loc 0)]) (.loc 1) [.cmp (.loc 0) [(.nin, .cst (.tup [.str [83, 105, 122, 101], .str [80, 114, 101, 118], .str [88, 82, 101, 102, 83, 116, 109]]))]] [(some 1)]])]
noncomputable def l787 : List Str := [Str.ofString "sections", Str.ofString "trailer"]
noncomputable def f787 : Fn := ⟨1, [], 2, b787⟩
noncomputable def b794 : List St := [.ite (.not (.cmp (.cst (.int 0)) [(.le, .attr (.loc 2) 34), (.lt, .call (.cst (.bi .len)) [.loc 0])])) [.ret (.cst (.bool false))] [], .asg (.loc 3) (.call (.cst (.cls 147)) [.loc 0, .attr (.loc 2) 34]), .expr (.meth (.loc 3) 14 []), .ite (.cmp (.meth (.loc 3) 17 []) [(.ne, .loc 1)]) [.ret (.cst (.bool false))] [], .expr (.meth (.loc 3) 14 []), .ite (.cmp (.meth (.loc 3) 17 []) [(.ne, .attr (.loc 2) 35)]) [.ret (.cst (.bool false))] [], .expr (.meth (.loc 3) 14 []), .ret (.cmp (.meth (.loc 3) 15 []) [(.eq, .cst (.bytes [111, 98, 106]))])]
noncomputable def l794 : List Str := [Str.ofString "data", Str.ofString "number", Str.ofString "entry", Str.ofString "cursor"]
noncomputable def f794 : Fn := ⟨3, [], 4, b794⟩
noncomputable def b801 : List St := [.ret (.and [.call (.cst (.bi .isinstance)) [.loc 0, .cst (.cls 363)], .call (.cst (.bi .isinstance)) [.meth (.attr (.loc 0) 21) 2 [.cst (.str [76, 101, 110, 103, 116, 104])], .cst (.cls 391)]])]
noncomputable def l801 : List Str := [Str.ofString "value"]
noncomputable def f801 : Fn := ⟨1, [], 1, b801⟩
noncomputable def b808 : List St := [.ret (.idx (.call (.cst (.fn 706)) [.call (.cst (.cls 147)) [.loc 0, .attr (.loc 1) 34], .loc 2]) (.cst (.int 2)))]
noncomputable def l808 : List Str := [Str.ofString "data", Str.ofString "entry", Str.ofString "shelf"]
noncomputable def f808 : Fn := ⟨3, [], 3, b808⟩
noncomputable def b815 : List St := [.asg (.loc 3) (.list []), .for_ (.loc 4) (.call (.cst (.bi .sorted)) [.loc 1]) [.asg (.loc 5) (.idx (.loc 1) (.loc 4)), .ite (.and [.cmp (.attr (.loc 5) 33) [(.eq, .cst (.str [117, 115, 101, 100]))], .cmp (.loc 4) [(.gt, .cst (.int 0))], .call (.cst (.fn 794)) [.loc 0, .loc 4, .loc 5]]) [.asg (.loc 6) (.call (.cst (.fn 808)) [.loc 0, .loc 5, .cst (.none)]), .expr (.meth (.loc 2) 26 [.loc 4, .attr (.loc 5) 35, .loc 6]), .ite (.call (.cst (.fn 801)) [.loc 6]) [.expr (.meth (.loc 3) 0 [.loc 4])] []] []], .for_ (.loc 4) (.loc 3) [.expr (.meth (.loc 2) 26 [.loc 4, .attr (.idx (.loc 1) (.loc 4)) 35, .call (.cst (.fn 808)) [.loc 0, .idx (.loc 1) (.loc 4), .loc 2]])]]
noncomputable def l815 : List Str := [Str.ofString "data", Str.ofString "entries", Str.ofString "shelf", Str.ofString "again", Str.ofString "number", Str.ofString "entry", Str.ofString "value"]
noncomputable def f815 : Fn := ⟨3, [], 7, b815⟩
noncomputable def b822 : List St := [.asg (.loc 1) (.dict []), .for_ (.loc 2) (.call (.cst (.bi .sorted)) [.loc 0]) [.asg (.loc 3) (.idx (.loc 0) (.loc 2)), .ite (.and [.cmp (.attr (.loc 3) 33) [(.eq, .cst (.str [112, 97, 99, 107, 101, 100]))], .cmp (.loc 2) [(.gt, .cst (.int 0))]]) [.ite (.cmp (.attr (.loc 3) 34) [(.nin, .loc 1)]) [.asg (.sub (.loc 1) (.attr (.loc 3) 34)) (.list [])] [], .expr (.meth (.idx (.loc 1) (.attr (.loc 3) 34)) 0 [.tup [.loc 2, .attr (.loc 3) 35]])] []], .ret (.loc 1)]
noncomputable def l822 : List Str := [Str.ofString "entries", Str.ofString "found", Str.ofString "number", Str.ofString "entry"]
noncomputable def f822 : Fn := ⟨1, [], 4, b822⟩
noncomputable def b829 : List St := [.asg (.loc 3) (.call (.cst (.fn 822)) [.loc 0]), .for_ (.loc 4) (.call (.cst (.bi .sorted)) [.loc 3]) [.asg (.loc 5) (.meth (.loc 1) 25 [.call (.cst (.cls 391)) [.loc 4, .cst (.int 0)]]), .ite (.call (.cst (.fn 755)) [.loc 1, .loc 5]) [.asg (.loc 6) (.call (.loc 2) [.loc 1, .loc 5]), .for_ (.tup [7, 8]) (.idx (.loc 3) (.loc 4)) [.ite (.and [.cmp (.cst (.int 0)) [(.le, .loc 8), (.lt, .call (.cst (.bi .len)) [.loc 6])], .cmp (.idx (.idx (.loc 6) (.loc 8)) (.cst (.int 0))) [(.eq, .loc 7)]]) [.expr (.meth (.loc 1) 26 [.loc 7, .cst (.int 0), .idx (.idx (.loc 6) (.loc 8)) (.cst (.int 1))])] []]] []]]
noncomputable def l829 : List Str := [Str.ofString "entries", Str.ofString "shelf", Str.ofString "read", Str.ofString "places", Str.ofString "holder", Str.ofString "stream", Str.ofString "pairs", Str.ofString "number", Str.ofString "index"]
noncomputable def f829 : Fn := ⟨3, [], 9, b829⟩
noncomputable def b836 : List St := [.for_ (.loc 1) (.meth (.loc 0) 28 []) [.asg (.loc 2) (.idx (.idx (.attr (.loc 0) 23) (.loc 1)) (.cst (.int 1))), .ite (.or [.call (.cst (.fn 755)) [.loc 0, .loc 2], .call (.cst (.fn 748)) [.loc 0, .loc 2]]) [.expr (.meth (.loc 0) 27 [.loc 1])] []]]
noncomputable def l836 : List Str := [Str.ofString "shelf", Str.ofString "number", Str.ofString "value"]
noncomputable def f836 : Fn := ⟨1, [], 3, b836⟩
noncomputable def b843 : List St := [.asg (.loc 3) (.call (.cst (.fn 782)) [.loc 1]), .asg (.loc 4) (.call (.cst (.cls 500)) [.dict [], .call (.cst (.fn 787)) [.loc 1]]), .expr (.call (.cst (.fn 815)) [.loc 0, .loc 3, .loc 4]), .expr (.call (.cst (.fn 829)) [.loc 3, .loc 4, .loc 2]), .expr (.call (.cst (.fn 836)) [.loc 4]), .ret (.loc 4)]
noncomputable def l843 : List Str := [Str.ofString "data", Str.ofString "sections", Str.ofString "read", Str.ofString "entries", Str.ofString "shelf"]
noncomputable def f843 : Fn := ⟨3, [], 5, b843⟩
noncomputable def b857 : List St := [.asg (.loc 4) (.meth (.loc 1) 2 [.loc 2]), .ite (.or [.cmp (.loc 4) [(.is, .cst (.none))], .cmp (.loc 2) [(.lt, .cst (.int 1))], .cmp (.attr (.loc 4) 33) [(.ne, .cst (.str [117, 115, 101, 100]))], .cmp (.attr (.loc 4) 35) [(.ne, .loc 3)], .not (.call (.cst (.fn 794)) [.loc 0, .loc 2, .loc 4])]) [.ret (.cst (.none))] [], .asg (.loc 5) (.call (.cst (.fn 808)) [.loc 0, .loc 4, .cst (.none)]), .ite (.call (.cst (.fn 801)) [.loc 5]) [.ret (.call (.cst (.fn 808)) [.loc 0, .loc 4, .call (.stuck) [.loc 0, .loc 1, .loc 5]])] [], .ret (.loc 5)]
noncomputable def l857 : List Str := [Str.ofString "data", Str.ofString "entries", Str.ofString "number", Str.ofString "generation", Str.ofString "entry", Str.ofString "value"]
noncomputable def f857 : Fn := ⟨4, [], 6, b857⟩
noncomputable def b864 : List St := [.asg (.loc 5) (.meth (.loc 1) 2 [.loc 2]), .ite (.or [.cmp (.loc 5) [(.is, .cst (.none))], .cmp (.attr (.loc 5) 33) [(.ne, .cst (.str [112, 97, 99, 107, 101, 100]))]]) [.ret (.call (.cst (.fn 857)) [.loc 0, .loc 1, .loc 2, .loc 3])] [], .ite (.cmp (.loc 3) [(.ne, .cst (.int 0))]) [.ret (.cst (.none))] [], .asg (.loc 6) (.call (.cst (.cls 500)) []), .expr (.meth (.loc 6) 26 [.attr (.loc 5) 34, .cst (.int 0), .call (.cst (.fn 857)) [.loc 0, .loc 1, .attr (.loc 5) 34, .cst (.int 0)]]), .expr (.call (.cst (.fn 829)) [.dict [(.loc 2, .loc 5)], .loc 6, .loc 4]), .ret (.meth (.loc 6) 25 [.call (.cst (.cls 391)) [.loc 2, .cst (.int 0)]])]
noncomputable def l864 : List Str := [Str.ofString "data", Str.ofString "entries", Str.ofString "number", Str.ofString "generation", Str.ofString "read", Str.ofString "entry", Str.ofString "shelf"]
noncomputable def f864 : Fn := ⟨5, [], 7, b864⟩
noncomputable def b869 : List St := [.asg (.loc 2) (.lcomp (.call (.cst (.bi .int)) [.loc 0]) (.slc (.loc 0) (.cst (.none)) (.cst (.int 48)) (.cst (.none))) [] []), .asg (.loc 3) (.cst (.int 0)), .ite (.and [.loc 2, .cmp (.call (.cst (.bi .abs)) [.idx (.loc 2) (.cst (.int 0))]) [(.ge, .bin .pow (.cst (.int 10)) (.cst (.int 15)))]]) [.asg (.loc 3) (.bin .mod (.bin .fdiv (.call (.cst (.bi .abs)) [.idx (.loc 2) (.cst (.int 0))]) (.cst (.int 2))) (.bin .pow (.cst (.int 10)) (.cst (.int 240))))] [], .asg (.loc 4) (.cst (.int 1)), .for_ (.loc 1) (.loc 2) [.asg (.loc 4) (.bin .mod (.bin .add (.bin .add (.bin .mul (.loc 4) (.cst (.int 48271))) (.bin .mod (.loc 1) (.cst (.int 2147483647)))) (.cst (.int 12345))) (.cst (.int 2147483647)))], .ret (.list [.loc 2, .loc 3, .loc 4, .cst (.int 0)])]
noncomputable def l869 : List Str := [Str.ofString "script", Str.ofString "cell", Str.ofString "cells", Str.ofString "great", Str.ofString "state"]
noncomputable def f869 : Fn := ⟨1, [], 5, b869⟩
noncomputable def b876 : List St := [.asg (.loc 2) (.idx (.loc 0) (.cst (.int 3))), .asg (.sub (.loc 0) (.cst (.int 3))) (.bin .add (.loc 2) (.cst (.int 1))), .ite (.cmp (.idx (.loc 0) (.cst (.int 1))) [(.gt, .cst (.int 0))]) [.asg (.loc 3) (.bin .mod (.idx (.loc 0) (.cst (.int 1))) (.loc 1)), .asg (.sub (.loc 0) (.cst (.int 1))) (.bin .fdiv (.idx (.loc 0) (.cst (.int 1))) (.loc 1)), .ret (.loc 3)] [], .asg (.sub (.loc 0) (.cst (.int 2))) (.bin .mod (.bin .add (.bin .add (.bin .mul (.idx (.loc 0) (.cst (.int 2))) (.cst (.int 16807))) (.bin .mul (.loc 2) (.loc 2))) (.cst (.int 7))) (.cst (.int 2147483647))), .ite (.cmp (.loc 2) [(.lt, .call (.cst (.bi .len)) [.idx (.loc 0) (.cst (.int 0))])]) [.ret (.bin .mod (.idx (.idx (.loc 0) (.cst (.int 0))) (.loc 2)) (.loc 1))] [], .ret (.bin .mod (.bin .fdiv (.idx (.loc 0) (.cst (.int 2))) (.cst (.int 5))) (.loc 1))]
noncomputable def l876 : List Str := [Str.ofString "pen", Str.ofString "limit", Str.ofString "place", Str.ofString "digit"]
noncomputable def f876 : Fn := ⟨2, [], 4, b876⟩
noncomputable def b881 : List St := [.ret (.lcomp (.tup [.bin .mod (.bin .fdiv (.loc 0) (.cst (.int 10))) (.cst (.int 10)), .loc 0]) (.attr (.loc 1) 19) [] [])]
noncomputable def l881 : List Str := [Str.ofString "shelf", Str.ofString "stream"]
noncomputable def f881 : Fn := ⟨2, [], 2, b881⟩
noncomputable def b886 : List St := [.asg (.loc 1) (.cst (.str [37, 80, 68, 70, 45, 49, 46, 55, 10])), .asg (.loc 2) (.list []), .for_ (.loc 3) (.call (.cst (.bi .range)) [.cst (.int 1), .bin .add (.cst (.int 2)) (.call (.cst (.fn 876)) [.loc 0, .cst (.int 6)])]) [.asg (.loc 4) (.call (.cst (.fn 876)) [.loc 0, .cst (.int 4)]), .asg (.loc 5) (.bin .fdiv (.call (.cst (.fn 876)) [.loc 0, .cst (.int 5)]) (.cst (.int 4))), .asg (.loc 6) (.lcomp (.bin .add (.cst (.int 32)) (.call (.cst (.fn 876)) [.loc 1, .cst (.int 90)])) (.call (.cst (.bi .range)) [.bin .add (.cst (.int 1)) (.call (.cst (.fn 876)) [.loc 0, .cst (.int 4)])]) [] [(some 0)]), .asg (.loc 7) (.meth (.cst (.str [])) 4 [.lcomp (.call (.cst (.bi .chr)) [.loc 0]) (.loc 6) [] []]), .asg (.loc 8) (.call (.cst (.bi .len)) [.loc 1]), .ite (.cmp (.loc 4) [(.eq, .cst (.int 1))]) [.asg (.loc 9) (.bin .add (.bin .add (.bin .add (.bin .add (.cst (.str [60, 60, 32, 47, 84, 121, 112, 101, 32, 47, 79, 98, 106, 83, 116, 109, 32, 47, 76, 101, 110, 103, 116, 104, 32])) (.call (.cst (.bi .str)) [.call (.cst (.bi .len)) [.loc 7]])) (.cst (.str [32, 62, 62, 10, 115, 116, 114, 101, 97, 109, 10]))) (.loc 7)) (.cst (.str [10, 101, 110, 100, 115, 116, 114, 101, 97, 109])))] [.ite (.cmp (.loc 4) [(.eq, .cst (.int 2))]) [.asg (.loc 9) (.cst (.str [60, 60, 32, 47, 84, 121, 112, 101, 32, 47, 88, 82, 101, 102, 32, 47, 76, 101, 110, 103, 116, 104, 32, 48, 32, 62, 62, 10, 115, 116, 114, 101, 97, 109, 10, 10, 101, 110, 100, 115, 116, 114, 101, 97, 109]))] [.asg (.loc 9) (.call (.cst (.bi .str)) [.idx (.loc 6) (.cst (.int 0))])]], .asg (.loc 1) (.bin .add (.bin .add (.bin .add (.bin .add (.bin .add (.bin .add (.loc 1) (.call (.cst (.bi .str)) [.loc 3])) (.cst (.str [32]))) (.call (.cst (.bi .str)) [.loc 5])) (.cst (.str [32, 111, 98, 106, 10]))) (.loc 9)) (.cst (.str [10, 101, 110, 100, 111, 98, 106, 10]))), .expr (.meth (.loc 2) 0 [.tup [.loc 3, .loc 5, .loc 8, .loc 4, .loc 6]])], .ret (.tup [.meth (.loc 1) 5 [.cst (.str [97, 115, 99, 105, 105])], .loc 2])]
noncomputable def l886 : List Str := [Str.ofString "pen", Str.ofString "data", Str.ofString "laid", Str.ofString "number", Str.ofString "way", Str.ofString "generation", Str.ofString "codes", Str.ofString "text", Str.ofString "at", Str.ofString "body"]
noncomputable def f886 : Fn := ⟨1, [], 10, b886⟩
noncomputable def b893 : List St := [.asg (.loc 2) (.dict []), .for_ (.loc 3) (.call (.cst (.bi .range)) [.bin .add (.cst (.int 1)) (.call (.cst (.fn 876)) [.loc 0, .cst (.int 6)])]) [.asg (.loc 4) (.call (.cst (.fn 876)) [.loc 0, .call (.cst (.bi .len)) [.loc 1]]), .asg (.tup [5, 6, 7, 8, 9]) (.idx (.loc 1) (.loc 4)), .asg (.loc 10) (.call (.cst (.fn 876)) [.loc 0, .cst (.int 6)]), .ite (.cmp (.loc 10) [(.eq, .cst (.int 3))]) [.asg (.loc 11) (.call (.cst (.fn 876)) [.loc 0, .bin .add (.call (.cst (.bi .len)) [.loc 9]) (.cst (.int 1))]), .asg (.loc 12) (.ite (.cmp (.loc 11) [(.lt, .call (.cst (.bi .len)) [.loc 9])]) (.bin .mod (.bin .fdiv (.idx (.loc 9) (.loc 11)) (.cst (.int 10))) (.cst (.int 10))) (.call (.cst (.fn 876)) [.loc 0, .cst (.int 10)])), .asg (.sub (.loc 2) (.ite (.cmp (.call (.cst (.fn 876)) [.loc 0, .cst (.int 4)]) [(.gt, .cst (.int 0))]) (.loc 12) (.cst (.int 8)))) (.tup [.cst (.str [112, 97, 99, 107, 101, 100]), .loc 5, .loc 11])] [.ite (.cmp (.loc 10) [(.eq, .cst (.int 4))]) [.asg (.sub (.loc 2) (.loc 5)) (.tup [.cst (.str [102, 114, 101, 101]), .cst (.int 0), .bin .add (.loc 6) (.cst (.int 1))])] [.ite (.cmp (.loc 10) [(.eq, .cst (.int 5))]) [.asg (.sub (.loc 2) (.loc 5)) (.tup [.cst (.str [117, 115, 101, 100]), .idx (.idx (.loc 1) (.call (.cst (.fn 876)) [.loc 0, .call (.cst (.bi .len)) [.loc 1]])) (.cst (.int 2)), .bin .add (.loc 6) (.call (.cst (.fn 876)) [.loc 0, .cst (.int 2)])])] [.asg (.sub (.loc 2) (.loc 5)) (.tup [.cst (.str [117, 115, 101, 100]), .loc 7, .loc 6])]]]], .ret (.loc 2)]
noncomputable def l893 : List Str := [Str.ofString "pen", Str.ofString "laid", Str.ofString "table", Str.ofString "turn", Str.ofString "place", Str.ofString "number", Str.ofString "generation", Str.ofString "at", Str.ofString "way", Str.ofString "codes", Str.ofString "kind", Str.ofString "spot", Str.ofString "inner"]
noncomputable def f893 : Fn := ⟨2, [], 13, b893⟩
noncomputable def b900 : List St := [.ite (.or [.cmp (.loc 2) [(.nin, .loc 1)], .cmp (.idx (.idx (.loc 1) (.loc 2)) (.cst (.int 0))) [(.ne, .cst (.str [117, 115, 101, 100]))], .cmp (.idx (.idx (.loc 1) (.loc 2)) (.cst (.int 2))) [(.ne, .loc 3)], .cmp (.loc 2) [(.eq, .cst (.int 0))]]) [.ret (.cst (.none))] [], .for_ (.loc 4) (.loc 0) [.ite (.and [.cmp (.idx (.loc 4) (.cst (.int 0))) [(.eq, .loc 2)], .cmp (.idx (.loc 4) (.cst (.int 1))) [(.eq, .loc 3)], .cmp (.idx (.loc 4) (.cst (.int 2))) [(.eq, .idx (.idx (.loc 1) (.loc 2)) (.cst (.int 1)))]]) [.ret (.loc 4)] []], .ret (.cst (.none))]
noncomputable def l900 : List Str := [Str.ofString "laid", Str.ofString "table", Str.ofString "number", Str.ofString "generation", Str.ofString "row"]
noncomputable def f900 : Fn := ⟨4, [], 5, b900⟩
noncomputable def b907 : List St := [.ite (.or [.cmp (.loc 2) [(.eq, .cst (.int 0))], .cmp (.loc 2) [(.nin, .loc 1)], .cmp (.idx (.idx (.loc 1) (.loc 2)) (.cst (.int 0))) [(.eq, .cst (.str [102, 114, 101, 101]))]]) [.ret (.cst (.none))] [], .asg (.tup [3, 4, 5]) (.idx (.loc 1) (.loc 2)), .ite (.cmp (.loc 3) [(.eq, .cst (.str [117, 115, 101, 100]))]) [.asg (.loc 6) (.call (.cst (.fn 900)) [.loc 0, .loc 1, .loc 2, .loc 5]), .ret (.ite (.cmp (.loc 6) [(.is, .cst (.none))]) (.cst (.none)) (.tup [.loc 5, .idx (.loc 6) (.cst (.int 3)), .idx (.loc 6) (.cst (.int 4))]))] [], .asg (.loc 7) (.call (.cst (.fn 900)) [.loc 0, .loc 1, .loc 4, .cst (.int 0)]), .ite (.or [.cmp (.loc 7) [(.is, .cst (.none))], .cmp (.idx (.loc 7) (.cst (.int 3))) [(.ne, .cst (.int 1))], .cmp (.loc 5) [(.ge, .call (.cst (.bi .len)) [.idx (.loc 7) (.cst (.int 4))])], .cmp (.bin .mod (.bin .fdiv (.idx (.idx (.loc 7) (.cst (.int 4))) (.loc 5)) (.cst (.int 10))) (.cst (.int 10))) [(.ne, .loc 2)]]) [.ret (.cst (.none))] [], .ret (.tup [.cst (.int 0), .cst (.int 0), .list [.idx (.idx (.loc 7) (.cst (.int 4))) (.loc 5)]])]
noncomputable def l907 : List Str := [Str.ofString "laid", Str.ofString "table", Str.ofString "number", Str.ofString "way", Str.ofString "one", Str.ofString "two", Str.ofString "row", Str.ofString "room"]
noncomputable def f907 : Fn := ⟨3, [], 8, b907⟩
noncomputable def b912 : List St := [.asg (.loc 1) (.call (.cst (.fn 869)) [.loc 0]), .asg (.tup [2, 3]) (.call (.cst (.fn 886)) [.loc 1]), .asg (.loc 5) (.lcomp (.call (.cst (.fn 893)) [.loc 2, .loc 1]) (.call (.cst (.bi .range)) [.bin .add (.cst (.int 1)) (.call (.cst (.fn 876)) [.loc 1, .cst (.int 3)])]) [] [(some 3), (some 1)]), .asg (.loc 6) (.list []), .for_ (.loc 4) (.call (.cst (.bi .range)) [.call (.cst (.bi .len)) [.loc 5]]) [.asg (.loc 7) (.dict []), .for_ (.loc 8) (.idx (.loc 5) (.loc 4)) [.asg (.sub (.loc 7) (.loc 8)) (.call (.cst (.cls 730)) [.idx (.idx (.idx (.loc 5) (.loc 4)) (.loc 8)) (.cst (.int 0)), .idx (.idx (.idx (.loc 5) (.loc 4)) (.loc 8)) (.cst (.int 1)), .idx (.idx (.idx (.loc 5) (.loc 4)) (.loc 8)) (.cst (.int 2))])], .expr (.meth (.loc 6) 0 [.call (.cst (.cls 773)) [.loc 4, .loc 7, .dict [(.cst (.str [83, 105, 122, 101]), .cst (.int 9)), (.cst (.str [80, 114, 101, 118]), .loc 4), (.cst (.str [73, 110, 102, 111]), .loc 4), (.cst (.str [88, 82, 101, 102, 83, 116, 109]), .cst (.int 1))]]])], .asg (.loc 9) (.call (.cst (.fn 876)) [.loc 1, .call (.cst (.bi .len)) [.loc 5]]), .asg (.loc 10) (.dict []), .for_ (.loc 11) (.slc (.slc (.loc 5) (.loc 9) (.cst (.none)) (.cst (.none))) (.cst (.none)) (.cst (.none)) (.neg (.cst (.int 1)))) [.expr (.meth (.loc 10) 3 [.loc 11])], .asg (.loc 12) (.call (.cst (.fn 843)) [.loc 2, .slc (.loc 6) (.loc 9) (.cst (.none)) (.cst (.none)), .cst (.fn 881)]), .asg (.loc 13) (.list []), .for_ (.loc 8) (.call (.cst (.bi .sorted)) [.loc 10]) [.asg (.loc 14) (.call (.cst (.fn 907)) [.loc 3, .loc 10, .loc 8]), .ite (.and [.cmp (.loc 14) [(.isnt, .cst (.none))], .cmp (.idx (.loc 14) (.cst (.int 1))) [(.isin, .tup [.cst (.int 0), .cst (.int 3)])]]) [.expr (.meth (.loc 13) 0 [.tup [.loc 8, .idx (.loc 14) (.cst (.int 0)), .tup [.cst (.str [105, 110, 116]), .idx (.idx (.loc 14) (.cst (.int 2))) (.cst (.int 0))]]])] []], .ite (.cmp (.meth (.loc 12) 29 []) [(.ne, .tup [.call (.cst (.bi .tuple)) [.loc 13], .tup [.cst (.str [100, 105, 99, 116]), .tup [.cst (.str [73, 110, 102, 111]), .tup [.cst (.str [105, 110, 116]), .loc 9]]]])]) [.ret (.cst (.bool false))] [], .asg (.loc 7) (.dict []), .for_ (.loc 8) (.loc 10) [.asg (.sub (.loc 7) (.loc 8)) (.call (.cst (.cls 730)) [.idx (.idx (.loc 10) (.loc 8)) (.cst (.int 0)), .idx (.idx (.loc 10) (.loc 8)) (.cst (.int 1)), .idx (.idx (.loc 10) (.loc 8)) (.cst (.int 2))])], .for_ (.loc 8) (.call (.cst (.bi .range)) [.cst (.int 11)]) [.asg (.loc 14) (.call (.cst (.fn 907)) [.loc 3, .loc 10, .loc 8]), .asg (.loc 15) (.ite (.cmp (.loc 14) [(.is, .cst (.none))]) (.cst (.int 0)) (.idx (.loc 14) (.cst (.int 0)))), .asg (.loc 16) (.call (.cst (.fn 414)) [.call (.cst (.fn 864)) [.loc 2, .loc 7, .loc 8, .loc 15, .cst (.fn 881)]]), .ite (.or [.cmp (.loc 14) [(.is, .cst (.none))], .cmp (.idx (.loc 14) (.cst (.int 1))) [(.isin, .tup [.cst (.int 0), .cst (.int 3)])]]) [.ite (.cmp (.loc 16) [(.ne, .ite (.cmp (.loc 14) [(.is, .cst (.none))]) (.tup [.cst (.str [110, 117, 108, 108])]) (.tup [.cst (.str [105, 110, 116]), .idx (.idx (.loc 14) (.cst (.int 2))) (.cst (.int 0))]))]) [.ret (.cst (.bool false))] []] [.ite (.cmp (.idx (.loc 16) (.cst (.int 0))) [(.ne, .cst (.str [115, 116, 114, 101, 97, 109]))]) [.ret (.cst (.bool false))] []], .ite (.and [.cmp (.call (.cst (.fn 864)) [.loc 2, .loc 7, .loc 8, .bin .add (.loc 15) (.cst (.int 1)), .cst (.fn 881)]) [(.isnt, .cst (.none))], .cmp (.call (.cst (.fn 900)) [.loc 3, .loc 10, .loc 8, .bin .add (.loc 15) (.cst (.int 1))]) [(.is, .cst (.none))]]) [.ret (.cst (.bool false))] []], .ret (.cst (.bool true))]
noncomputable def l912 : List Str := [Str.ofString "script", Str.ofString "pen", Str.ofString "data", Str.ofString "laid", Str.ofString "turn", Str.ofString "tables", Str.ofString "sections", Str.ofString "entries", Str.ofString "number", Str.ofString "count", Str.ofString "newest", Str.ofString "table", Str.ofString "shelf", Str.ofString "rows", Str.ofString "found", Str.ofString "generation", Str.ofString "heard"]
noncomputable def f912 : Fn := ⟨1, [], 17, b912⟩
noncomputable def fnL : List (Nat × Fn) := [(30, f30), (37, f37), (44, f44), (59, f59), (66, f66), (74, f74), (81, f81), (88, f88), (95, f95), (102, f102), (109, f109), (116, f116), (130, f130), (303, f303), (317, f317), (339, f339), (360, f360), (381, f381), (402, f402), (409, f409), (414, f414), (429, f429), (436, f436), (443, f443), (464, f464), (478, f478), (485, f485), (497, f497), (525, f525), (558, f558), (565, f565), (572, f572), (579, f579), (593, f593), (600, f600), (614, f614), (621, f621), (635, f635), (640, f640), (647, f647), (655, f655), (662, f662), (669, f669), (684, f684), (691, f691), (698, f698), (706, f706), (720, f720), (741, f741), (748, f748), (755, f755), (770, f770), (782, f782), (787, f787), (794, f794), (801, f801), (808, f808), (815, f815), (822, f822), (829, f829), (836, f836), (843, f843), (857, f857), (864, f864), (869, f869), (876, f876), (881, f881), (886, f886), (893, f893), (900, f900), (907, f907), (912, f912)]
noncomputable def locL : List (Nat × List Str) := [(30, l30), (37, l37), (44, l44), (59, l59), (66, l66), (74, l74), (81, l81), (88, l88), (95, l95), (102, l102), (109, l109), (116, l116), (130, l130), (303, l303), (317, l317), (339, l339), (360, l360), (381, l381), (402, l402), (409, l409), (414, l414), (429, l429), (436, l436), (443, l443), (464, l464), (478, l478), (485, l485), (497, l497), (525, l525), (558, l558), (565, l565), (572, l572), (579, l579), (593, l593), (600, l600), (614, l614), (621, l621), (635, l635), (640, l640), (647, l647), (655, l655), (662, l662), (669, l669), (684, l684), (691, l691), (698, l698), (706, l706), (720, l720), (741, l741), (748, l748), (755, l755), (770, l770), (782, l782), (787, l787), (794, l794), (801, l801), (808, l808), (815, l815), (822, l822), (829, l829), (836, l836), (843, l843), (857, l857), (864, l864), (869, l869), (876, l876), (881, l881), (886, l886), (893, l893), (900, l900), (907, l907), (912, l912)]
noncomputable def nmL : List Str := [Str.ofString "append", Str.ofString "pop", Str.ofString "get", Str.ofString "update", Str.ofString "join", Str.ofString "encode", Str.ofString "data", Str.ofString "at", Str.ofString "end", Str.ofString "is_done", Str.ofString "peek", Str.ofString "take", Str.ofString "starts", Str.ofString "skip", Str.ofString "skip_white", Str.ofString "take_regular", Str.ofString "skip_line_end", Str.ofString "number", Str.ofString "text", Str.ofString "octets", Str.ofString "is_hex", Str.ofString "head", Str.ofString "generation", Str.ofString "table", Str.ofString "trailer", Str.ofString "fetch", Str.ofString "put", Str.ofString "drop", Str.ofString "numbers", Str.ofString "told", Str.ofString "mark", Str.ofString "items", Str.ofString "wants_key", Str.ofString "way", Str.ofString "one", Str.ofString "two", Str.ofString "entries"]
noncomputable def globL : List (Str × V) := [(Str.ofString "is_white", V.fn 30), (Str.ofString "is_regular", V.fn 37), (Str.ofString "is_figure", V.fn 44), (Str.ofString "read_decimal", V.fn 303), (Str.ofString "kind_of", V.fn 402), (Str.ofString "told_plain", V.fn 409), (Str.ofString "told", V.fn 414), (Str.ofString "name_text", V.fn 525), (Str.ofString "run_token", V.fn 558), (Str.ofString "delimited_token", V.fn 565), (Str.ofString "next_token", V.fn 572), (Str.ofString "is_sign", V.fn 579), (Str.ofString "is_whole", V.fn 614), (Str.ofString "take_reference", V.fn 621), (Str.ofString "plain_value", V.fn 635), (Str.ofString "dict_of", V.fn 640), (Str.ofString "close_frame", V.fn 647), (Str.ofString "object_from", V.fn 655), (Str.ofString "read_object", V.fn 662), (Str.ofString "length_of", V.fn 669), (Str.ofString "read_stream", V.fn 684), (Str.ofString "skip_word", V.fn 691), (Str.ofString "take_number", V.fn 698), (Str.ofString "read_indirect", V.fn 706), (Str.ofString "overlaid", V.fn 741), (Str.ofString "is_cross_stream", V.fn 748), (Str.ofString "is_object_stream", V.fn 755), (Str.ofString "newest_entries", V.fn 782), (Str.ofString "document_trailer", V.fn 787), (Str.ofString "meets", V.fn 794), (Str.ofString "has_far_length", V.fn 801), (Str.ofString "used_object", V.fn 808), (Str.ofString "put_used", V.fn 815), (Str.ofString "packed_places", V.fn 822), (Str.ofString "put_packed_by", V.fn 829), (Str.ofString "drop_file_streams", V.fn 836), (Str.ofString "shelf_by", V.fn 843), (Str.ofString "used_at", V.fn 857), (Str.ofString "object_by", V.fn 864), (Str.ofString "_law_pen", V.fn 869), (Str.ofString "_law_draw", V.fn 876), (Str.ofString "_law_read", V.fn 881), (Str.ofString "_law_laid", V.fn 886), (Str.ofString "_law_table", V.fn 893), (Str.ofString "_law_plain", V.fn 900), (Str.ofString "_law_told", V.fn 907), (Str.ofString "law", V.fn 912), (Str.ofString "told_objects", V.fn 414), (Str.ofString "Cursor", V.cls 147), (Str.ofString "Decimal", V.cls 285), (Str.ofString "Name", V.cls 320), (Str.ofString "String", V.cls 342), (Str.ofString "Stream", V.cls 363), (Str.ofString "Reference", V.cls 391), (Str.ofString "Lookup", V.cls 446), (Str.ofString "Shelf", V.cls 500), (Str.ofString "Frame", V.cls 603), (Str.ofString "Entry", V.cls 730), (Str.ofString "Section", V.cls 773), (Str.ofString "len", V.bi .len), (Str.ofString "range", V.bi .range), (Str.ofString "int", V.bi .int), (Str.ofString "abs", V.bi .abs), (Str.ofString "str", V.bi .str), (Str.ofString "chr", V.bi .chr), (Str.ofString "sorted", V.bi .sorted), (Str.ofString "tuple", V.bi .tuple), (Str.ofString "dict", V.bi .dict), (Str.ofString "bytes", V.bi .bytes), (Str.ofString "isinstance", V.bi .isinstance), (Str.ofString "min", V.bi .min), (Str.ofString "bool", V.bi .bool), (Str.ofString "list", V.bi .list), (Str.ofString "WHITE", V.tup [V.int 0, V.int 9, V.int 10, V.int 12, V.int 13, V.int 32]), (Str.ofString "DELIMITERS", V.tup [V.int 40, V.int 41, V.int 60, V.int 62, V.int 91, V.int 93, V.int 123, V.int 125, V.int 47, V.int 37]), (Str.ofString "LINE_FEED", V.int 10), (Str.ofString "RETURN", V.int 13), (Str.ofString "COMMENT", V.int 37), (Str.ofString "MOST_FIGURES_cursor", V.int 20), (Str.ofString "MOST_FIGURES_decimals", V.int 40), (Str.ofString "PLUS", V.int 43), (Str.ofString "MINUS", V.int 45), (Str.ofString "POINT", V.int 46), (Str.ofString "ZERO", V.int 48), (Str.ofString "MOST_HOPS", V.int 30), (Str.ofString "PAREN", V.int 40), (Str.ofString "CLOSE_PAREN", V.int 41), (Str.ofString "LESS", V.int 60), (Str.ofString "GREATER", V.int 62), (Str.ofString "SLASH", V.int 47), (Str.ofString "BACKSLASH", V.int 92), (Str.ofString "HASH", V.int 35), (Str.ofString "SIGNS", V.tup [V.int 91, V.int 93, V.int 123, V.int 125]), (Str.ofString "MOST_DEPTH", V.int 40), (Str.ofString "OF_THE_FILE", V.tup [V.str [83, 105, 122, 101], .str [80, 114, 101, 118], .str [88, 82, 101, 102, 83, 116, 109]])]
noncomputable def natL : List (Str × Nat) := [(Str.ofString "append", 0), (Str.ofString "pop", 1), (Str.ofString "get", 2), (Str.ofString "update", 3), (Str.ofString "join", 4), (Str.ofString "encode", 5), (Str.ofString "data", 6), (Str.ofString "at", 7), (Str.ofString "end", 8), (Str.ofString "is_done", 9), (Str.ofString "peek", 10), (Str.ofString "take", 11), (Str.ofString "starts", 12), (Str.ofString "skip", 13), (Str.ofString "skip_white", 14), (Str.ofString "take_regular", 15), (Str.ofString "skip_line_end", 16), (Str.ofString "number", 17), (Str.ofString "text", 18), (Str.ofString "octets", 19), (Str.ofString "is_hex", 20), (Str.ofString "head", 21), (Str.ofString "generation", 22), (Str.ofString "table", 23), (Str.ofString "trailer", 24), (Str.ofString "fetch", 25), (Str.ofString "put", 26), (Str.ofString "drop", 27), (Str.ofString "numbers", 28), (Str.ofString "told", 29), (Str.ofString "mark", 30), (Str.ofString "items", 31), (Str.ofString "wants_key", 32), (Str.ofString "way", 33), (Str.ofString "one", 34), (Str.ofString "two", 35), (Str.ofString "entries", 36)]
noncomputable def c147 : Ci := ⟨59, false, [6, 7, 8], [(9, 66), (10, 74), (11, 81), (12, 88), (13, 95), (14, 102), (15, 109), (16, 116), (17, 130)]⟩
noncomputable def c320 : Ci := ⟨317, true, [18], []⟩
noncomputable def c342 : Ci := ⟨339, true, [19, 20], []⟩
noncomputable def c363 : Ci := ⟨360, true, [21, 19], []⟩
noncomputable def c391 : Ci := ⟨381, true, [17, 22], []⟩
noncomputable def c446 : Ci := ⟨429, false, [23, 24], [(25, 436), (2, 443)]⟩
noncomputable def c500 : Ci := ⟨429, false, [23, 24], [(25, 436), (2, 443), (26, 464), (27, 478), (28, 485), (29, 497)]⟩
noncomputable def c603 : Ci := ⟨593, false, [30, 31], [(32, 600)]⟩
noncomputable def c730 : Ci := ⟨720, true, [33, 34, 35], []⟩
noncomputable def c773 : Ci := ⟨770, true, [7, 36, 24], []⟩
noncomputable def ciL : List (Nat × Ci) := [(147, c147), (320, c320), (342, c342), (363, c363), (391, c391), (446, c446), (500, c500), (603, c603), (730, c730), (773, c773)]
noncomputable def P : Pr := ⟨fun f => lookN f fnL, fun c => lookN c ciL, [285, 320, 342, 363, 391]⟩
end
section
open PySem PySem.W PyProof.Rows PySem.Calls
noncomputable abbrev PF := Addr → Obj → Prop
noncomputable abbrev News' := List (Addr × Obj)
noncomputable def biVal : BI → Value
  | .len => .builtin "len"
  | .range => .type "range"
  | .int => .type "int"
  | .abs => .builtin "abs"
  | .str => .type "str"
  | .chr => .builtin "chr"
  | .sorted => .builtin "sorted"
  | .tuple => .type "tuple"
  | .dict => .type "dict"
  | .bytes => .type "bytes"
  | .isinstance => .builtin "isinstance"
  | .min => .builtin "min"
  | .bool => .type "bool"
  | .list => .type "list"
structure Tab where
  fnA : Nat → Addr
  clA : Nat → Addr
  nm : Nat → Str
structure Wd where
  prog : Program
  w : World
  K : Frag
  p : Program
  loose : List Str
  mean : ExcName → Option Value
  mg : Str → Option Value
  mb : Str → Option Value
  tb : Tab
  pr : Pr
  ro : Addr → Option (List Value × Obj)
noncomputable abbrev tupO (vs : List Value) (n : Nat) : Obj := { cls := .type "tuple", data := .seq vs.toArray n }
noncomputable abbrev lstO (vs : List Value) (n : Nat) : Obj := { cls := .type "list", data := .seq vs.toArray n }
noncomputable abbrev rngO (a b c : Int) (t u v : Tok) : Obj := { cls := .type "range", dict := none, data := .fields #[.int a t, .int b u, .int c v], slots := #[] }
inductive EntR (P : Params) : List Str → List DictEntry → List Value → Prop
  | nil : EntR P [] [] []
  | cons {n : Str} {ns es v vs} (t : Tok) : EntR P ns es vs → EntR P (n :: ns) (⟨PyData.keyHash P n, .str n t, v⟩ :: es) (v :: vs)
noncomputable def Wd.flds (W : Wd) (c : Nat) : Option (List Str) := (W.pr.ci c).map fun ci => ci.flds.map W.tb.nm
mutual
inductive VR (W : Wd) (F : PF) : V → Value → Prop
  | none : VR W F .none .none
  | bool (b : Bool) : VR W F (.bool b) (.bool b)
  | int (i : Int) (t : Tok) : VR W F (.int i) (.int i t)
  | str (x : Str) (t : Tok) : VR W F (.str x.cps.toList) (.str x t)
  | bytes (b : Array UInt8) (t : Tok) : VR W F (.bytes (b.toList.map UInt8.toNat)) (.bytes b t)
  | tup {l : List V} {vs : List Value} {a : Addr} {n : Nat} : F a (tupO vs n) → VRs W F l vs → VR W F (.tup l) (.ref a)
  | obj {c : Nat} {fs : List V} {x dx : Addr} {es : List DictEntry} {n : Nat} {ns : List Str} {vs : List Value} : W.flds c = some ns → F x (instObj (W.tb.clA c) dx) → F dx (dictOf es n) →
      EntR W.w.params ns es vs → VRs W F fs vs → VR W F (.obj c fs) (.ref x)
  | ref (a : Addr) : VR W F (.ref a) (.ref a)
  | fn (f : Nat) : VR W F (.fn f) (.ref (W.tb.fnA f))
  | cls (c : Nat) : VR W F (.cls c) (.ref (W.tb.clA c))
  | bi (b : BI) : VR W F (.bi b) (biVal b)
  | rng {lo hi st : Int} {n : Nat} {a : Addr} {t u v : Tok} : F a (rngO lo hi st t u v) → Builtin.Range.small lo hi st = true → Builtin.Range.rangeSize lo hi st = n → VR W F (.rng lo st n) (.ref a)
inductive VRs (W : Wd) (F : PF) : List V → List Value → Prop
  | nil : VRs W F [] []
  | cons {a : V} {v : Value} {l : List V} {vs : List Value} : VR W F a v → VRs W F l vs → VRs W F (a :: l) (v :: vs)
end
noncomputable def kd (o : Obj) : Bool := match o.data with
  | .seq _ _ => o.cls == .type "tuple"
  | .plain => true
  | .dict _ _ => true
  | .fields _ => o.cls == .type "range"
  | _ => false
section
variable {W : Wd} {F F' : PF}
theorem VRs.ind {P : List V → List Value → Prop} (h0 : P [] []) (h1 : ∀ {a v l vs}, VR W F a v → VRs W F l vs → P l vs → P (a :: l) (v :: vs)) {l : List V} {vs : List Value} (h : VRs W F l vs) : P l vs :=
  VRs.rec (motive_1 := fun Z Z Z => True) (motive_2 := fun l vs Z => P l vs) trivial (fun Z => trivial) (fun Z Z => trivial) (fun Z Z => trivial) (fun Z Z => trivial) (fun Z Z Z => trivial) (fun Z Z Z Z Z Z => trivial) (fun Z => trivial) (fun Z => trivial) (fun Z => trivial) (fun Z => trivial) (fun Z Z Z => trivial) h0 (fun x r Z q => h1 x r q) h
theorem VR.mono (m : ∀ a o, kd o = true → F a o → F' a o) {v : V} {v' : Value} (h : VR W F v v') : VR W F' v v' :=
  VR.rec (motive_1 := fun v v' Z => VR W F' v v') (motive_2 := fun l vs Z => VRs W F' l vs) .none .bool .int .str .bytes (fun h Z r => .tup (m _ _ rfl h) r) (fun e h1 h2 r Z q => .obj e (m _ _ rfl h1) (m _ _ rfl h2) r q) .ref .fn .cls .bi (fun h a b => .rng (m _ _ rfl h) a b) .nil (fun Z Z x r => .cons x r) h
theorem VRs.mono (m : ∀ a o, kd o = true → F a o → F' a o) {l : List V} {vs : List Value} (h : VRs W F l vs) : VRs W F' l vs := h.ind .nil fun x Z r => .cons (x.mono m) r
theorem VRs.length {l : List V} {vs : List Value} (h : VRs W F l vs) : l.length = vs.length := h.ind (P := fun l vs => l.length = vs.length) rfl fun Z Z e => congrArg (· + 1) e
theorem VRs.get {l : List V} {vs : List Value} (h : VRs W F l vs) : ∀ {i : Nat} {a : V}, l[i]? = some a → ∃ v, vs[i]? = some v ∧ VR W F a v :=
  h.ind (P := fun l vs => ∀ {i : Nat} {a : V}, l[i]? = some a → ∃ v, vs[i]? = some v ∧ VR W F a v) (fun e => by cases e) fun {a v l vs} x _ q i b e => by
    induction i using Nat.casesOn with
    | zero => cases e; exact ⟨v, rfl, x⟩
    | succ i => exact q e
theorem VRs.append {l m : List V} {vs ws : List Value} (h : VRs W F l vs) (g : VRs W F m ws) : VRs W F (l ++ m) (vs ++ ws) :=
  h.ind (P := fun l vs => VRs W F (l ++ m) (vs ++ ws)) g fun x Z r => .cons x r
theorem VRs.one {a : V} {v : Value} (h : VR W F a v) : VRs W F [a] [v] := .cons h .nil
theorem VRs.set {l : List V} {vs : List Value} (h : VRs W F l vs) : ∀ {i : Nat} {a : V} {v : Value}, VR W F a v → VRs W F (l.set i a) (vs.set i v) :=
  h.ind (P := fun l vs => ∀ {i : Nat} {a : V} {v : Value}, VR W F a v → VRs W F (l.set i a) (vs.set i v)) (fun Z => .nil) fun x r q i a v g => by
    induction i using Nat.casesOn with
    | zero => exact .cons g r
    | succ i => exact .cons x (q g)
theorem VRs.take {l : List V} {vs : List Value} (h : VRs W F l vs) : ∀ n, VRs W F (l.take n) (vs.take n) :=
  h.ind (P := fun l vs => ∀ n, VRs W F (l.take n) (vs.take n)) (fun n => by induction n using Nat.casesOn <;> exact .nil) fun x Z q n => by
    induction n using Nat.casesOn with
    | zero => exact .nil
    | succ n => exact .cons x (q n)
theorem VRs.drop {l : List V} {vs : List Value} (h : VRs W F l vs) : ∀ n, VRs W F (l.drop n) (vs.drop n) :=
  h.ind (P := fun l vs => ∀ n, VRs W F (l.drop n) (vs.drop n)) (fun n => by induction n using Nat.casesOn <;> exact .nil) fun x r q n => by
    induction n using Nat.casesOn with
    | zero => exact .cons x r
    | succ n => exact q n
theorem VRs.reverse {l : List V} {vs : List Value} (h : VRs W F l vs) : VRs W F l.reverse vs.reverse := by
  induction l generalizing vs with
  | nil => cases h; exact .nil
  | cons a l ih => cases h with | cons x r => simpa using (ih r).append (.one x)
theorem EntR.length {P : Params} {ns es vs} (h : EntR P ns es vs) : ns.length = es.length ∧ es.length = vs.length := by
  induction h with
  | nil => exact ⟨rfl, rfl⟩
  | cons _ _ r => exact ⟨congrArg (· + 1) r.1, congrArg (· + 1) r.2⟩
end
inductive Slot where
  | loc
  | cell (a : Addr)
  | ns (a : Addr)
structure Cx where
  A : Around
  A₀ : Around
  base : Heap
  outer : List Env
  top : Env
  h₀ : Heap
  L : Addr
  env : Env
  sl : List (Str × Slot)
  ex : List Addr
  gens : Array GenState
  drawn : Drawn
  os : OsState
  d : Nat
noncomputable def Fx (W : Wd) (c : Cx) (h : Hp) (news : News') : PF := fun a o => ((a, o) ∈ news ∧ h.get a = none ∧ a ∉ c.ex) ∨ W.K.lookup a = some o
inductive KVI (W : Wd) (F : PF) : List (V × V) → List (Int × Value) → Prop
  | nil : KVI W F [] []
  | cons {i v v' l r} : VR W F v v' → KVI W F l r → KVI W F ((.int i, v) :: l) ((i, v') :: r)
inductive KVS (W : Wd) (F : PF) : List (V × V) → List (Str × Value) → Prop
  | nil : KVS W F [] []
  | cons {x : Str} {v v' l r} : VR W F v v' → KVS W F l r → KVS W F ((.str x.cps.toList, v) :: l) ((x, v') :: r)
theorem KVI.mono {W : Wd} {F F' : PF} (m : ∀ a o, kd o = true → F a o → F' a o) {l r} (h : KVI W F l r) : KVI W F' l r := by
  induction h with
  | nil => exact .nil
  | cons h _ r => exact .cons (h.mono m) r
theorem KVS.mono {W : Wd} {F F' : PF} (m : ∀ a o, kd o = true → F a o → F' a o) {l r} (h : KVS W F l r) : KVS W F' l r := by
  induction h with
  | nil => exact .nil
  | cons h _ r => exact .cons (h.mono m) r
noncomputable def epOf (o : Obj) : Nat := match o.data with
  | .dict _ ep => ep
  | _ => 0
inductive OR (W : Wd) (F : PF) (news : News') (g : Nat → Option O) (a : Addr) : O → Prop
  | list {l vs n} : (a, lstO vs n) ∈ news → VRs W F l vs → OR W F news g a (.list l)
  | dictI {l kvs o ep} : (a, o) ∈ news → o.IsDictOf (intKind W.prog W.w) kvs → epOf o = ep → KVI W F l kvs → OR W F news g a (.dict ep l)
  | dictS {l kvs o ep} : (a, o) ∈ news → o.IsDictOf (strKind W.prog W.w) kvs → epOf o = ep → KVS W F l kvs → OR W F news g a (.dict ep l)
  | inst {c fs dx es n ns vs} : W.flds c = some ns → (a, instObj (W.tb.clA c) dx) ∈ news → (dx, dictOf es n) ∈ news → g dx = some (.hid a) →
      fs.length ≤ ns.length → EntR W.w.params (ns.take fs.length) es vs → VRs W F fs vs → OR W F news g a (.inst c fs)
  | hid (x : Nat) : (∃ o, (a, o) ∈ news) → OR W F news g a (.hid x)
  | ro {l vs n} : W.ro a = some (vs, n) → (∀ hh : Heap, hh.get? a = some n → hh.IsList a vs.toArray) → VRs W F l vs → OR W F news g a (.ro l)
noncomputable def iterO (o : Obj) : Bool := match o.data with
  | .fields _ => o.cls != .type "range"
  | _ => false
theorem kd_of {o : Obj} (hi : iterO o = true) : kd o = false := by
  unfold iterO at hi; unfold kd
  revert hi
  generalize o.data = y
  intro hi
  cases y <;> first | exact Bool.noConfusion hi | simpa using hi
noncomputable def SlotR (news : News') (m : Str → Option Value) (x : Str) (v' : Value) : Slot → Prop
  | .loc => m x = some v'
  | .cell a => ∃ o, (a, o) ∈ news ∧ o.data = .cell (some v')
  | .ns C => ∃ m' o, (C, o) ∈ news ∧ (∀ h : Heap, h.get? C = some o → h.Ns C m') ∧ m' x = some v'
noncomputable def LocR (W : Wd) (c : Cx) (F : PF) (news : News') (m : Str → Option Value) (ls : Ls) : Prop :=
  ∀ (i : Nat) (x : Str) (sl : Slot) (v : V), c.sl[i]? = some (x, sl) → ls[i]? = some (some v) → ∃ v', VR W F v v' ∧ SlotR news m x v' sl
structure Rel (W : Wd) (c : Cx) (ls : Ls) (h : Hp) (news : News') (s : Shared) : Prop where
  fr : ∃ m, Fr c.h₀ c.L s.heap m ∧ LocR W c (Fx W c h news) news m ls
  nw : News c.h₀ c.L s.heap news
  hp : ∀ a o, h.get a = some o → OR W (Fx W c h news) news h.get a o
  top : (∃ b vs n, W.ro b = some (vs, n) ∧ c.h₀.get? b = some n ∧ h.top ≤ b + 1) ∨ ∃ t o, (t, o) ∈ news ∧ h.top ≤ t + 1 ∧ iterO o = false ∧ t ∉ c.ex
  dom : ∀ a o, h.get a = some o → a < h.top
  ex : ∀ a ∈ c.ex, h.get a = none ∧ ∃ o, (a, o) ∈ news
  cl : ∀ x a, (x, Slot.cell a) ∈ c.sl → a ∈ c.ex ∧ ∃ o v, (a, o) ∈ news ∧ o.data = .cell v
  nx : ∀ x C, (x, Slot.ns C) ∈ c.sl → C ∈ c.ex
  gens : s.gens = c.gens
  drawn : s.drawn = c.drawn
  os : s.os = c.os
  hid : ∀ b x, h.get b = some (.hid x) → h.get x ≠ none
structure Good (W : Wd) (c : Cx) : Prop where
  B : Below c.A₀ c.base c.outer c.h₀
  X : W.K.In c.h₀
  T : Top W.p W.loose W.mean W.mg W.mb c.h₀
  frames : c.A.frames = some (c.top :: c.outer)
  frame : c.top.frame = some c.L
  kindT : c.top.scope.kind = .function
  kind : c.env.scope.kind = .function
  glob : c.env.globals = mainGlobals
  blt : c.env.builtins = builtinsNs
  handled : c.A.handled = none
  depth : c.A.depth + 4 * c.d + 120 < recursionLimit
  units : c.A.units + 20 * c.d + 200 < cLine
  noImp : importsNone W.p = true
  ro : ∀ a vs n, W.ro a = some (vs, n) → c.h₀.get? a = some n
noncomputable def Stab (F F' : PF) : Prop := ∀ a o, F a o → F' a o
theorem Stab.refl {F : PF} : Stab F F := fun Z Z h => h
theorem Stab.trans {F F' F'' : PF} (a : Stab F F') (b : Stab F' F'') : Stab F F'' := fun Z Z h => b _ _ (a _ _ h)
theorem VR.stab {W : Wd} {F F' : PF} {v v'} (h : VR W F v v') (s : Stab F F') : VR W F' v v' := h.mono fun Z Z Z q => s _ _ q
theorem VRs.stab {W : Wd} {F F' : PF} {v v'} (h : VRs W F v v') (s : Stab F F') : VRs W F' v v' := h.mono fun Z Z Z q => s _ _ q
section
variable {W : Wd} {c : Cx} {ls : Ls} {h h' : Hp} {news news' : News'} {s s' : Shared} {F F' : PF} {g g' : Nat → Option O} {a d : Addr} {o : O}
theorem OR.grow (m : ∀ a o, kd o = true → F a o → F' a o) (hn : ∀ o, (a, o) ∈ news → (a, o) ∈ news') (hd : ∀ x o, g x = some (.hid a) → (x, o) ∈ news → (x, o) ∈ news') (hg : ∀ x, g x = some (.hid a) → g' x = some (.hid a)) :
    OR W F news g a o → OR W F' news' g' a o := fun h => by
  induction h using OR.casesOn with
  | list h r => exact .list (hn _ h) (r.mono m)
  | dictI h q e r => exact .dictI (hn _ h) q e (r.mono m)
  | dictS h q e r => exact .dictS (hn _ h) q e (r.mono m)
  | inst e h1 h2 h3 hl h4 r => exact .inst e (hn _ h1) (hd _ _ h3 h2) (hg _ h3) hl h4 (r.mono m)
  | hid x h => exact .hid x (h.elim fun o q => ⟨o, hn _ q⟩)
  | ro h hl r => exact .ro h hl (r.mono m)
theorem LocR.grow {m : Str → Option Value} (k : ∀ a o, kd o = true → F a o → F' a o) (hn : ∀ p ∈ news, p ∈ news') (l : LocR W c F news m ls) : LocR W c F' news' m ls := fun i x sl v h1 h2 => by
  refine e12 (l i x sl v h1 h2) fun v' q r => ?_
  refine ⟨v', q.mono k, ?_⟩
  induction sl using Slot.casesOn with
  | loc => exact r
  | cell a =>
    refine e12 r fun o b e => ?_
    clear r
    exact ⟨o, hn _ b, e⟩
  | ns C =>
    refine e22 r fun m' o b e => ?_
    clear r
    exact ⟨m', o, hn _ b, e⟩
theorem Rel.at (R : Rel W c ls h news s) {o : Obj} (hm : (a, o) ∈ news) : s.heap.get? a = some o := (R.nw _ hm).1
theorem Rel.uniq (R : Rel W c ls h news s) {o o' : Obj} (hm : (a, o) ∈ news) (hm' : (a, o') ∈ news) : o = o' := by
  have := R.at hm
  rw [R.at hm'] at this
  exact (Option.some.inj this).symm
theorem Rel.keep (R : Rel W c ls h news s) : ∀ b o, c.h₀.get? b = some o → s.heap.get? b = some o := let ⟨_, F, _⟩ := R.fr; F.keep
theorem Rel.fact (R : Rel W c ls h news s) (G : Good W c) {o : Obj} (hf : Fx W c h news a o) : s.heap.get? a = some o := by
  rcases hf with ⟨hm, _⟩ | hk
  · exact R.at hm
  · exact R.keep _ _ (G.X _ _ hk)
theorem Rel.lt (R : Rel W c ls h news s) {o : Obj} (hm : (a, o) ∈ news) : a < s.heap.objs.size := Heap.lt_size (R.at hm)
theorem Rel.top_le (R : Rel W c ls h news s) : h.top ≤ s.heap.objs.size := by
  rcases R.top with ⟨b, vs, n, _, e, l⟩ | ⟨_, _, e, l, _⟩
  · exact Nat.le_trans l (Heap.lt_size (R.keep _ _ e))
  · exact Nat.le_trans l (R.lt e)
theorem Rel.tok (R : Rel W c ls h news s) (t : Nat) : Rel W c ls h news { s with toks := t } := ⟨R.fr, R.nw, R.hp, R.top, R.dom, R.ex, R.cl, R.nx, R.gens, R.drawn, R.os, R.hid⟩
theorem Rel.noneAt (R : Rel W c ls h news s) (hl : h.top ≤ a) : h.get a = none := by
  cases e : h.get a with
  | none => rfl
  | some o => exact absurd (R.dom _ _ e) (Nat.not_lt.mpr hl)
theorem Rel.push (R : Rel W c ls h news s) (o : Obj) (hf : o.isFreed = false := by rfl) :
    Rel W c ls h ((s.heap.objs.size, o) :: news) { s with heap := s.heap.push o } ∧ Stab (Fx W c h news) (Fx W c h ((s.heap.objs.size, o) :: news)) ∧ Fx W c h ((s.heap.objs.size, o) :: news) s.heap.objs.size o := by
  refine e12 (R.fr) fun m F L => ?_
  have hs : Stab (Fx W c h news) (Fx W c h ((s.heap.objs.size, o) :: news)) := fun b x hx => hx.imp (fun z => e03 z fun p q r => ⟨.tail _ p, q, r⟩) id
  have hn := R.noneAt R.top_le
  refine ⟨⟨⟨m, F.push o, L.grow (fun Z Z Z => hs _ _) fun p hp => .tail _ hp⟩, R.nw.push F o hf, fun a o' e => (R.hp a o' e).grow (fun Z Z Z => hs _ _) (fun Z hp => .tail _ hp) (fun Z Z Z hp => .tail _ hp) (fun Z e => e), ?_, R.dom, ?_, ?_, R.nx, R.gens, R.drawn, R.os, R.hid⟩, hs, .inl ⟨.head _, hn, ?_⟩⟩
  · exact R.top.imp id fun z => e22 z fun t o' e r => ⟨t, o', .tail _ e, r⟩
  · intro a ha
    obtain ⟨e, o', hm⟩ := R.ex a ha
    exact ⟨e, o', .tail _ hm⟩
  · intro x a ha
    obtain ⟨e, o', v, hm, hd⟩ := R.cl x a ha
    exact ⟨e, o', v, .tail _ hm, hd⟩
  · intro hx
    obtain ⟨_, o', hm⟩ := R.ex _ hx
    exact absurd (R.lt hm) (Nat.lt_irrefl _)
theorem Hp.add_get (h : Hp) (a : Nat) (o : O) (b : Nat) : (h.add a o).get b = if b = a then some o else h.get b := rfl
theorem Hp.set_get (h : Hp) (a : Nat) (o : O) (b : Nat) : (h.set a o).get b = if b = a then some o else h.get b := rfl
theorem Hp.hid_add {h : Hp} {a : Nat} {o : O} (hnh : ∀ y, o ≠ .hid y) (q : ∀ b x, h.get b = some (.hid x) → h.get x ≠ none) : ∀ b x, (h.add a o).get b = some (.hid x) → (h.add a o).get x ≠ none := by
  intro b x e
  rw [Hp.add_get] at e ⊢
  split at e
  · cases e
    exact absurd rfl (hnh _)
  · split
    · simp
    · exact q b x e
theorem Hp.hid_set {h : Hp} {a : Nat} {o : O} (hnh : ∀ y, o ≠ .hid y) (q : ∀ b x, h.get b = some (.hid x) → h.get x ≠ none) : ∀ b x, (h.set a o).get b = some (.hid x) → (h.set a o).get x ≠ none := by
  intro b x e
  rw [Hp.set_get] at e ⊢
  split at e
  · cases e
    exact absurd rfl (hnh _)
  · split
    · simp
    · exact q b x e
theorem Rel.alloc (R : Rel W c ls h news s) (ob : Obj) (o : O) (hi : iterO ob = false) (hf : ob.isFreed = false)
    (hor : ∀ news' F', (s.heap.objs.size, ob) ∈ news' → Stab (Fx W c h news) F' → OR W F' news' (h.add s.heap.objs.size o).get s.heap.objs.size o) (hnh : ∀ y, o ≠ .hid y := by intro _ q; cases q) :
    Rel W c ls (h.add s.heap.objs.size o) ((s.heap.objs.size, ob) :: news) { s with heap := s.heap.push ob } ∧ Stab (Fx W c h news) (Fx W c (h.add s.heap.objs.size o) ((s.heap.objs.size, ob) :: news)) := by
  refine e12 (R.fr) fun m F L => ?_
  have hn := R.noneAt R.top_le
  have hs : Stab (Fx W c h news) (Fx W c (h.add s.heap.objs.size o) ((s.heap.objs.size, ob) :: news)) := fun b x hx => hx.imp (fun z => e03 z fun p q r => ⟨.tail _ p, by
    rw [Hp.add_get, if_neg (Nat.ne_of_lt (R.lt p))]; exact q, r⟩) id
  have hg : ∀ x y, h.get x = some y → (h.add s.heap.objs.size o).get x = some y := fun x y e => by
    rw [Hp.add_get, if_neg (fun q => by rw [q, hn] at e; cases e)]; exact e
  have hnn : ∀ a, (∃ o, (a, o) ∈ news) → h.get a = none → (h.add s.heap.objs.size o).get a = none := fun a z e => z.elim fun o' hm => by
    rw [Hp.add_get, if_neg (Nat.ne_of_lt (R.lt hm))]; exact e
  refine ⟨⟨⟨m, F.push ob, L.grow (fun Z Z Z => hs _ _) fun Z hp => .tail _ hp⟩, R.nw.push F ob hf, fun b x e => ?_, .inr ⟨_, ob, .head _, Nat.le_refl _, hi, fun hC => by obtain ⟨_, o', hm⟩ := R.ex _ hC; exact absurd (R.lt hm) (Nat.lt_irrefl _)⟩, fun b x e => ?_, fun b hb => ?_, fun x b hb => ?_, R.nx, R.gens, R.drawn, R.os, Hp.hid_add hnh R.hid⟩, hs⟩
  · by_cases hb : b = s.heap.objs.size
    · subst hb
      rw [Hp.add_get, if_pos rfl] at e; cases e; exact hor _ _ (.head _) hs
    · rw [Hp.add_get, if_neg hb] at e
      exact (R.hp b x e).grow (fun Z Z Z => hs _ _) (fun Z hp => .tail _ hp) (fun Z Z Z hp => .tail _ hp) (fun x e => hg x _ e)
  · show b < s.heap.objs.size + 1
    rw [Hp.add_get] at e
    split at e
    · lia
    · have := R.dom _ _ e
      have := R.top_le
      lia
  · obtain ⟨e, o', hm⟩ := R.ex b hb
    exact ⟨hnn b ⟨o', hm⟩ e, o', .tail _ hm⟩
  · obtain ⟨e, o', v, hm, hd⟩ := R.cl x b hb
    exact ⟨e, o', v, .tail _ hm, hd⟩
noncomputable def updN (news : News') (d : Addr) (o' : Obj) : News' := news.map fun p => if p.1 = d then (d, o') else p
theorem updN_self {o o' : Obj} (hm : (d, o) ∈ news) : (d, o') ∈ updN news d o' := List.mem_map.mpr ⟨(d, o), hm, by simp⟩
theorem updN_ne {o o' : Obj} {b : Addr} (hm : (b, o) ∈ news) (hb : b ≠ d) : (b, o) ∈ updN news d o' := List.mem_map.mpr ⟨(b, o), hm, by simp [hb]⟩
theorem updN_any {o o' : Obj} {b : Addr} (hm : (b, o) ∈ news) : ∃ x, (b, x) ∈ updN news d o' := by
  by_cases hb : b = d
  · subst hb
    exact ⟨o', updN_self hm⟩
  · exact ⟨o, updN_ne hm hb⟩
theorem Rel.slotMap (R : Rel W c ls h news s) (hm : ∀ b o, (b, o) ∈ news → b ∈ c.ex → (b, o) ∈ news') {m : Str → Option Value} {i : Nat} {y : Str} {v' : Value} {sl : Slot} (h1 : c.sl[i]? = some (y, sl)) (r : SlotR news m y v' sl) : SlotR news' m y v' sl := by
  have h1 := List.mem_of_getElem? h1
  induction sl using Slot.casesOn with
  | loc => exact r
  | cell e => exact e12 r fun o hb he => ⟨o, hm _ _ hb (R.cl y e h1).1, he⟩
  | ns C => exact e23 r fun m' o hb he hx => ⟨m', o, hm _ _ hb (R.nx y C h1), he, hx⟩
theorem Rel.change' (R : Rel W c ls h news s) {ob ob' : Obj} {o x : O} {h' : Heap} {m : Str → Option Value} (hm : (d, ob) ∈ news) (hd : h.get d = some x) (ha : h.get a = some o) (L : LocR W c (Fx W c h news) news m ls) (F' : Fr c.h₀ c.L h' m) (N' : News c.h₀ c.L h' (updN news d ob'))
    (hi : iterO ob' = false) (ho : d = a ∨ x = .hid a) {o' : O} (hnh : ∀ y, o' ≠ .hid y) (hnh0 : ∀ y, o ≠ .hid y)
    (hor : ∀ F', Stab (Fx W c h news) F' → OR W F' (updN news d ob') (h.set a o').get a o') (tk : Nat) :
    Rel W c ls (h.set a o') (updN news d ob') { s with heap := h', toks := tk } ∧ Stab (Fx W c h news) (Fx W c (h.set a o') (updN news d ob')) := by
  have hdL : d ≠ c.L := (R.nw _ hm).2.1
  have hdn := (R.nw _ hm).2.2
  have hdex : d ∉ c.ex := fun q => by have := (R.ex d q).1; rw [hd] at this; cases this
  have hs' : Stab (Fx W c h news) (Fx W c (h.set a o') (updN news d ob')) := fun b y hy => hy.imp (fun z => e03 z fun p q r => by
    have hba : b ≠ a := fun e => by rw [e, ha] at q; cases q
    have hbd : b ≠ d := fun e => by rw [e, hd] at q; cases q
    exact ⟨updN_ne p hbd, by rw [Hp.set_get, if_neg hba]; exact q, r⟩) id
  refine ⟨⟨⟨m, F', fun i y sl v h1 h2 => ?_⟩, N', fun b y e => ?_, ?_, fun b y e => ?_, fun b hb => ?_, fun y b hb => ?_, R.nx, R.gens, R.drawn, R.os, Hp.hid_set hnh R.hid⟩, hs'⟩
  · refine e12 (L i y sl v h1 h2) fun v' q r => ?_
    refine ⟨v', q.stab hs', ?_⟩
    exact R.slotMap (fun b o hp hb => updN_ne hp fun (q : b = d) => hdex (q ▸ hb)) h1 r
  · rw [Hp.set_get] at e
    split at e
    · rename_i hb; subst hb; cases e; exact hor _ hs'
    · rename_i hb
      have hbd : b ≠ d ∨ ∃ z, y = .hid z := by
        rcases ho with rfl | rfl
        · exact .inl hb
        · by_cases q : b = d
          · right; rw [q, hd] at e; cases e; exact ⟨_, rfl⟩
          · exact .inl q
      rcases hbd with hbd | ⟨z, rfl⟩
      · refine (R.hp b y e).grow (fun Z Z Z => hs' _ _) (fun Z hp => updN_ne hp hbd) (fun z oz hz hp => updN_ne hp fun q => ?_) (fun z hz => ?_)
        · rcases ho with rfl | rfl
          · rw [q, ha] at hz; cases hz; exact hnh0 _ rfl
          · rw [q, hd] at hz; cases hz; exact hb rfl
        · rw [Hp.set_get, if_neg (fun q => by rw [q, ha] at hz; cases hz; exact hnh0 _ rfl)]; exact hz
      · cases R.hp b _ e with
        | hid _ hz =>
          obtain ⟨oz, hz⟩ := hz
          exact .hid z (updN_any hz)
  · rcases R.top with e | ⟨t, ot, e, l, i, q⟩
    · exact .inl e
    · by_cases ht : t = d
      · subst ht
        exact .inr ⟨t, ob', updN_self hm, l, hi, q⟩
      · exact .inr ⟨t, ot, updN_ne e ht, l, i, q⟩
  · rw [Hp.set_get] at e
    split at e
    · rename_i hb; subst hb; exact R.dom _ _ ha
    · exact R.dom _ _ e
  · obtain ⟨e, o', hm'⟩ := R.ex b hb
    refine ⟨?_, o', updN_ne hm' fun q => hdex (q ▸ hb)⟩
    rw [Hp.set_get, if_neg (fun q => by rw [q, ha] at e; cases e)]; exact e
  · obtain ⟨e, o', v, hm', hv⟩ := R.cl y b hb
    exact ⟨e, o', v, updN_ne hm' fun q => hdex (q ▸ e), hv⟩
theorem Rel.change (R : Rel W c ls h news s) {ob ob' : Obj} {o x : O} {h' : Heap} (hm : (d, ob) ∈ news) (hd : h.get d = some x) (ha : h.get a = some o) (hs : Heap.SameBut d s.heap h') (hg : h'.get? d = some ob')
    (hi : iterO ob' = false) (ho : d = a ∨ x = .hid a) {o' : O} (hnh : ∀ y, o' ≠ .hid y) (hnh0 : ∀ y, o ≠ .hid y)
    (hor : ∀ F', Stab (Fx W c h news) F' → OR W F' (updN news d ob') (h.set a o').get a o') (tk : Nat) :
    Rel W c ls (h.set a o') (updN news d ob') { s with heap := h', toks := tk } ∧ Stab (Fx W c h news) (Fx W c (h.set a o') (updN news d ob')) := by
  refine e12 (R.fr) fun m F L => ?_
  exact R.change' hm hd ha L (F.change hs (R.nw _ hm).2.1 (R.nw _ hm).2.2) (News.update R.nw hm hs hg) hi ho hnh hnh0 hor tk
theorem Rel.temp (R : Rel W c ls h news s) {ob ob' : Obj} {h' : Heap} (hm : (d, ob) ∈ news) (hd : h.get d = none) (hex : d ∉ c.ex) (hs : Heap.SameBut d s.heap h') (hg : h'.get? d = some ob') (hi : iterO ob = true) (tk : Nat) :
    Rel W c ls h (updN news d ob') { s with heap := h', toks := tk } ∧ ∀ b o, Fx W c h news b o → (b ≠ d ∨ kd o = true) → Fx W c h (updN news d ob') b o := by
  refine e12 (R.fr) fun m F L => ?_
  have hkd : kd ob = false := kd_of hi
  have hs' : ∀ b y, Fx W c h news b y → (b ≠ d ∨ kd y = true) → Fx W c h (updN news d ob') b y := fun b y hy hk => by
    rcases hy with ⟨p, q, r⟩ | hK
    · have hbd : b ≠ d := by
        rcases hk with hk | hk
        · exact hk
        · intro e
          subst e
          rw [R.uniq p hm, hkd] at hk
          cases hk
      exact .inl ⟨updN_ne p hbd, q, r⟩
    · exact .inr hK
  have hgk : ∀ b y, kd y = true → Fx W c h news b y → Fx W c h (updN news d ob') b y := fun b y k hy => hs' b y hy (.inr k)
  have hsz := F.change hs (R.nw _ hm).2.1 (R.nw _ hm).2.2
  refine ⟨⟨⟨m, hsz, fun i y sl v h1 h2 => ?_⟩, News.update R.nw hm hs hg, fun b y e => ?_, ?_, R.dom, fun b hb => ?_, fun y b hb => ?_, R.nx, R.gens, R.drawn, R.os, R.hid⟩, hs'⟩
  · refine e12 (L i y sl v h1 h2) fun v' q r => ?_
    refine ⟨v', q.mono hgk, ?_⟩
    exact R.slotMap (fun b o hp hb => updN_ne hp fun (q : b = d) => hex (q ▸ hb)) h1 r
  · have hbd : b ≠ d := fun q => by rw [q, hd] at e; cases e
    exact (R.hp b y e).grow hgk (fun Z hp => updN_ne hp hbd) (fun z oz hz hp => updN_ne hp fun q => by rw [q, hd] at hz; cases hz) (fun Z hz => hz)
  · rcases R.top with e | ⟨t, ot, e, l, i, q⟩
    · exact .inl e
    · have ht : t ≠ d := fun z => by subst z; have := R.uniq e hm; rw [this, hi] at i; cases i
      exact .inr ⟨t, ot, updN_ne e ht, l, i, q⟩
  · obtain ⟨e, o', hm'⟩ := R.ex b hb
    exact ⟨e, o', updN_ne hm' fun q => hex (q ▸ hb)⟩
  · obtain ⟨e, o', v, hm', hv⟩ := R.cl y b hb
    exact ⟨e, o', v, updN_ne hm' fun q => hex (q ▸ e), hv⟩
theorem Rel.ext (R : Rel W c ls h news s) {ob : Obj} {h' : Heap} (hm : (d, ob) ∈ news) (hd : h.get d = none) (hex : d ∉ c.ex) (hs : Heap.ExtBut d s.heap h') (hi : iterO ob = true) (tk : Nat) :
    ∃ news', Rel W c ls h news' { s with heap := h', toks := tk } ∧ (∀ b o, Fx W c h news b o → (b ≠ d ∨ kd o = true) → Fx W c h news' b o) ∧ ∀ b o, (b, o) ∈ news → b ≠ d → (b, o) ∈ news' := by
  refine e12 (R.fr) fun m F L => ?_
  have hkd : kd ob = false := kd_of hi
  have mem : ∀ {b o}, (b, o) ∈ news → b ≠ d → (b, o) ∈ news.filter (fun p => p.1 != d) := fun hp hb => List.mem_filter.mpr ⟨hp, by simpa using hb⟩
  have hs' : ∀ b y, Fx W c h news b y → (b ≠ d ∨ kd y = true) → Fx W c h (news.filter fun p => p.1 != d) b y := fun b y hy hk => by
    rcases hy with ⟨p, q, r⟩ | hK
    · have hbd : b ≠ d := by
        rcases hk with hk | hk
        · exact hk
        · intro e
          subst e
          rw [R.uniq p hm, hkd] at hk
          cases hk
      exact .inl ⟨mem p hbd, q, r⟩
    · exact .inr hK
  have hgk : ∀ b y, kd y = true → Fx W c h news b y → Fx W c h (news.filter fun p => p.1 != d) b y := fun b y k hy => hs' b y hy (.inr k)
  have hdL := (R.nw _ hm).2.1
  have hdn := (R.nw _ hm).2.2
  have F' : Fr c.h₀ c.L h' m := by
    refine e32 (F.ns) fun oL a1 a2 hoL a3 => ?_
    refine ⟨⟨oL, a1, a2, hs _ _ (Ne.symm hdL) hoL, a3⟩, fun b x e => hs _ _ (fun q => ?_) (F.keep b x e), F.above⟩
    rw [q, hdn] at e; cases e
  refine ⟨news.filter fun p => p.1 != d, ⟨⟨m, F', fun i y sl v h1 h2 => ?_⟩, fun p hp => ?_, fun b y e => ?_, ?_, R.dom, fun b hb => ?_, fun y b hb => ?_, R.nx, R.gens, R.drawn, R.os, R.hid⟩, hs', fun b o => mem⟩
  · refine e12 (L i y sl v h1 h2) fun v' q r => ?_
    refine ⟨v', q.mono hgk, ?_⟩
    exact R.slotMap (fun b o hp hb => mem hp fun q => hex (q ▸ hb)) h1 r
  · refine e02 (List.mem_filter.mp hp) fun hp1 hp2 => ?_
    have := R.nw p hp1
    exact ⟨hs _ _ (by simpa using hp2) this.1, this.2⟩
  · have hbd : b ≠ d := fun q => by rw [q, hd] at e; cases e
    exact (R.hp b y e).grow hgk (fun Z hp => mem hp hbd) (fun z oz hz hp => mem hp fun q => by rw [q, hd] at hz; cases hz) (fun Z hz => hz)
  · rcases R.top with e | ⟨t, ot, e, l, i, q⟩
    · exact .inl e
    · have ht : t ≠ d := fun z => by subst z; have := R.uniq e hm; rw [this, hi] at i; cases i
      exact .inr ⟨t, ot, mem e ht, l, i, q⟩
  · obtain ⟨e, o', hm'⟩ := R.ex b hb
    exact ⟨e, o', mem hm' fun q => hex (q ▸ hb)⟩
  · obtain ⟨e, o', v, hm', hv⟩ := R.cl y b hb
    exact ⟨e, o', v, mem hm' fun q => hex (q ▸ e), hv⟩
theorem Rel.freshN (R : Rel W c ls h news s) {b : Addr} (hb : s.heap.objs.size ≤ b) : h.get b = none ∧ b ∉ c.ex :=
  ⟨R.noneAt (Nat.le_trans R.top_le hb), fun q => by obtain ⟨_, o, hm⟩ := R.ex b q; exact absurd (R.lt hm) (Nat.not_lt.mpr hb)⟩
theorem Rel.grown (R : Rel W c ls h news s) {new : News'} {hh : Heap} {m : Str → Option Value} (L : LocR W c (Fx W c h news) news m ls) (F' : Fr c.h₀ c.L hh m) (N' : News c.h₀ c.L hh (new ++ news)) (tk : Nat) :
    Rel W c ls h (new ++ news) { s with heap := hh, toks := tk } ∧ Stab (Fx W c h news) (Fx W c h (new ++ news)) := by
  have hs : Stab (Fx W c h news) (Fx W c h (new ++ news)) := fun b x hx => hx.imp (fun z => e03 z fun p q r => ⟨List.mem_append_right _ p, q, r⟩) id
  refine ⟨⟨⟨m, F', L.grow (fun Z Z Z => hs _ _) fun p hp => List.mem_append_right _ hp⟩, N', fun a o' e => (R.hp a o' e).grow (fun Z Z Z => hs _ _) (fun Z hp => List.mem_append_right _ hp) (fun Z Z Z hp => List.mem_append_right _ hp) (fun Z e => e), ?_, R.dom, ?_, ?_, R.nx, R.gens, R.drawn, R.os, R.hid⟩, hs⟩
  · exact R.top.imp id fun z => e22 z fun t o' e r => ⟨t, o', List.mem_append_right _ e, r⟩
  · intro a ha
    obtain ⟨e, o', hm⟩ := R.ex a ha
    exact ⟨e, o', List.mem_append_right _ hm⟩
  · intro x a ha
    obtain ⟨e, o', v, hm, hd⟩ := R.cl x a ha
    exact ⟨e, o', v, List.mem_append_right _ hm, hd⟩
end
end
section
open PySem PySem.W PyProof.Rows PySem.Calls
section
variable {W : Wd} {c : Cx} {ls : Ls} {h : Hp} {news : News'} {s : Shared} {F : PF} {A : Around} {E : Value → Shared → Prop} {QQ : Value → Shared → Prop}
noncomputable def VRI (W : Wd) (F : PF) (v : V) (v' : Value) : Prop := match v with
  | .none => v' = .none
  | .bool b => v' = .bool b
  | .int i => ∃ t, v' = .int i t
  | .str l => ∃ x t, v' = .str x t ∧ x.cps.toList = l
  | .bytes l => ∃ b t, v' = .bytes b t ∧ b.toList.map UInt8.toNat = l
  | .tup l => ∃ a vs n, v' = .ref a ∧ F a (tupO vs n) ∧ VRs W F l vs
  | .ref a => v' = .ref a
  | _ => True
theorem VR.inv {v : V} {v' : Value} (h : VR W F v v') : VRI W F v v' :=
  VR.casesOn (motive_1 := fun v v' Z => VRI W F v v') h rfl (fun Z => rfl) (fun Z t => ⟨t, rfl⟩) (fun x t => ⟨x, t, rfl, rfl⟩) (fun b t => ⟨b, t, rfl, rfl⟩) (fun h r => ⟨_, _, _, rfl, h, r⟩) (fun Z Z Z Z Z => trivial) (fun Z => rfl) (fun Z => trivial) (fun Z => trivial) (fun Z => trivial) (fun Z Z Z => trivial)
theorem vr_int {i : Int} {v : Value} (h : VR W F (.int i) v) : ∃ t, v = .int i t := h.inv
theorem vr_bool {b : Bool} {v : Value} (h : VR W F (.bool b) v) : v = .bool b := h.inv
theorem vr_none {v : Value} (h : VR W F .none v) : v = .none := h.inv
theorem vr_ref {a : Nat} {v : Value} (h : VR W F (.ref a) v) : v = .ref a := h.inv
theorem vr_str {l : List Nat} {v : Value} (h : VR W F (.str l) v) : ∃ x t, v = .str x t ∧ x.cps.toList = l := h.inv
theorem vr_bytes {l : List Nat} {v : Value} (h : VR W F (.bytes l) v) : ∃ b t, v = .bytes b t ∧ b.toList.map UInt8.toNat = l := h.inv
theorem vr_tup {l : List V} {v : Value} (h : VR W F (.tup l) v) : ∃ a vs n, v = .ref a ∧ F a (tupO vs n) ∧ VRs W F l vs := h.inv
theorem str_of {x : Str} {l : List Nat} (h : x.cps.toList = l) : x = ⟨l.toArray⟩ := by
  induction x using PySem.Str.casesOn; subst h; simp
theorem vr_mkStr' {x : Str} {l : List Nat} (h : x.cps.toList = l) (t : Tok) : VR W F (.str l) (.str x t) := by subst h; exact .str x t
theorem map_toNat_inj {a b : List UInt8} (h : a.map UInt8.toNat = b.map UInt8.toNat) : a = b := List.map_inj_right (fun Z Z => UInt8.toNat_inj.mp) |>.mp h
theorem str_eq_iff {x y : Str} {a b : List Nat} (hx : x.cps.toList = a) (hy : y.cps.toList = b) : (x == y) = eqL a b := by
  rw [eqL_iff, str_of hx, str_of hy]
  simp [BEq.beq]
theorem bytes_eq_iff {x y : Array UInt8} {a b : List Nat} (hx : x.toList.map UInt8.toNat = a) (hy : y.toList.map UInt8.toNat = b) : (x.toList == y.toList) = eqL a b := by
  rw [eqL_iff]
  subst hx hy
  by_cases e : x.toList = y.toList
  · rw [e]; simp
  · rw [decide_eq_false (fun q => e (map_toNat_inj q))]; simpa using e
section
variable {v w : V} {v' w' : Value} {l : List V} {l' : List Value}
@[elab_as_elim] theorem intE {P : Value → Prop} {i : Int} (h : VR W F (.int i) v') (q : ∀ t, P (.int i t)) : P v' := (vr_int h).elim fun t e => e ▸ q t
@[elab_as_elim] theorem refE {P : Value → Prop} {a : Nat} (h : VR W F (.ref a) v') (q : P (.ref a)) : P v' := vr_ref h ▸ q
@[elab_as_elim] theorem noneE {P : Value → Prop} (h : VR W F .none v') (q : P .none) : P v' := vr_none h ▸ q
@[elab_as_elim] theorem strE {P : Value → Prop} {x : List Nat} (h : VR W F (.str x) v') (q : ∀ y t, y.cps.toList = x → P (.str y t)) : P v' := (vr_str h).elim fun y h => h.elim fun t h => h.1 ▸ q y t h.2
@[elab_as_elim] theorem bytesE {P : Value → Prop} {x : List Nat} (h : VR W F (.bytes x) v') (q : ∀ y t, y.toList.map UInt8.toNat = x → P (.bytes y t)) : P v' := (vr_bytes h).elim fun y h => h.elim fun t h => h.1 ▸ q y t h.2
@[elab_as_elim] theorem tupE {P : Value → Prop} {x : List V} (h : VR W F (.tup x) v') (q : ∀ a vs n, F a (tupO vs n) → VRs W F x vs → P (.ref a)) : P v' := (vr_tup h).elim fun a h => h.elim fun vs h => h.elim fun n h => h.1 ▸ q a vs n h.2.1 h.2.2
@[elab_as_elim] theorem intV {P : Value → Prop} {f : Int → Prop} (k : onInt f v) (h : VR W F v v') (q : ∀ x t, f x → P (.int x t)) : P v' := (onInt_inv k).elim fun x k => intE (P := P) (k.1 ▸ h) fun t => q x t k.2
@[elab_as_elim] theorem int2 {P : Value → Value → Prop} {f : Int → Int → Prop} (k : onInt (fun x => onInt (f x) w) v) (h : VR W F v v') (g : VR W F w w') (q : ∀ x y t u, f x y → P (.int x t) (.int y u)) : P v' w' :=
  intV (P := fun v' => P v' w') k h fun x t k => intV (P := fun w' => P (.int x t) w') k g fun y u k => q x y t u k
@[elab_as_elim] theorem strV {P : Value → Prop} {f : List Nat → Prop} (k : onStr f v) (h : VR W F v v') (q : ∀ x y t, y.cps.toList = x → f x → P (.str y t)) : P v' := (onStr_inv k).elim fun x k => strE (P := P) (k.1 ▸ h) fun y t e => q x y t e k.2
@[elab_as_elim] theorem bytesV {P : Value → Prop} {f : List Nat → Prop} (k : onBytes f v) (h : VR W F v v') (q : ∀ x y t, y.toList.map UInt8.toNat = x → f x → P (.bytes y t)) : P v' := (onBytes_inv k).elim fun x k => bytesE (P := P) (k.1 ▸ h) fun y t e => q x y t e k.2
@[elab_as_elim] theorem refV {P : Value → Prop} {f : Nat → Prop} (k : onRef f v) (h : VR W F v v') (q : ∀ a, f a → P (.ref a)) : P v' := (onRef_inv k).elim fun a k => refE (P := P) (k.1 ▸ h) (q a k.2)
@[elab_as_elim] theorem noneV {P : Value → Prop} {f : Prop} (k : onNone f v) (h : VR W F v v') (q : f → P .none) : P v' := noneE (P := P) ((onNone_inv k).1 ▸ h) (q (onNone_inv k).2)
@[elab_as_elim] theorem tupV {P : Value → Prop} {f : List V → Prop} (k : onTup f v) (h : VR W F v v') (q : ∀ x a vs n, F a (tupO vs n) → VRs W F x vs → f x → P (.ref a)) : P v' := (onTup_inv k).elim fun x k => tupE (P := P) (k.1 ▸ h) fun a vs n h1 h2 => q x a vs n h1 h2 k.2
@[elab_as_elim] theorem nilE {P : List Value → Prop} (h : VRs W F [] l') (q : P []) : P l' := by cases h; exact q
@[elab_as_elim] theorem consE {P : List Value → Prop} (h : VRs W F (v :: l) l') (q : ∀ v' r', VR W F v v' → VRs W F l r' → P (v' :: r')) : P l' := by cases h with | cons a b => exact q _ _ a b
@[elab_as_elim] theorem nilV {P : List Value → Prop} {f : Prop} (k : onNil f l) (h : VRs W F l l') (q : f → P []) : P l' := nilE (P := P) ((onNil_inv k).1 ▸ h) (q (onNil_inv k).2)
@[elab_as_elim] theorem consV {P : List Value → Prop} {f : V → List V → Prop} (k : onCons f l) (h : VRs W F l l') (q : ∀ v r v' r', f v r → VR W F v v' → VRs W F r r' → P (v' :: r')) : P l' :=
  (onCons_inv k).elim fun v k => k.elim fun r k => consE (P := P) (k.1 ▸ h) fun v' r' a b => q v r v' r' k.2 a b
@[elab_as_elim] theorem on1V {P : List Value → Prop} {f : V → Prop} (k : on1 f l) (h : VRs W F l l') (q : ∀ v v', f v → VR W F v v' → P [v']) : P l' :=
  consV (P := P) k h fun v r v' r' k a b => nilV (P := fun r' => P (v' :: r')) k b fun k => q v v' k a
@[elab_as_elim] theorem on2V {P : List Value → Prop} {f : V → V → Prop} (k : on2 f l) (h : VRs W F l l') (q : ∀ v w v' w', f v w → VR W F v v' → VR W F w w' → P [v', w']) : P l' :=
  consV (P := P) k h fun v r v' r' k a b => on1V (P := fun r' => P (v' :: r')) k b fun w w' k c => q v w v' w' k a c
end
noncomputable def opB : BOp → Operator
  | .add => .Add
  | .sub => .Sub
  | .mul => .Mult
  | .fdiv => .FloorDiv
  | .mod => .Mod
  | .pow => .Pow
theorem bits_small {x : Int} (h : x.natAbs < 2 ^ 62) : Builtin.Int.intBits x ≤ 64 := by
  have := PySem.W.X.bits_le (k := x) (by omega) (by omega)
  rwa [PySem.W.X.oBits.2] at this
theorem sizeLine_ge : 2000000 ≤ sizeLine := by decide
theorem small_div {y : Int} (h1 : 0 < y) (h2 : y < 1000000000000 ∨ y = 10 ^ 240) : y.natAbs.log2 < 9000 := by
  rcases h2 with h2 | h2
  · have h0 : y.natAbs ≠ 0 := by lia
    exact Nat.lt_trans ((Nat.log2_lt h0).mpr (show y.natAbs < 2 ^ 40 by omega)) (by decide)
  · rw [h2]; decide +kernel
theorem small_pow {y : Int} (h1 : 0 ≤ y) (h2 : y ≤ 300) : (Builtin.Int.intBits 10 : Int) * y ≤ 2 ^ 27 :=
  Int.le_trans (Int.mul_le_mul (Int.ofNat_le.mpr (bits_small (x := 10) (by decide))) h2 h1 (by decide)) (by decide)
theorem str_len {x : Str} {l : List Nat} (h : x.cps.toList = l) : x.length = l.length := h ▸ rfl
theorem str_app {x y : Str} {a b : List Nat} (hx : x.cps.toList = a) (hy : y.cps.toList = b) : (x ++ y).cps.toList = a ++ b := by
  subst hx hy
  rw [Str.cps_append]
  simp
theorem app_l {x y : List V} {vs ws : List Value} (e : vs = []) (rx : VRs W F x vs) (ry : VRs W F y ws) : VRs W F (x ++ y) ws := by
  subst e
  cases rx
  exact ry
theorem app_r {x y : List V} {vs ws : List Value} (e : ws = []) (rx : VRs W F x vs) (ry : VRs W F y ws) : VRs W F (x ++ y) vs := by
  subst e
  cases ry
  rw [List.append_nil]
  exact rx
theorem sBin {op : BOp} {a b : V} {a' b' : Value} {k : V → Prop} (R : Rel W c ls h news s) (G : Good W c) (ha : VR W (Fx W c h news) a a') (hb : VR W (Fx W c h news) b b') (hk : dBin op a b k)
    (q : ∀ v v' news' s', k v → VR W (Fx W c h news') v v' → Rel W c ls h news' s' → Stab (Fx W c h news) (Fx W c h news') → QQ v' s') : wpAny (model W.prog W.w) A (binaryOp (opB op) a' b') QQ E s := by
  induction op using BOp.casesOn with
  | sub => exact int2 hk ha hb fun x y t u hk => PyProof.Rows.sub_int' (q _ _ _ _ hk (.int _ _) (R.tok _) .refl)
  | mul => exact int2 hk ha hb fun x y t u hk => PyProof.Rows.mul_int (q _ _ _ _ hk.out (.int _ _) (R.tok _) .refl) (IntMulOk.of_left (bits_small hk.need.1))
  | fdiv =>
    refine int2 hk ha hb fun x y t u hk => ?_
    refine PyProof.Rows.floordiv_int (Int.ne_of_gt hk.need.1) ?_ (.inl (PyProof.noPylong_of_log2 (small_div hk.need.1 hk.need.2)))
    rw [Int.fdiv_eq_ediv_of_nonneg _ (Int.le_of_lt hk.need.1)]
    exact q _ _ _ _ hk.out (.int _ _) (R.tok _) .refl
  | mod =>
    refine int2 hk ha hb fun x y t u hk => ?_
    refine PyProof.Rows.mod_int' (Int.ne_of_gt hk.need) ?_
    rw [Int.fmod_eq_emod_of_nonneg _ (Int.le_of_lt hk.need)]
    exact q _ _ _ _ hk.out (.int _ _) (R.tok _) .refl
  | pow =>
    refine int2 hk ha hb fun x y t u hk => ?_
    refine PyProof.Rows.pow_int hk.need.2.1 ?_ (q _ _ _ _ hk.out (.int _ _) (R.tok _) .refl)
    rw [hk.need.1]
    exact small_pow hk.need.2.1 hk.need.2.2
  | add =>
    induction a using V.casesOn with
    | int x => exact intE ha fun t => intV hk hb fun y u hk => PyProof.Rows.add_int (q _ _ _ _ hk (.int _ _) (R.tok _) .refl)
    | str x =>
      refine strE ha fun x t hx => strV hk hb fun y' y u hy hk => ?_
      refine PyProof.Rows.add_str (fun t' tk => q _ _ _ _ hk.out (vr_mkStr' (str_app hx hy) t') (R.tok _) .refl) ?_
      rw [str_len hx, str_len hy]
      exact Nat.le_trans hk.need (Nat.le_trans (by decide) sizeLine_ge)
    | tup x =>
      refine tupE ha fun a vs n hx rx => tupV hk hb fun y' b ws n' hy ry hk => e12 R.fr fun m F L => ?_
      refine PyProof.Rows.add_tuples F R.nw ⟨_, R.fact G hx, rfl, _, rfl⟩ ⟨_, R.fact G hy, rfl, _, rfl⟩ (fun e => q _ _ _ _ hk.out (.tup hy (app_l e rx ry)) R .refl) (fun Z e => q _ _ _ _ hk.out (.tup hx (app_r e rx ry)) R .refl) (fun Z Z hh F' N' => ?_) ?_
      · refine e02 (R.grown (new := [_]) L F' N' s.toks) fun R' st => ?_
        have hf := R.freshN (Nat.le_refl s.heap.objs.size)
        exact q _ _ _ _ hk.out (.tup (.inl ⟨.head _, hf.1, hf.2⟩) ((rx.stab st).append (ry.stab st))) R' st
      · rw [← rx.length, ← ry.length]
        exact Nat.le_trans hk.need (Nat.le_trans (by decide) sizeLine_ge)
    | _ => exact hk.elim
noncomputable def opC : COp → CmpOp
  | .eq => .Eq
  | .ne => .NotEq
  | .lt => .Lt
  | .le => .LtE
  | .gt => .Gt
  | .ge => .GtE
  | .is => .Is
  | .isnt => .IsNot
  | .isin => .In
  | .nin => .NotIn
noncomputable def toS (D : V → Dat) (v : V) : Dat := match v with
  | .int i => .int i
  | .str l => .str ⟨l.toArray⟩
  | .tup l => .tuple (l.map D)
  | _ => .none
noncomputable def toD (n : Nat) : V → Dat := Nat.rec (fun Z => .none) (fun Z => toS) n
noncomputable def unS (D : Dat → V) (d : Dat) : V := match d with
  | .int i => .int i
  | .str x => .str x.cps.toList
  | .tuple l => .tup (l.map D)
  | _ => .none
noncomputable def unD (n : Nat) : Dat → V := Nat.rec (fun Z => .none) (fun Z => unS) n
theorem all_ok {n : Nat} {l : List V} (h : pyOk (n + 1) (.tup l) = true) : ∀ x ∈ l, pyOk n x = true := List.all_eq_true.mp h
theorem str_ok {l : List Nat} (h : (l.all fun c => Nat.blt c 128) = true) : PyData.strOk ⟨l.toArray⟩ = true := by
  show (l.toArray.all _) = true
  rw [List.all_toArray]
  exact List.all_eq_true.mpr fun x hx => decide_eq_true (Nat.lt_trans (Nat.blt_eq.mp (List.all_eq_true.mp h x hx)) (by decide))
theorem pyOk_dat (n : Nat) : ∀ v : V, pyOk n v = true → kqdOk n (toD n v) = true := by
  induction n with
  | zero => intro v h; exact Bool.noConfusion h
  | succ n ih =>
    intro v h
    induction v using V.casesOn with
    | tup l =>
      show ((l.map (toD n)).all (kqdOk n)) = true
      rw [List.all_map]
      exact List.all_eq_true.mpr fun x hx => ih x (all_ok h x hx)
    | str l => exact str_ok h
    | int i => rfl
    | none => rfl
    | _ => exact Bool.noConfusion h
theorem fr_to (n : Nat) : ∀ v : V, pyOk n v = true → unD n (toD n v) = v := by
  induction n with
  | zero => intro v h; exact Bool.noConfusion h
  | succ n ih =>
    intro v h
    induction v using V.casesOn with
    | tup l =>
      show V.tup ((l.map (toD n)).map (unD n)) = .tup l
      rw [List.map_map]
      exact congrArg V.tup ((List.map_congr_left fun x hx => ih x (all_ok h x hx)).trans (List.map_id l))
    | str l => rfl
    | int i => rfl
    | none => rfl
    | _ => exact Bool.noConfusion h
theorem toD_inj (n : Nat) (v w : V) (h1 : pyOk n v = true) (h2 : pyOk n w = true) (e : toD n v = toD n w) : v = w := by
  rw [← fr_to n v h1, ← fr_to n w h2, e]
theorem kqdPs_map (l : List Dat) : kqdPs l = l.map kqdP := by
  induction l with
  | nil => rfl
  | cons a l ih => exact congrArg (kqdP a :: ·) ih
theorem VRs.reads {hp : Heap} {D : V → Dat} {P : V → Bool} (hr : ∀ {v : V} {v' : Value}, VR W F v v' → P v = true → ∃ as, Reads hp v' (kqdP (D v)) as) {l : List V} {vs : List Value} (h : VRs W F l vs) : l.all P = true → ∃ as, ReadsAll hp vs ((l.map D).map kqdP) as :=
  h.ind (P := fun l vs => l.all P = true → ∃ as, ReadsAll hp vs ((l.map D).map kqdP) as) (fun Z => ⟨_, ReadsAll.nil⟩) fun x Z q hk => by
    obtain ⟨h1, h2⟩ := Bool.and_eq_true_iff.mp hk
    obtain ⟨as, q1⟩ := hr x h1
    obtain ⟨bs, q2⟩ := q h2
    exact ⟨_, ReadsAll.cons q1 q2⟩
theorem VR.reads {hp : Heap} (hF : ∀ a o, F a o → hp.get? a = some o) (n : Nat) : ∀ {v : V} {v' : Value}, VR W F v v' → pyOk n v = true → ∃ as, Reads hp v' (kqdP (toD n v)) as := by
  induction n with
  | zero => intro v v' _ h; exact Bool.noConfusion h
  | succ n ih =>
    intro v v' h hk
    induction v using V.casesOn with
    | none => cases vr_none h; exact ⟨_, Reads.none⟩
    | int i =>
      refine intE h fun t => ?_
      exact ⟨_, Reads.int i t⟩
    | str l =>
      refine strE h fun x t eq2 => ?_
      subst eq2
      exact ⟨_, Reads.str x t⟩
    | tup l =>
      refine tupE h fun a vs m hm r => ?_
      refine e11 (VRs.reads ih r hk) fun as q => ?_
      show ∃ as, Reads hp (.ref a) (.tuple (kqdPs (l.map (toD n)))) as
      rw [kqdPs_map]
      exact ⟨as, reads_tuple_at (hF _ _ hm) rfl rfl q⟩
    | _ => exact Bool.noConfusion hk
theorem eqP_inv {v w : V} {b : Bool} (e : eqP v w = some b) : (∃ x y, v = .int x ∧ w = .int y ∧ b = decide (x = y)) ∨ (∃ x y, v = .str x ∧ w = .str y ∧ b = eqL x y) ∨ ∃ x y, v = .bytes x ∧ w = .bytes y ∧ b = eqL x y := by
  induction v using V.casesOn with
  | int x =>
    refine e12 (Option.map_eq_some_iff.mp (show (isI w).map (fun y => decide (x = y)) = some b from e)) fun y h q => ?_
    exact .inl ⟨x, y, rfl, isI_inv h, q.symm⟩
  | str x =>
    refine e12 (Option.map_eq_some_iff.mp (show (isS w).map (fun y => eqL x y) = some b from e)) fun y h q => ?_
    exact .inr (.inl ⟨x, y, rfl, isS_inv h, q.symm⟩)
  | bytes x =>
    refine e12 (Option.map_eq_some_iff.mp (show (isY w).map (fun y => eqL x y) = some b from e)) fun y h q => ?_
    exact .inr (.inr ⟨x, y, rfl, isY_inv h, q.symm⟩)
  | _ => exact none_ne (show none = some b from e)
theorem eqP_at {v w : V} {v' w' : Value} {b : Bool} (hv : VR W F v v') (hw : VR W F w w') (e : eqP v w = some b) (A : Around) (hu : A.units < cLine) (s : Shared) : SeqAt.EqAt A s v' w' b := fun prog w₀ E Q hq => by
  rcases eqP_inv e with ⟨x, y, rfl, rfl, rfl⟩ | ⟨x, y, rfl, rfl, rfl⟩ | ⟨x, y, rfl, rfl, rfl⟩
  · refine intE hv fun t => ?_
    refine intE hw fun u => ?_
    exact wpAny_eqBool_int (by simpa [BEq.beq] using hq)
  · refine strE hv fun x t hx => ?_
    refine strE hw fun y u hy => ?_
    refine wpAny_eqBool_str ?_
    rw [← str_eq_iff hx hy] at hq
    have : (x == y) = decide (x = y) := by by_cases q : x = y <;> simp [q]
    rw [← this]; exact hq
  · refine bytesE hv fun x t hx => ?_
    refine bytesE hw fun y u hy => ?_
    rw [← bytes_eq_iff hx hy] at hq
    unfold eqBool
    refine wpAny_holding ?_
    by_cases q : (Value.bytes x t == Value.bytes y u) = true
    · rw [if_pos q]
      have : x = y := by have := eq_of_beq q; cases this; rfl
      subst this
      refine wpAny_bind (wpAny_rule (wpAny_pure ?_))
      simpa using hq
    · rw [if_neg q]
      exact wpAny_bind (eq_bytes (wpAny_truthy_bool hq))
noncomputable def eV (x : V) (y : Value) : Bool := match x with
  | .int b => match y with
    | .int a _ => decide (a = b)
    | _ => false
  | .str m => match y with
    | .str s _ => eqL s.cps.toList m
    | _ => false
  | .bytes m => match y with
    | .bytes b _ => eqL (b.toList.map UInt8.toNat) m
    | _ => false
  | _ => false
theorem eV_of {x a : V} {y : Value} {p : Bool} (ha : VR W F a y) (e : eqP a x = some p) : eV x y = p := by
  rcases eqP_inv e with ⟨x, y, rfl, rfl, rfl⟩ | ⟨x, y, rfl, rfl, rfl⟩ | ⟨x, y, rfl, rfl, rfl⟩
  · refine intE ha fun t => ?_
    rfl
  · refine strE ha fun u t hu => ?_
    exact congrArg (eqL · _) hu
  · refine bytesE ha fun u t hu => ?_
    exact congrArg (eqL · _) hu
theorem inL_cons_inv {x y : V} {l : List V} {b : Bool} (h : inL x (y :: l) = some b) : ∃ p q, eqP y x = some p ∧ inL x l = some q ∧ b = (p || q) :=
  e12 (Option.bind_eq_some_iff.mp h) fun p e1 h => e12 (Option.map_eq_some_iff.mp h) fun q e2 e3 => ⟨p, q, e1, e2, e3.symm⟩
theorem inL_any {x : V} {x' : Value} (hx : VR W F x x') (A : Around) (hu : A.units < cLine) (s : Shared) {l : List V} {vs : List Value} (h : VRs W F l vs) : ∀ {b : Bool}, inL x l = some b → (∀ y ∈ vs, SeqAt.EqAt A s y x' (eV x y)) ∧ vs.any (eV x) = b :=
  h.ind (P := fun l vs => ∀ {b : Bool}, inL x l = some b → (∀ y ∈ vs, SeqAt.EqAt A s y x' (eV x y)) ∧ vs.any (eV x) = b) (fun hi => by cases hi; exact ⟨fun y hy => (by cases hy), rfl⟩) fun h1 Z ih b hi => by
    refine e23 (inL_cons_inv hi) fun p q e1 e2 eq1 => ?_
    subst eq1
    refine e02 (ih e2) fun i1 i2 => ?_
    have zz := eV_of h1 e1
    refine ⟨List.forall_mem_cons.mpr ⟨?_, i1⟩, by rw [List.any_cons, zz, i2]⟩
    rw [zz]; exact eqP_at h1 hx e1 A hu s
theorem Rel.listAt (R : Rel W c ls h news s) {a : Nat} {l : List V} (e : h.get a = some (.list l)) : ∃ vs n, (a, lstO vs n) ∈ news ∧ VRs W (Fx W c h news) l vs ∧ s.heap.IsList a vs.toArray := by
  cases R.hp _ _ e with
  | @list _ vs n hm hr => exact ⟨vs, n, hm, hr, _, R.at hm, rfl, n, rfl⟩
noncomputable def nonV (v : V) : Bool := match v with
  | .none => true
  | _ => false
noncomputable def nonW (v : Value) : Bool := match v with
  | .none => true
  | _ => false
theorem nonW_inv {v : Value} (h : nonW v = true) : v = .none := by induction v using Value.casesOn <;> first | rfl | exact Bool.noConfusion h
theorem VR.non {v : V} {v' : Value} (h : VR W F v v') : nonV v = nonW v' :=
  VR.casesOn (motive_1 := fun v v' Z => nonV v = nonW v') h rfl (fun Z => rfl) (fun Z Z => rfl) (fun Z Z => rfl) (fun Z Z => rfl) (fun Z Z => rfl) (fun Z Z Z Z Z => rfl) (fun Z => rfl) (fun Z => rfl) (fun Z => rfl) (fun b => BI.casesOn b rfl rfl rfl rfl rfl rfl rfl rfl rfl rfl rfl rfl rfl rfl) (fun Z Z Z => rfl)
theorem intKeys_nodupI {kvs : List (Int × Value)} {l : List (V × V)} (h : KVI W F l kvs) : intKeys l = some (kvs.map (·.1)) := by
  induction h with
  | nil => rfl
  | cons _ _ ih => exact congrArg (Option.map _) ih
theorem lookI_kvi {kvs : List (Int × Value)} {l : List (V × V)} (h : KVI W F l kvs) (i : Int) : (lookI i l = none ∧ valueAt kvs i = none) ∨ ∃ v v', lookI i l = some v ∧ valueAt kvs i = some v' ∧ VR W F v v' := by
  induction h with
  | nil => exact .inl ⟨rfl, rfl⟩
  | @cons j v v' l r hv _ ih =>
    unfold valueAt at *
    by_cases e : i = j
    · subst e
      exact .inr ⟨v, v', if_pos rfl, by simp, hv⟩
    · rcases ih with ⟨a, b⟩ | ⟨u, u', a, b, q⟩
      · exact .inl ⟨(if_neg e).trans a, by simpa [Ne.symm e] using b⟩
      · exact .inr ⟨u, u', (if_neg e).trans a, by simpa [Ne.symm e] using b, q⟩
theorem lookS_kvs {kvs : List (Str × Value)} {l : List (V × V)} (h : KVS W F l kvs) (x : Str) : (lookS x.cps.toList l = none ∧ valueAt kvs x = none) ∨ ∃ v v', lookS x.cps.toList l = some v ∧ valueAt kvs x = some v' ∧ VR W F v v' := by
  induction h with
  | nil => exact .inl ⟨rfl, rfl⟩
  | @cons y v v' l r hv _ ih =>
    unfold valueAt at *
    have hy : eqL x.cps.toList y.cps.toList = decide (y = x) := by
      rw [← str_eq_iff rfl rfl]
      by_cases q : y = x
      · subst q
        simp
      · rw [decide_eq_false q]; simpa using fun z => q z.symm
    by_cases e : y = x
    · exact .inr ⟨v, v', lookS_eq (hy.trans (decide_eq_true e)), by simp [e], hv⟩
    · rcases ih with ⟨a, b⟩ | ⟨u, u', a, b, q⟩
      · exact .inl ⟨(lookS_ne (hy.trans (decide_eq_false e))).trans a, by simpa [e] using b⟩
      · exact .inr ⟨u, u', (lookS_ne (hy.trans (decide_eq_false e))).trans a, by simpa [e] using b, q⟩
theorem Rel.dictAt (R : Rel W c ls h news s) {a ep : Nat} {l : List (V × V)} (e : h.get a = some (.dict ep l)) :
    (∃ o kvs, (a, o) ∈ news ∧ o.IsDictOf (intKind W.prog W.w) kvs ∧ KVI W (Fx W c h news) l kvs ∧ s.heap.DictOf (intKind W.prog W.w) a kvs) ∨
    (∃ o kvs, (a, o) ∈ news ∧ o.IsDictOf (strKind W.prog W.w) kvs ∧ KVS W (Fx W c h news) l kvs ∧ s.heap.DictOf (strKind W.prog W.w) a kvs) := by
  cases R.hp _ _ e with
  | dictI hm hd _ hr => exact .inl (i24 hm hd hr (Heap.dictOf_iff.mpr ⟨_, R.at hm, hd⟩))
  | dictS hm hd _ hr => exact .inr (i24 hm hd hr (Heap.dictOf_iff.mpr ⟨_, R.at hm, hd⟩))
theorem nil_int {prog : Program} {w : World} {o : Obj} (h : o.IsDictOf (strKind prog w) []) : o.IsDictOf (intKind prog w) [] := by
  refine e25 (h) fun es ep h1 h2 h3 h4 h5 => ?_
  have := h4.length
  have e : es = #[] := by simpa using this
  subst e
  exact ⟨#[], ep, h1, h2, fun e he => by simp at he, .nil, by simp⟩
theorem nil_str {prog : Program} {w : World} {o : Obj} (h : o.IsDictOf (intKind prog w) []) : o.IsDictOf (strKind prog w) [] := by
  refine e25 (h) fun es ep h1 h2 h3 h4 h5 => ?_
  have := h4.length
  have e : es = #[] := by simpa using this
  subst e
  exact ⟨#[], ep, h1, h2, fun e he => by simp at he, .nil, by simp⟩
theorem Rel.dictI (R : Rel W c ls h news s) {a ep : Nat} {l : List (V × V)} (e : h.get a = some (.dict ep l)) (hk : intKeys l ≠ none) :
    ∃ o kvs, (a, o) ∈ news ∧ o.IsDictOf (intKind W.prog W.w) kvs ∧ KVI W (Fx W c h news) l kvs ∧ s.heap.DictOf (intKind W.prog W.w) a kvs := by
  rcases R.dictAt e with q | ⟨o, kvs, hm, hd, hr, _⟩
  · exact q
  · induction hr using KVS.casesOn with
    | nil => exact ⟨o, [], hm, nil_int hd, .nil, Heap.dictOf_iff.mpr ⟨_, R.at hm, nil_int hd⟩⟩
    | cons _ _ => exact absurd rfl hk
theorem Rel.dictS (R : Rel W c ls h news s) {a ep : Nat} {l : List (V × V)} (e : h.get a = some (.dict ep l)) (hk : ∀ i v r, l ≠ (.int i, v) :: r) :
    ∃ o kvs, (a, o) ∈ news ∧ o.IsDictOf (strKind W.prog W.w) kvs ∧ KVS W (Fx W c h news) l kvs ∧ s.heap.DictOf (strKind W.prog W.w) a kvs := by
  rcases R.dictAt e with ⟨o, kvs, hm, hd, hr, _⟩ | q
  · induction hr using KVI.casesOn with
    | nil => exact ⟨o, [], hm, nil_str hd, .nil, Heap.dictOf_iff.mpr ⟨_, R.at hm, nil_str hd⟩⟩
    | cons _ _ => exact absurd rfl (hk _ _ _)
  · exact q
theorem Good.mini_gt (G : Good W c) (R : Rel W c ls h news s) {a : Addr} {o : Obj} (hm : (a, o) ∈ news) : (a == sysModules) = false := by
  refine e12 ((G.T.seer G.noImp).mods) fun mm nm Z => ?_
  refine e32 (nm) fun om Z Z e Z => ?_
  have := (R.nw _ hm).2.2
  simp only [beq_eq_false_iff_ne, ne_eq]
  intro q
  rw [q, e] at this; cases this
end
end
section
open PySem PySem.W PyProof.Rows PySem.Calls
section
variable {W : Wd} {c : Cx} {ls : Ls} {h : Hp} {news : News'} {s : Shared} {F : PF} {A : Around} {E : Value → Shared → Prop} {QQ : Value → Shared → Prop}
theorem V.tup_inj {x y : List V} (e : V.tup x = V.tup y) : x = y := Option.some.inj (congrArg isT e)
theorem lookI_some {kvs : List (Int × Value)} {l : List (V × V)} (h : KVI W F l kvs) {i : Int} : (lookI i l).isSome = (valueAt kvs i).isSome := by
  rcases lookI_kvi h i with ⟨e1, e2⟩ | ⟨v, v', e1, e2, _⟩ <;> rw [e1, e2] <;> rfl
theorem map_on {α β : Type} {f : α → β} {x : Option α} {b : β} (h : x.map f = some b) : onSome (fun y => f y = b) x := by
  induction x using Option.casesOn with
  | none => exact none_ne h
  | some y => exact Option.some.inj h
noncomputable def CmpB (W : Wd) (A : Around) (E : Value → Shared → Prop) (s : Shared) (o1 o2 : CmpOp) (a b : Value) (r : Bool) : Prop :=
  ∀ QQ : Value → Shared → Prop, ((∀ tk, QQ (.bool r) { s with toks := tk }) → wpAny (model W.prog W.w) A (compareOp o1 a b) QQ E s) ∧ ((∀ tk, QQ (.bool (!r)) { s with toks := tk }) → wpAny (model W.prog W.w) A (compareOp o2 a b) QQ E s)
theorem eqP_cmp {a b : V} {a' b' : Value} {r : Bool} (ha : VR W F a a') (hb : VR W F b b') (e : eqP a b = some r) : CmpB W A E s .Eq .NotEq a' b' r := by
  induction a using V.casesOn with
  | int x => exact intE ha fun t => intV (map_on e) hb fun y u e => e ▸ fun QQ => ⟨fun q => PyProof.Rows.eq_int (q s.toks), fun q => PyProof.Rows.ne_int (q s.toks)⟩
  | str x => exact strE ha fun x t hx => strV (map_on e) hb fun Z y u hy e => e ▸ str_eq_iff hx hy ▸ fun QQ => ⟨fun q => PyProof.Rows.eq_str (q s.toks), fun q => PyProof.Rows.ne_str (q s.toks)⟩
  | bytes x => exact bytesE ha fun x t hx => bytesV (map_on e) hb fun Z y u hy e => e ▸ bytes_eq_iff hx hy ▸ fun QQ => ⟨fun q => eq_bytes (q s.toks), fun q => ne_bytes (q s.toks)⟩
  | _ => exact none_ne e
theorem list_cmp {x y : Addr} {l : List V} {vs ws : List Value} (hu : A.units + 100 < cLine) (r1 : VRs W F l vs) (r2 : VRs W F [] ws) (i1 : s.heap.IsList x vs.toArray) (i2 : s.heap.IsList y ws.toArray) : CmpB W A E s .Eq .NotEq (.ref x) (.ref y) l.isEmpty := by
  have hu : A.units < cLine := Nat.lt_of_le_of_lt (Nat.le_add_right _ _) hu
  have e2 : ws = [] := List.length_eq_zero_iff.mp r2.length.symm
  rw [e2] at i2
  induction l using List.casesOn with
  | nil =>
    have e1 : vs = [] := List.length_eq_zero_iff.mp r1.length.symm
    rw [e1] at i1
    exact fun QQ => ⟨fun q => SeqAt.eq_listAt (e := fun Z => true) i1 i2 rfl hu (fun j h1 Z => absurd h1 (Nat.not_lt_zero j)) (q s.toks), fun q => (SeqAt.RcNeAt.lists (e := fun Z => true) i1 i2 rfl hu (fun j h1 Z => absurd h1 (Nat.not_lt_zero j))) _ _ _ _ (q s.toks)⟩
  | cons u l =>
    have hs : (vs.toArray.size != (#[] : Array Value).size) = true := by rw [List.size_toArray, ← r1.length]; rfl
    exact fun QQ => ⟨fun q => SeqAt.eq_list_lengthsAt i1 i2 hs hu (q s.toks), fun q => (SeqAt.RcNeAt.lists_lengths i1 i2 hs hu) _ _ _ _ (q s.toks)⟩
theorem kshaped {d : Dat} (o : kqdOk 8 d = true) : SeqAt.shaped (kqdP d) = true := by
  have l := kqd_lay 8 d o
  exact Bool.and_eq_true_iff.mpr ⟨l.1, decide_eq_true (Nat.le_trans l.2 (by decide))⟩
theorem eq_cmp {a b : V} {a' b' : Value} {g : Bool → Prop} (R : Rel W c ls h news s) (G : Good W c) (hu : A.units + 100 < cLine) (ha : VR W (Fx W c h news) a a') (hb : VR W (Fx W c h news) b b') (hk : dEq a b h g) :
    ∃ r, g r ∧ CmpB W A E s .Eq .NotEq a' b' r := by
  have prim : onSome g (eqP a b) → ∃ r, g r ∧ CmpB W A E s .Eq .NotEq a' b' r := fun k => e12 (onSome_inv k) fun r e k => ⟨r, k, eqP_cmp ha hb e⟩
  induction a using V.casesOn with
  | ref x =>
    refine refE ha (refV hk hb fun y hk => ?_)
    obtain ⟨o, g1, hk⟩ := hk
    obtain ⟨p, g2, hk⟩ := hk
    refine e12 (oList_inv hk) fun l e1 hk => e12 (oList_inv hk) fun m e2 hk => e02 (onNil_inv hk) fun e3 hk => ?_
    rw [e1] at g1
    rw [e2, e3] at g2
    exact e23 (R.listAt g1) fun vs n Z r1 i1 => e23 (R.listAt g2) fun ws n' Z r2 i2 => ⟨_, hk, list_cmp hu r1 r2 i1 i2⟩
  | tup x =>
    refine e12 (onTup_inv hk) fun y e hk => ?_
    rw [e] at hb
    have hF : ∀ a o, Fx W c h news a o → s.heap.get? a = some o := fun a o f => R.fact G f
    refine e11 (ha.reads hF 8 hk.need.1) fun as r1 => e11 (hb.reads hF 8 hk.need.2) fun bs r2 => ?_
    have o1 := pyOk_dat 8 _ hk.need.1
    have o2 := pyOk_dat 8 _ hk.need.2
    have hu2 : A.units + 64 < cLine := Nat.lt_of_le_of_lt (Nat.add_le_add_left (by decide) _) hu
    refine ⟨PyData.eqv (kqdP (toD 8 (.tup x))) (kqdP (toD 8 (.tup y))), hk.out.out _ ((kqd_eqv 8 _ _ 8 o1 o2).trans ⟨fun e => V.tup_inj (toD_inj 8 _ _ hk.need.1 hk.need.2 e), fun e => by rw [e]⟩), fun QQ => ⟨fun q => eq_dataH r1 r2 (kshaped o1) (kshaped o2) hu2 (q s.toks), fun q => ne_dataH r1 r2 (kshaped o1) (kshaped o2) hu2 (q s.toks)⟩⟩
  | int x => exact prim hk
  | str x => exact prim hk
  | bytes x => exact prim hk
  | _ => exact (show False from hk).elim
theorem in_cmp {a b : V} {a' b' : Value} {g : Bool → Prop} (R : Rel W c ls h news s) (G : Good W c) (hu : A.units + 100 < cLine) (ha : VR W (Fx W c h news) a a') (hb : VR W (Fx W c h news) b b') (hk : dIn a b h g) :
    ∃ r, g r ∧ CmpB W A E s .In .NotIn a' b' r := by
  induction b using V.casesOn with
  | ref d =>
    refine refE hb (intV hk ha fun x t hk => e22 (rdDict hk) fun ep es e1 hk => e24 (R.dictI e1 hk.need) fun o kvs hm hd hr hD => ⟨_, hk.out, ?_⟩)
    rw [lookI_some hr]
    exact fun QQ => ⟨fun q => wpAny_in_of (intKind_is _ _ _ _) (G.mini_gt R hm) hD.mapOf (q _), fun q => wpAny_notIn_of (intKind_is _ _ _ _) (G.mini_gt R hm) hD.mapOf (q _)⟩
  | tup l =>
    obtain ⟨v, e, hk⟩ := hk
    refine tupE hb fun x vs n hx rx => e02 (inL_any ha A.in1 (Nat.lt_of_le_of_lt (Nat.add_le_add_left (by decide) _) hu) s rx e) fun i1 i2 => ⟨v, hk, ?_⟩
    have hT : s.heap.IsTuple x vs.toArray := ⟨_, R.fact G hx, rfl, _, rfl⟩
    have ha : vs.toArray.any (eV a) = v := by rw [List.any_toArray, i2]
    have hm : ∀ y, y ∈ vs.toArray → SeqAt.EqAt A.in1 s y a' (eV a y) := fun y hy => i1 y (List.mem_toArray.mp hy)
    rw [← ha]
    exact fun QQ => ⟨fun q => SeqAt.in_tupleAt _ hT hm (q s.toks), fun q => SeqAt.notIn_tupleAt _ hT hm (q s.toks)⟩
  | _ => exact hk.elim
theorem sCmp {op : COp} {a b : V} {a' b' : Value} {k : V → Prop} (R : Rel W c ls h news s) (G : Good W c) (hu : A.units + 100 < cLine) (ha : VR W (Fx W c h news) a a') (hb : VR W (Fx W c h news) b b') (hk : dCmp op a b h k)
    (q : ∀ v v' s', k v → VR W (Fx W c h news) v v' → Rel W c ls h news s' → QQ v' s') : wpAny (model W.prog W.w) A (compareOp (opC op) a' b') QQ E s := by
  induction op using COp.casesOn with
  | lt => exact int2 hk ha hb fun x y t u hk => PyProof.Rows.lt_int (q _ _ _ hk (.bool _) R)
  | le => exact int2 hk ha hb fun x y t u hk => PyProof.Rows.le_int (q _ _ _ hk (.bool _) R)
  | gt => exact int2 hk ha hb fun x y t u hk => PyProof.Rows.gt_int (q _ _ _ hk (.bool _) R)
  | ge => exact int2 hk ha hb fun x y t u hk => PyProof.Rows.ge_int (q _ _ _ hk (.bool _) R)
  | is =>
    refine noneV hk hb fun hk => ?_
    have e := ha.non
    cases hn : nonV a with
    | true => rw [show a' = .none from nonW_inv (e ▸ hn)]; exact is_none_none (q _ _ _ (show k (.bool true) from hn ▸ hk) (.bool _) R)
    | false => exact is_none_ne (fun e' => by rw [e', hn] at e; cases e) (q _ _ _ (show k (.bool false) from hn ▸ hk) (.bool _) R)
  | isnt =>
    refine noneV hk hb fun hk => ?_
    have e := ha.non
    cases hn : nonV a with
    | true => rw [show a' = .none from nonW_inv (e ▸ hn)]; exact isnot_none_none (q _ _ _ (show k (.bool (!true)) from hn ▸ hk) (.bool _) R)
    | false => exact isnot_none_ne (fun e' => by rw [e', hn] at e; cases e) (q _ _ _ (show k (.bool (!false)) from hn ▸ hk) (.bool _) R)
  | eq => exact e12 (eq_cmp R G hu ha hb hk) fun r k f => (f QQ).1 fun tk => q _ _ _ k (.bool _) (R.tok _)
  | ne => exact e12 (eq_cmp R G hu ha hb hk) fun r k f => (f QQ).2 fun tk => q _ _ _ k (.bool _) (R.tok _)
  | isin => exact e12 (in_cmp R G hu ha hb hk) fun r k f => (f QQ).1 fun tk => q _ _ _ k (.bool _) (R.tok _)
  | nin => exact e12 (in_cmp R G hu ha hb hk) fun r k f => (f QQ).2 fun tk => q _ _ _ k (.bool _) (R.tok _)
theorem sTruthy {v : V} {v' : Value} {k : Bool → Prop} {Q : Bool → Shared → Prop} (R : Rel W c ls h news s) (hv : VR W (Fx W c h news) v v') (hk : truthy v h k)
    (q : ∀ b s', k b → Rel W c ls h news s' → Q b s') : wpAny (model W.prog W.w) A (PySem.truthy v') Q E s := by
  induction v using V.casesOn with
  | none => cases vr_none hv; exact PyProof.Rows.truthy_none (q _ _ hk R)
  | bool b => cases vr_bool hv; exact wpAny_truthy_bool (q _ _ hk R)
  | int i =>
    refine intE hv fun t => ?_
    exact PyProof.Rows.truthy_int (q _ _ hk R)
  | ref a =>
    refine refE hv ?_
    obtain ⟨l, e1, hz, hk⟩ := rdList hk
    refine e23 (R.listAt e1) fun vs n m1 r1 i1 => ?_
    refine wpAny_truthy_list i1 ?_ ?_
    · have := r1.length
      rw [List.size_toArray]; lia
    · induction r1 using VRs.casesOn <;> exact q _ _ hk (R.tok _)
  | _ => exact hk.elim
theorem kvi_lookS {l : List (V × V)} {kvs : List (Int × Value)} (h : KVI W F l kvs) (x : List Nat) : lookS x l = none := by
  induction h with
  | nil => rfl
  | cons _ _ ih => exact ih
theorem subs_is (slice : Expr) (o i : Value) : ∃ ops, subscripted slice false o i = operate ops (getItem o i) := by
  induction slice using Expr.casesOn with
  | Slice a b c p => induction c using Option.casesOn <;> exact ⟨_, rfl⟩
  | _ => exact ⟨_, rfl⟩
theorem tailA {value slice : Expr} {o i : Value} {T id : String} {Q : Value → Shared → Prop} (hT : s.TypeIs o T) (hl : typeLookup (.type T) "__getitem__" = pure (some (.builtin id))) (hg : wpAny (model W.prog W.w) A (getItem o i) Q E s) :
    wpAny (model W.prog W.w) A (subscriptTail value slice o i) Q E s := e11 (subs_is slice o i) fun ops hs => tail_any hT hl hg hs
theorem getD_bytes {b : Array UInt8} {l : List Nat} (hb : b.toList.map UInt8.toNat = l) (j : Nat) (hj : j < l.length) : ((b.toList.getD j 0).toNat : Int) = ((l.getD j 0 : Nat) : Int) := by
  rw [← hb, List.length_map] at hj
  rw [← hb, List.getD_eq_getElem?_getD, List.getD_eq_getElem?_getD, List.getElem?_map, List.getElem?_eq_getElem hj]
  rfl
theorem seqIx {j : Int} {n : Nat} (h0 : 0 ≤ j) (h1 : j < n) : seqIndex? j n = some j.toNat := by
  have h3 : ¬ j < 0 := by lia
  simp [seqIndex?, h3, h0]
  exact h1
theorem ix63 {j : Int} {n : Nat} (h1 : j < n) (h2 : small n) : j < 2 ^ 63 := by
  have h2 : n ≤ 1000000 := h2
  lia
theorem kviA {kvs : List (Int × Value)} {es : List (V × V)} {j : Int} {v : V} (hr : KVI W F es kvs) (e : lookI j es = some v) : ∃ v', valueAt kvs j = some v' ∧ VR W F v v' :=
  Or.elim (lookI_kvi hr j) (fun e0 => none_ne (e0.1.symm.trans e)) fun e0 => e23 e0 fun w v' e2 e3 hv => ⟨v', e3, Option.some.inj (e2.symm.trans e) ▸ hv⟩
theorem kvsA {kvs : List (Str × Value)} {es : List (V × V)} {x : Str} {v : V} (hr : KVS W F es kvs) (e : lookS x.cps.toList es = some v) : ∃ v', valueAt kvs x = some v' ∧ VR W F v v' :=
  Or.elim (lookS_kvs hr x) (fun e0 => none_ne (e0.1.symm.trans e)) fun e0 => e23 e0 fun w v' e2 e3 hv => ⟨v', e3, Option.some.inj (e2.symm.trans e) ▸ hv⟩
theorem sIdx {o i : V} {o' i' : Value} {k : V → Prop} {value slice : Expr} (R : Rel W c ls h news s) (G : Good W c) (ho : VR W (Fx W c h news) o o') (hi : VR W (Fx W c h news) i i') (hk : dIdx o i h k)
    (q : ∀ v v' s', k v → VR W (Fx W c h news) v v' → Rel W c ls h news s' → QQ v' s') : wpAny (model W.prog W.w) A (subscriptTail value slice o' i') QQ E s := by
  induction o using V.casesOn with
  | bytes l =>
    refine bytesE ho fun b t hb => intV hk hi fun j u hk => ?_
    have h0 := hk.need.1
    have h1 := hk.need.2.1
    have hlen : b.toList.length = l.length := by rw [← hb, List.length_map]
    have hj : j.toNat < l.length := by lia
    have h2 : l.length ≤ 1000000 := hk.need.2.2
    refine tailA (typeIs_bytes _ _ _) FB.slot_bytes_getitem.lookup (getItem_bytes (l := b.toList) (by lia) h0 (by lia) ?_)
    rw [getD_bytes hb _ hj]
    exact q _ _ _ hk.out (.int _ _) (R.tok _)
  | tup l =>
    refine tupE ho fun a vs n hx rx => intV hk hi fun j u hk => ?_
    have h0 := hk.need.1
    have h1 := hk.need.2.1
    have h2 := ix63 h1 hk.need.2.2
    obtain ⟨v, e, hk⟩ := hk.out
    refine e12 (rx.get e) fun v' e' hv => ?_
    have hT : IsTup s.heap a vs.toArray := ⟨_, R.fact G hx, rfl, _, rfl⟩
    exact tailA hT.typeIs slot_tuple_getitem.lookup (getItem_tuple hT (by lia) h2 (seqIx h0 (by rw [List.size_toArray, ← rx.length]; exact h1)) (by rw [List.getElem?_toArray]; exact e') (q _ _ _ hk hv R))
  | ref a =>
    refine refE ho ?_
    obtain ⟨ob, e1, hk⟩ := hk
    induction ob using O.casesOn with
    | list l =>
      refine intV hk hi fun j u hk => e23 (R.listAt e1) fun vs n m1 r1 i1 => ?_
      have h2 : l.length ≤ 1000000 := hk.need
      obtain ⟨v, e, hq⟩ := hk.out
      have hlen := r1.length
      refine tailA i1.typeIs slot_list_getitem.lookup ?_
      unfold pickL at e
      split at e
      · rename_i h0
        refine e12 (r1.get e) fun v' e' hv => ?_
        have : j.toNat < vs.length := (List.getElem?_eq_some_iff.mp e').1
        exact wpAny_getItem_list i1 h0 (by lia) (by rw [List.getElem?_toArray]; exact e') (q _ _ _ hq hv R)
      · split at e
        · rename_i hj
          rw [List.getLast?_eq_getElem?] at e
          refine e12 (r1.get e) fun v' e' hv => ?_
          have h3 : l.length - 1 < vs.length := (List.getElem?_eq_some_iff.mp e').1
          refine wpAny_getItem_list_neg i1 (by lia) (by rw [List.size_toArray]; lia) (by lia) ?_ (q _ _ _ hq hv R)
          rw [List.size_toArray, List.getElem?_toArray, show (j + (vs.length : Int)).toNat = l.length - 1 by lia]; exact e'
        · exact none_ne e
    | dict ep es =>
      induction i using V.casesOn with
      | int j =>
        refine intE hi fun u => e24 (R.dictI e1 hk.need) fun o kvs hm hd hr hD => ?_
        obtain ⟨v, e, hk⟩ := hk.out
        exact e12 (kviA hr e) fun v' e3 hv => tailA hD.typeIs slot_dict_getitem.lookup (wpAny_getItem_of (intKind_is _ _ _ _) hD.mapOf e3 (q _ _ _ hk hv (R.tok _)))
      | str x =>
        refine strE hi fun x u hx => ?_
        obtain ⟨v, e, hk⟩ := hk
        rw [← hx] at e
        refine Or.elim (R.dictAt e1) (fun d => e24 d fun o kvs hm hd hr hD => none_ne ((kvi_lookS hr _).symm.trans e)) fun d => e24 d fun o kvs hm hd hr hD => ?_
        exact e12 (kvsA hr e) fun v' e3 hv => tailA hD.typeIs slot_dict_getitem.lookup (wpAny_getItem_of (strKind_is _ _ _ _) hD.mapOf e3 (q _ _ _ hk hv (R.tok _)))
      | _ => exact hk.elim
    | _ => exact hk.elim
  | _ => exact hk.elim
theorem part_of {v : V} {v' : Value} {i : Int} (hv : VR W F v v') (e : v = .int i) : IsPart v' (some i) := by
  subst e
  refine intE hv fun t => ?_
  exact .int _ _
theorem cut_take {α : Type} (l : List α) (a b : Nat) : (l.drop (min a l.length)).take (min b l.length - min a l.length) = cut l a b := by
  unfold cut
  rw [List.drop_take]
  rcases Nat.le_total a l.length with h | h
  · rw [Nat.min_eq_left h, List.take_eq_take_iff, List.length_drop]; lia
  · rw [Nat.min_eq_right h, List.drop_eq_nil_of_le h, List.drop_eq_nil_of_le (Nat.le_refl _), List.take_nil, List.take_nil]
theorem drop_min {α : Type} (l : List α) (a : Nat) : (l.drop (min a l.length)).take (l.length - min a l.length) = l.drop a := by
  rw [List.take_of_length_le (by simp)]
  rcases Nat.le_total a l.length with h | h
  · rw [Nat.min_eq_left h]
  · rw [Nat.min_eq_right h, List.drop_of_length_le (Nat.le_refl _), List.drop_of_length_le h]
theorem Rel.newList (R : Rel W c ls h news s) (G : Good W c) {l : List V} {vs : List Value} (hr : VRs W (Fx W c h news) l vs) :
    Rel W c ls (h.add s.heap.objs.size (.list l)) ((s.heap.objs.size, lstO vs 0) :: news) { s with heap := s.heap.push (lstO vs 0) } ∧ Stab (Fx W c h news) (Fx W c (h.add s.heap.objs.size (.list l)) ((s.heap.objs.size, lstO vs 0) :: news)) :=
  R.alloc (lstO vs 0) (.list l) rfl rfl fun Z Z hm st => .list hm (hr.stab st)
theorem part_none {v' : Value} (hv : VR W F .none v') : IsPart v' none := vr_none hv ▸ .none
theorem Rel.listR (R : Rel W c ls h news s) (G : Good W c) {a : Nat} {l : List V} (e : h.get a = some (.list l) ∨ h.get a = some (.ro l)) : ∃ vs, VRs W (Fx W c h news) l vs ∧ s.heap.IsList a vs.toArray :=
  Or.elim e (fun e => e23 (R.listAt e) fun vs Z Z r i => ⟨vs, r, i⟩) fun e => by
    cases R.hp _ _ e with
    | @ro _ vs n hr hl r1 => exact ⟨vs, r1, hl _ (R.keep _ _ (G.ro _ _ _ hr))⟩
theorem sSlc {o lo hi st : V} {o' lo' hi' st' : Value} {k : V → Hp → Prop} {value : Expr} {sl : Addr} {slice : Expr} (R : Rel W c ls h news s) (G : Good W c) (ho : VR W (Fx W c h news) o o') (hl : VR W (Fx W c h news) lo lo') (hh : VR W (Fx W c h news) hi hi')
    (hst : VR W (Fx W c h news) st st') (hS : s.heap.IsSliceOf sl lo' hi' st') (hk : dSlc o lo hi st h k)
    (q : ∀ v v' h' news' s', k v h' → VR W (Fx W c h' news') v v' → Rel W c ls h' news' s' → Stab (Fx W c h news) (Fx W c h' news') → QQ v' s') : wpAny (model W.prog W.w) A (subscriptTail value slice o' (.ref sl)) QQ E s := by
  have lst : ∀ {a : Nat} {l l' : List V} {pl ph pst : Option Int} (e1 : h.get a = some (.list l) ∨ h.get a = some (.ro l)) (hz : small l.length) (p1 : IsPart lo' pl) (p2 : IsPart hi' ph) (p3 : IsPart st' pst) (hn : pst ≠ some 0)
      (pick : ∀ vs : List Value, VRs W (Fx W c h news) l vs → ∃ ws, slicePick vs.toArray pl ph pst = ws.toArray ∧ VRs W (Fx W c h news) l' ws)
      (hk : Fr1 h (.list l') (kRef k)), wpAny (model W.prog W.w) A (subscriptTail value slice (.ref a) (.ref sl)) QQ E s := by
    intro a l l' pl ph pst e1 hz p1 p2 p3 hn pick hk
    refine e12 (R.listR G e1) fun vs r1 i1 => e12 (pick vs r1) fun ws e rw' => ?_
    refine tailA i1.typeIs slot_list_getitem.lookup (wpAny_getItem_list_slice i1 hS p1 p2 p3 hn ?_ (by rw [List.size_toArray, ← r1.length]; exact Nat.le_trans hz (Nat.le_trans (by decide) sizeLine_ge)))
    rw [e]
    exact e02 (R.newList G rw') fun R' st => q _ _ _ _ _ (hk.out.out _ R.top_le) (.ref _) R' st
  have byt : ∀ {l l' : List Nat} {pl ph : Option Int} (ho : VR W (Fx W c h news) (.bytes l) o') (hst : VR W (Fx W c h news) .none st') (hz : small l.length) (p1 : IsPart lo' pl) (p2 : IsPart hi' ph)
      (pick : (l.drop (pl.elim 0 (clipAt l.length))).take (ph.elim l.length (clipAt l.length) - pl.elim 0 (clipAt l.length)) = l') (hk : k (.bytes l') h), wpAny (model W.prog W.w) A (subscriptTail value slice o' (.ref sl)) QQ E s := by
    intro l l' pl ph ho hst hz p1 p2 pick hk'
    rw [vr_none hst] at hS
    refine bytesE ho fun b t hb => ?_
    have hlen : b.size = l.length := by rw [← hb]; simp
    refine tailA (typeIs_bytes _ _ _) FB.slot_bytes_getitem.lookup (getItem_meets (typeIs_bytes _ _ _) (by decide) FB.slot_bytes_getitem FB.entry_bytes_getitem (FB.args_bytes_getitem_2 _ _) (KBc.meets_slice2 b t sl p1 p2) ⟨hS, ?_, fun t' k' => ?_⟩)
    · exact Nat.le_trans (KBc.size_picked_le b _ _) (hlen ▸ Nat.le_trans hz (Nat.le_trans (by decide) sizeLine_ge))
    · refine q _ _ _ _ _ hk' ?_ (R.tok _) .refl
      have e : (KBy.picked b pl ph).toList.map UInt8.toNat = l' := by
        rw [KBc.picked_eq, ← pick, ← hb]
        simp [List.map_take, List.map_drop]
      rw [← e]
      exact .bytes _ _
  induction o using V.casesOn with
  | bytes l =>
    refine e12 (onInt_inv hk) fun a e hk => e02 (onNone_inv hk) fun e2 hk => ?_
    rw [e2] at hst
    induction hi using V.casesOn with
    | none =>
      rw [vr_none hh] at hS
      refine byt ho hst hk.need.2 (part_of hl e) (part_none hh) ?_ hk.out
      refine e11 (Int.eq_ofNat_of_zero_le hk.need.1) fun n eq1 => ?_
      rw [eq1]
      exact (congrArg (fun m => (l.drop m).take (l.length - m)) (clipAt_nat _ _)).trans (drop_min _ _)
    | int b =>
      refine byt ho hst hk.need.2.2 (part_of hl e) (part_of hh rfl) ?_ hk.out
      refine e11 (Int.eq_ofNat_of_zero_le hk.need.1) fun n eq1 => e11 (Int.eq_ofNat_of_zero_le hk.need.2.1) fun m eq2 => ?_
      rw [eq1, eq2]
      show (l.drop (clipAt l.length n)).take (clipAt l.length m - clipAt l.length n) = _
      rw [clipAt_nat, clipAt_nat]
      exact cut_take _ _ _
    | _ => exact hk.elim
  | ref x =>
    refine refE ho ?_
    induction lo using V.casesOn with
    | int a =>
      refine e02 (onNone_inv hk) fun e hk => e02 (onNone_inv hk) fun e2 hk => e12 (rdList hk) fun l e1 hk => ?_
      rw [e] at hh
      rw [e2] at hst
      refine e11 (Int.eq_ofNat_of_zero_le hk.need.1) fun n eq1 => ?_
      rw [eq1] at hk hl
      exact lst (.inl e1) hk.need.2 (part_of hl rfl) (part_none hh) (part_none hst) (by simp) (fun vs r => ⟨vs.drop n, slicePick_from' _ _, r.drop n⟩) hk.out
    | none =>
      induction hi using V.casesOn with
      | int b =>
        refine e02 (onNone_inv hk) fun e hk => ?_
        rw [e] at hst
        obtain ⟨ob, e1, hk⟩ := hk
        have all : ∀ l, (h.get x = some (.list l) ∨ h.get x = some (.ro l)) → Need (0 ≤ b ∧ small l.length) (Fr1 h (.list (l.take b.toNat)) (kRef k)) → wpAny (model W.prog W.w) A (subscriptTail value slice (.ref x) (.ref sl)) QQ E s := by
          intro l e1 hk
          refine e11 (Int.eq_ofNat_of_zero_le hk.need.1) fun n eq1 => ?_
          rw [eq1] at hk hh
          exact lst e1 hk.need.2 (part_none hl) (part_of hh rfl) (part_none hst) (by simp) (fun vs r => ⟨vs.take n, slicePick_upto' _ _, r.take n⟩) hk.out
        induction ob using O.casesOn with
        | list l => exact all l (.inl e1) hk
        | ro l => exact all l (.inr e1) hk
        | _ => exact hk.elim
      | none =>
        refine e12 (onInt_inv hk) fun j e hk => e12 (rdList hk.out) fun l e1 hk1 => ?_
        exact lst (.inl e1) hk1.need (part_none hl) (part_none hh) (part_of hst (e.trans (congrArg V.int hk.need))) (by simp) (fun vs r => ⟨vs.reverse, krv_pick _, r.reverse⟩) hk1.out
      | _ => exact hk.elim
    | _ => exact hk.elim
  | _ => exact hk.elim
end
end
section
open PySem PySem.W PyProof.Rows PySem.Calls
structure ClsOk (W : Wd) (c : Nat) (ci : Ci) : Prop where
  get : ∀ n, plainGet W.K (W.tb.clA c) n = true
  dict : hasDictIn W.K (W.tb.clA c) = true
  makes : makesIn W.K (W.tb.clA c) = true
  setA : findIn W.K (.ref (W.tb.clA c)) "__setattr__" = some (some (.builtin "object.__setattr__"))
  over : plainOver W.K (W.tb.clA c) = true
  keep : keepIn W.K (.ref (W.tb.clA c)) = true
  fld : ∀ f ∈ ci.flds, findIn W.K (.ref (W.tb.clA c)) (W.tb.nm f) = some none ∧ takerIn W.K (W.tb.clA c) (W.tb.nm f) = some none
  nodup : (ci.flds.map W.tb.nm).Nodup
  few : ci.flds.length ≤ 100
  meth : ∀ p ∈ ci.meths, findIn W.K (.ref (W.tb.clA c)) (W.tb.nm p.1) = some (some (.ref (W.tb.fnA p.2))) ∧ isFn W.K (.ref (W.tb.fnA p.2)) = true ∧ keepIn W.K (.ref (W.tb.fnA p.2)) = true ∧ W.tb.nm p.1 ∉ ci.flds.map W.tb.nm
structure NamesOk (tb : Tab) : Prop where
  app : tb.nm mAppend = "append"
  pop : tb.nm mPop = "pop"
  get : tb.nm mGet = "get"
  update : tb.nm mUpdate = "update"
  join : tb.nm mJoin = "join"
  encode : tb.nm mEncode = "encode"
structure WdOk (W : Wd) : Prop where
  cls : ∀ c ci, W.pr.ci c = some ci → ClsOk W c ci
  names : NamesOk W.tb
section
variable {W : Wd} {c : Cx} {ls : Ls} {h : Hp} {news : News'} {s : Shared} {F : PF} {A : Around} {E : Value → Shared → Prop} {QQ : Value → Shared → Prop}
theorem str_beq (x y : Str) : (x == y) = decide (x = y) := by by_cases q : x = y <;> simp [q]
theorem EntR.get {P : Params} {ns : List Str} {es : List DictEntry} {vs : List Value} (h : EntR P ns es vs) (nd : ns.Nodup) : ∀ {i : Nat} {n : Str} {v : Value}, ns[i]? = some n → vs[i]? = some v → getL n es = some (some v) := by
  induction h with
  | nil => intro i n v h; simp at h
  | @cons m ns es u vs t r ih =>
    intro i n v h1 h2
    have nd' := List.nodup_cons.mp nd
    induction i using Nat.casesOn with
    | zero =>
      simp at h1 h2
      subst h1 h2
      simp [getL, show (Value.str m t).isStr m = true from beq_self_eq_true m]
    | succ i =>
      simp only [List.getElem?_cons_succ] at h1 h2
      have hne : (m == n) = false := by
        rw [str_beq]
        exact decide_eq_false fun e => nd'.1 (e ▸ List.mem_of_getElem? h1)
      have := ih nd'.2 h1 h2
      unfold getL at this ⊢
      have hh : List.find? (fun x => x.key.isStr n) (⟨PyData.keyHash P m, .str m t, u⟩ :: es) = List.find? (fun x => x.key.isStr n) es := by
        rw [List.find?_cons]
        have : (Value.str m t).isStr n = false := hne
        simp only [this]
      rw [hh]
      split at this
      · exact this
      · split at this <;> cases this
theorem EntR.getNone {P : Params} {ns : List Str} {es : List DictEntry} {vs : List Value} (h : EntR P ns es vs) {n : Str} (hn : n ∉ ns) : getL n es = some none := by
  have h1 : es.find? (·.key.isStr n) = none := by
    induction h with
    | nil => rfl
    | @cons m ns es u vs t r ih =>
      have hne : (m == n) = false := by
        rw [str_beq]
        exact decide_eq_false fun e => hn (e ▸ List.mem_cons_self)
      rw [List.find?_cons]
      simp only [show (Value.str m t).isStr n = false from hne]
      exact ih fun q => hn (.tail _ q)
  have h2 : es.any (·.refKey) = false := by
    clear h1 hn
    induction h with
    | nil => rfl
    | cons t r ih => rw [List.any_cons, ih]; rfl
  unfold getL
  rw [h1, h2]; rfl
theorem ixOf_some {f : Nat} {l : List Nat} : ∀ {i : Nat}, ixOf f l = some i → l[i]? = some f := by
  induction l with
  | nil => exact fun e => none_ne e
  | cons g r ih =>
    intro i e
    exact cond_some e (fun q e => by rw [← e, Nat.eq_of_beq_eq_true q]; rfl) fun Z e => e12 (Option.map_eq_some_iff.mp e) fun j hj e => by rw [← e]; exact (show r[j]? = some f from ih hj)
theorem lookN_mem {α : Type} {f : Nat} {x : α} {l : List (Nat × α)} : lookN f l = some x → (f, x) ∈ l := by
  induction l with
  | nil => exact fun e => none_ne e
  | cons p r ih => exact fun e => cond_some e (fun q e => by rw [← e, Nat.eq_of_beq_eq_true q]; exact .head _) fun Z e => .tail _ (ih e)
theorem vr_handed {v : V} {v' : Value} (h : VR W F v v') : handedIn v' = true := by
  cases h <;> first | rfl | skip
  induction b using BI.casesOn <;> first | rfl | decide +kernel
theorem flds_eq {c : Nat} {ci : Ci} {ns : List Str} (e : W.pr.ci c = some ci) (h : W.flds c = some ns) : ns = ci.flds.map W.tb.nm := by
  unfold Wd.flds at h; rw [e] at h; exact (Option.some.inj h).symm
theorem fldIx_inv {P : Pr} {c f i : Nat} (e : fldIx P c f = some i) : ∃ ci, P.ci c = some ci ∧ ixOf f ci.flds = some i := Option.bind_eq_some_iff.mp e
theorem fldOf_inv {P : Pr} {c f : Nat} {fs : List V} {v : V} (e : fldOf P c f fs = some v) : ∃ ci i, P.ci c = some ci ∧ ixOf f ci.flds = some i ∧ fs[i]? = some v := by
  refine e12 (Option.bind_eq_some_iff.mp e) fun i e1 e2 => ?_
  refine e12 (fldIx_inv e1) fun ci e3 e4 => ?_
  exact ⟨ci, i, e3, e4, e2⟩
theorem methOf_inv {P : Pr} {c m : Nat} {r : MR} (e : mInst P c m = some r) : ∃ ci f, P.ci c = some ci ∧ lookN m ci.meths = some f ∧ r = .own f := by
  refine e12 (Option.map_eq_some_iff.mp e) fun f e1 e2 => ?_
  refine e12 (Option.bind_eq_some_iff.mp e1) fun ci e3 e4 => ?_
  exact ⟨ci, f, e3, e4, e2.symm⟩
theorem sAttr {o : V} {o' : Value} {f : Nat} {k : V → Prop} (ok : WdOk W) (R : Rel W c ls h news s) (G : Good W c) (ho : VR W (Fx W c h news) o o') (hk : dAttr W.pr o f h k)
    (q : ∀ v v' s', k v → VR W (Fx W c h news) v v' → Rel W c ls h news s' → QQ v' s') : wpAny (model W.prog W.w) A (getAttr o' (W.tb.nm f) true) QQ E s := by
  refine e12 (R.fr) fun m Fm L => ?_
  have core : ∀ {x dx : Addr} {es n cc fs ns vs v}, s.heap.get? x = some (instObj (W.tb.clA cc) dx) → s.heap.get? dx = some (dictOf es n) → W.flds cc = some ns → EntR W.w.params (ns.take fs.length) es vs → VRs W (Fx W c h news) fs vs → fldOf W.pr cc f fs = some v → k v →
      wpAny (model W.prog W.w) A (getAttr (.ref x) (W.tb.nm f) true) QQ E s := by
    intro x dx es n cc fs ns vs v hx hdx hf hE hV hfo hkv
    refine e23 (fldOf_inv hfo) fun ci i hci hi hfo => ?_
    refine e12 (hV.get hfo) fun v' hv' hvr => ?_
    have hns := flds_eq hci hf
    have ck := ok.cls _ _ hci
    have hlt : i < fs.length := (List.getElem?_eq_some_iff.mp hfo).1
    have hni : (ns.take fs.length)[i]? = some (W.tb.nm f) := by rw [List.getElem?_take, if_pos hlt, hns, List.getElem?_map, ixOf_some hi]; rfl
    exact get_own Fm G.X (ox := instObj (W.tb.clA cc) dx) ⟨hx, rfl, rfl, hdx⟩ (ck.get _) ck.dict (ck.fld f (List.mem_of_getElem? (ixOf_some hi))).1 rfl (hE.get ((hns ▸ ck.nodup).sublist (List.take_sublist _ _)) hni hv') (vr_handed hvr) (q _ _ _ hkv hvr (R.tok _))
  induction o using V.casesOn with
  | obj c0 fs =>
    refine e12 (onSome_inv hk) fun v hv hk => ?_
    cases ho with
    | obj e1 e2 e3 e4 e5 =>
      exact core (R.fact G e2) (R.fact G e3) e1 (by
        have l1 := e4.length
        have l2 := e5.length
        rw [List.take_of_length_le (by lia)]; exact e4) e5 hv hk
  | ref a =>
    refine refE ho ?_
    refine e22 (rdInst hk) fun c0 fs e1 hk => ?_
    refine e12 (onSome_inv hk) fun v hv hk => ?_
    cases R.hp _ _ e1 with
    | inst a1 a2 a3 a4 al a5 a6 => exact core (R.at a2) (R.at a3) a1 a5 a6 hv hk
  | _ => exact hk.elim
inductive MRv (W : Wd) : MR → Value → List Value → Prop
  | own (f : Nat) (x : Addr) : keepIn W.K (.ref (W.tb.fnA f)) = true → MRv W (.own f) (.ref (W.tb.fnA f)) [.ref x]
  | app (v : Value) : MRv W .app (.builtin "list.append") [v]
  | lpop (v : Value) : MRv W .lpop (.builtin "list.pop") [v]
  | get (v : Value) : MRv W .get (.builtin "dict.get") [v]
  | dpop (v : Value) : MRv W .dpop (.builtin "dict.pop") [v]
  | upd (v : Value) : MRv W .upd (.builtin "dict.update") [v]
  | join (v : Value) : MRv W .join (.builtin "str.join") [v]
  | enc (v : Value) : MRv W .enc (.builtin "str.encode") [v]
theorem mList_inv {m : Nat} {r : MR} (e : mList m = some r) : (m = mAppend ∧ r = .app) ∨ (m = mPop ∧ r = .lpop) := by
  unfold mList at e
  cases q : Nat.beq m mAppend with
  | true => rw [q] at e; cases e; exact .inl ⟨Nat.eq_of_beq_eq_true q, rfl⟩
  | false =>
    rw [q] at e
    cases q : Nat.beq m mPop with
    | true => rw [q] at e; cases e; exact .inr ⟨Nat.eq_of_beq_eq_true q, rfl⟩
    | false => rw [q] at e; exact none_ne e
theorem mDict_inv {m : Nat} {r : MR} (e : mDict m = some r) : (m = mGet ∧ r = .get) ∨ (m = mPop ∧ r = .dpop) ∨ (m = mUpdate ∧ r = .upd) := by
  unfold mDict at e
  cases q : Nat.beq m mGet with
  | true => rw [q] at e; cases e; exact .inl ⟨Nat.eq_of_beq_eq_true q, rfl⟩
  | false =>
    rw [q] at e
    cases q : Nat.beq m mPop with
    | true => rw [q] at e; cases e; exact .inr (.inl ⟨Nat.eq_of_beq_eq_true q, rfl⟩)
    | false =>
      rw [q] at e
      cases q : Nat.beq m mUpdate with
      | true => rw [q] at e; cases e; exact .inr (.inr ⟨Nat.eq_of_beq_eq_true q, rfl⟩)
      | false => rw [q] at e; exact none_ne e
theorem mStr_inv {m : Nat} {r : MR} (e : mStr m = some r) : (m = mJoin ∧ r = .join) ∨ (m = mEncode ∧ r = .enc) := by
  unfold mStr at e
  cases q : Nat.beq m mJoin with
  | true => rw [q] at e; cases e; exact .inl ⟨Nat.eq_of_beq_eq_true q, rfl⟩
  | false =>
    rw [q] at e
    cases q : Nat.beq m mEncode with
    | true => rw [q] at e; cases e; exact .inr ⟨Nat.eq_of_beq_eq_true q, rfl⟩
    | false => rw [q] at e; exact none_ne e
theorem gB {M : Model} {v : Value} {T : String} {name name' : Str} {id : String} {pl : Sem Bool} {Q : Value × List Value → Shared → Prop} (hn : name = name') (hT : s.TypeIs v T) (pa : PlainAttrs T)
    (slot : PySem.Slot T name' id) (hty : typeOf (.builtin id) = pure (.type "method_descriptor"))
    (hd : ∀ a, v = .ref a → ∃ o, s.heap.get? a = some o ∧ o.dict = none) (h : Q (.builtin id, [v]) s) : wpAny M A (getMethod v name pl) Q E s := hn ▸ getMethod_builtin hT pa slot hty hd h
theorem ref_dict {a : Addr} {o : Obj} {hh : Heap} (h : hh.get? a = some o) (d : o.dict = none) : ∀ b, Value.ref a = .ref b → ∃ o, hh.get? b = some o ∧ o.dict = none := fun b e => ⟨o, Value.ref.inj e ▸ h, d⟩
theorem Rel.dictOb (R : Rel W c ls h news s) {a ep : Nat} {l : List (V × V)} (e1 : h.get a = some (.dict ep l)) : ∃ ob, s.heap.get? a = some ob ∧ ob.cls = .type "dict" ∧ ob.dict = none :=
  Or.elim (R.dictAt e1) (fun d => e24 d fun o kvs hm hd hr hD => e25 hd fun es ep h1 h2 h3 h4 h5 => ⟨o, R.at hm, h1.1, h1.2.1⟩) fun d => e24 d fun o kvs hm hd hr hD => e25 hd fun es ep h1 h2 h3 h4 h5 => ⟨o, R.at hm, h1.1, h1.2.1⟩
theorem sMeth {o : V} {o' : Value} {mn : Nat} {k : MR → Prop} {pl : Sem Bool} {Q : Value × List Value → Shared → Prop} (ok : WdOk W) (R : Rel W c ls h news s) (G : Good W c) (ho : VR W (Fx W c h news) o o') (hk : mRes W.pr o mn h k)
    (q : ∀ r f s', k r → MRv W r f [o'] → Rel W c ls h news s' → Q (f, [o']) s') : wpAny (model W.prog W.w) A (getMethod o' (W.tb.nm mn) pl) Q E s := by
  refine e12 (R.fr) fun m Fm L => ?_
  have nm := ok.names
  have core : ∀ {x dx : Addr} {es n cc ns vs r}, s.heap.get? x = some (instObj (W.tb.clA cc) dx) → s.heap.get? dx = some (dictOf es n) → W.flds cc = some ns → ∀ j : Nat, EntR W.w.params (ns.take j) es vs → mInst W.pr cc mn = some r → k r → o' = .ref x →
      wpAny (model W.prog W.w) A (getMethod o' (W.tb.nm mn) pl) Q E s := by
    intro x dx es n cc ns vs r hx hdx hf j hE hm hkf ho'
    refine e23 (methOf_inv hm) fun ci f hci hm2 eq1 => ?_
    subst eq1
    subst ho'
    have ck := ok.cls _ _ hci
    refine e04 (ck.meth _ (lookN_mem hm2)) fun c1 c2 c3 c4 => ?_
    have hns := flds_eq hci hf
    exact method_inst Fm G.X (ox := instObj (W.tb.clA cc) dx) ⟨hx, rfl, rfl, hdx⟩ (ck.get _) c1 c2 (hE.getNone fun q => c4 (hns ▸ List.mem_of_mem_take q)) (q _ _ _ hkf (.own f x c3) R)
  induction o using V.casesOn with
  | obj c0 fs =>
    refine e12 (onSome_inv hk) fun r hr hk => ?_
    cases ho with
    | obj e1 e2 e3 e4 e5 => exact core (R.fact G e2) (R.fact G e3) e1 _ (by rw [List.take_length]; exact e4) hr hk rfl
  | ref a =>
    cases vr_ref ho
    obtain ⟨ob, e1, hk1⟩ := hk
    refine e12 (onSome_inv hk1) fun r hr hk2 => ?_
    clear hk1
    induction ob using O.casesOn with
    | inst c0 fs =>
      cases R.hp _ _ e1 with
      | inst a1 a2 a3 a4 al a5 a6 => exact core (R.at a2) (R.at a3) a1 _ a5 hr hk2 rfl
    | list l =>
      refine e23 (R.listAt e1) fun vs n m1 r1 i1 => ?_
      have nd := ref_dict (R.at m1) (show (lstO vs n).dict = none from rfl)
      exact Or.elim (mList_inv hr) (fun e => gB (e.1 ▸ nm.app) i1.typeIs F.plainAttrs_list F.slot_list_append F.type_list_append nd (q _ _ _ (e.2 ▸ hk2) (.app _) R))
        fun e => gB (e.1 ▸ nm.pop) i1.typeIs F.plainAttrs_list F.slot_list_pop F.type_list_pop nd (q _ _ _ (e.2 ▸ hk2) (.lpop _) R)
    | dict ep l =>
      refine e13 (R.dictOb e1) fun ob hob hc hdn => ?_
      have hT : s.TypeIs (.ref a) "dict" := ⟨ob, hob, hc⟩
      have nd := ref_dict hob hdn
      exact Or.elim (mDict_inv hr) (fun e => gB (e.1 ▸ nm.get) hT F.plainAttrs_dict F.slot_dict_get F.type_dict_get nd (q _ _ _ (e.2 ▸ hk2) (.get _) R))
        fun e => Or.elim e (fun e => gB (e.1 ▸ nm.pop) hT F.plainAttrs_dict F.slot_dict_pop F.type_dict_pop nd (q _ _ _ (e.2 ▸ hk2) (.dpop _) R))
          fun e => gB (e.1 ▸ nm.update) hT F.plainAttrs_dict F.slot_dict_update F.type_dict_update nd (q _ _ _ (e.2 ▸ hk2) (.upd _) R)
    | _ => exact none_ne hr
  | str x =>
    revert q
    refine strE ho fun x t hx q => e12 (onSome_inv hk) fun r hr hk => ?_
    exact Or.elim (mStr_inv hr) (fun e => gB (e.1 ▸ nm.join) (typeIs_str _ _ _) F.plainAttrs_str F.slot_str_join F.type_str_join (fun a e => nomatch e) (q _ _ _ (e.2 ▸ hk) (.join _) R))
      fun e => gB (e.1 ▸ nm.encode) (typeIs_str _ _ _) F.plainAttrs_str F.slot_str_encode F.type_str_encode (fun a e => nomatch e) (q _ _ _ (e.2 ▸ hk) (.enc _) R)
  | _ => exact hk.elim
end
end
section
open PySem PySem.W PyProof.Rows PySem.Calls PySem.Builtin._codecs
theorem foldl_bytes (f : Nat → List UInt8) : ∀ (l : List Nat) (out : Array UInt8), l.foldl (fun acc y => acc ++ (f y).toArray) out = out ++ (l.flatMap f).toArray := by
  intro L0
  induction L0 with
  | nil => exact fun out => by simp
  | cons a l ih =>
    intro out
    rw [List.foldl_cons, ih]; simp
theorem clean_all (x : Str) (hx : ∀ c ∈ x.cps.toList, c < 128) : ((x.cps.extract 0 x.cps.size).findIdx? asciiCodec.bad).getD (x.cps.extract 0 x.cps.size).size = x.cps.size := by
  have : (x.cps.extract 0 x.cps.size).findIdx? asciiCodec.bad = none := by
    rw [Array.findIdx?_eq_none_iff]
    intro c hc
    have : c ∈ x.cps.toList := by simpa using hc
    have := hx c this
    simp [asciiCodec]; omega
  rw [this]; simp
theorem loop_two {σ : Type} (f : Nat → σ → Sem (ForInStep σ)) (n : Nat) (s0 s1 : σ) (h0 : n = 0 → s0 = s1) (h1 : n ≠ 0 → f 0 s0 = pure (.yield s1)) (h2 : n ≠ 0 → ∀ i, f i s1 = pure (.done s1)) : (forIn [:n] s0 f : Sem σ) = pure s1 := by
  rw [Std.Legacy.Range.forIn_eq_forIn_range']
  induction n using Nat.casesOn with
  | zero => rw [h0 rfl]; rfl
  | succ n =>
    have e : [:n+1].size = n + 1 := by simp [Std.Legacy.Range.size]
    rw [e, List.range'_succ, List.forIn_cons]
    show (f 0 s0 >>= _) = _
    rw [h1 (by lia), pure_bind]
    induction n using Nat.casesOn with
    | zero => rfl
    | succ n =>
      simp only []
      rw [List.range'_succ, List.forIn_cons, h2 (by lia), pure_bind]
theorem out_bytes (l : List Nat) : ((l.toArray.extract 0 l.toArray.size).extract 0 l.toArray.size).foldl (fun acc y => acc ++ (asciiCodec.bytesOf y).toArray) #[] = (l.map fun c => c.toUInt8).toArray := by
  rw [← Array.foldl_toList, foldl_bytes]
  simp only [asciiCodec, Array.toList_extract, List.extract_eq_drop_take, Array.empty_append, Nat.sub_zero, List.drop_zero]
  rw [List.take_of_length_le (by simp), List.take_of_length_le (by simp)]
  exact congrArg List.toArray (by induction l with | nil => rfl | cons a l ih => simpa using ih)
theorem encodeNarrow_ascii (id : String) (self : Value) (x : Str) (hx : ∀ c ∈ x.cps.toList, c < 128) (hz : x.length ≤ 1000000) :
    encodeNarrow id asciiCodec none self x = pure ((x.cps.toList.map fun c => c.toUInt8).toArray) := by
  obtain ⟨⟨l⟩⟩ := x
  have hc := clean_all ⟨⟨l⟩⟩ hx
  have hs : (l.map fun c => c.toUInt8).toArray.size ≤ 1000000 := by rw [List.size_toArray, List.length_map]; exact hz
  unfold encodeNarrow
  refine (congrArg (· >>= _) (loop_two _ _ _ (l.length, (l.map fun c => c.toUInt8).toArray, {}) ?_ ?_ ?_)).trans rfl
  · intro h0
    have : l = [] := List.length_eq_zero_iff.mp h0
    subst this
    rfl
  · intro h0
    induction l using List.casesOn with
    | nil => exact absurd rfl h0
    | cons a l =>
      have hb : asciiCodec.bad a = false := by
        have : a < 128 := hx _ (.head _)
        simp [asciiCodec]; omega
      refine (if_neg (by decide)).trans ((if_pos (by show (!asciiCodec.bad a) = true; rw [hb]; rfl)).trans ?_)
      have e1 : (Array.findIdx? asciiCodec.bad ((a :: l).toArray.extract 0)).getD ((a :: l).toArray.extract 0).size = (a :: l).toArray.size := hc
      show pure (ForInStep.yield (0 + (Array.findIdx? asciiCodec.bad ((a :: l).toArray.extract 0)).getD ((a :: l).toArray.extract 0).size, Array.foldl (fun acc y => acc ++ (asciiCodec.bytesOf y).toArray) #[] (((a :: l).toArray.extract 0).extract 0 ((Array.findIdx? asciiCodec.bad ((a :: l).toArray.extract 0)).getD ((a :: l).toArray.extract 0).size)), _)) = _
      rw [e1, Nat.zero_add, out_bytes]
      rfl
  · intro h0 i
    refine (if_neg (by show ¬ _ > sizeLine; have hsl : 2000000 ≤ sizeLine := by decide
                       lia)).trans ?_
    have e : (({ cps := { toList := l } } : Str).cps)[l.length]? = none := by simp
    simp only [e]
theorem gives_encode_ascii (x : Str) (t u : Tok) (hx : ∀ c ∈ x.cps.toList, c < 128) (hz : x.length ≤ 1000000) :
    Gives (Builtin.«str.encode» ⟨[.str x t, .str ⟨#[97, 115, 99, 105, 105]⟩ u], []⟩) (.bytes ((x.cps.toList.map fun c => c.toUInt8).toArray)) := by
  have e : Builtin.«str.encode» ⟨[.str x t, .str ⟨#[97, 115, 99, 105, 105]⟩ u], []⟩ = (do ret (← encodeRoad "str.encode" (.str x t) x ⟨#[97, 115, 99, 105, 105]⟩ none)) := by
    with_unfolding_all rfl
  have e2 : encodeRoad "str.encode" (.str x t) x ⟨#[97, 115, 99, 105, 105]⟩ none = (do mkBytes (← encodeNarrow "str.encode" asciiCodec none (.str x t) x)) := by
    with_unfolding_all rfl
  rw [e, e2, encodeNarrow_ascii _ _ _ hx hz]
  refine .of_wp fun M A E s Q h => ?_
  exact wpAny_bind (wpAny_mkBytes (wpAny_pure (i12 rfl h.2)) h.1)
end
section
open PySem PySem.W PyProof.Rows PySem.Calls
section
variable {W : Wd} {c : Cx} {ls : Ls} {h : Hp} {news : News'} {s : Shared} {F : PF} {A : Around} {E : Value → Shared → Prop} {QQ : Value → Shared → Prop}
theorem vrs_one {v : V} {l : List Value} (h : VRs W F [v] l) : ∃ v', l = [v'] ∧ VR W F v v' := by
  cases h with | cons a b => cases b; exact (i12 rfl a)
theorem vrs_two {v w : V} {l : List Value} (h : VRs W F [v, w] l) : ∃ v' w', l = [v', w'] ∧ VR W F v v' ∧ VR W F w w' := by
  cases h with | cons a b => obtain ⟨_, rfl, e⟩ := vrs_one b; exact (i23 rfl a e)
theorem Rel.setList (R : Rel W c ls h news s) {a : Nat} {l l' : List V} {vs vs' : List Value} {n n' : Nat} {hh : Heap} (e : h.get a = some (.list l)) (hm : (a, lstO vs n) ∈ news) (hs : Heap.SameBut a s.heap hh) (hg : hh.get? a = some (lstO vs' n'))
    (hr : VRs W (Fx W c h news) l' vs') (tk : Nat) : Rel W c ls (h.set a (.list l')) (updN news a (lstO vs' n')) { s with heap := hh, toks := tk } ∧ Stab (Fx W c h news) (Fx W c (h.set a (.list l')) (updN news a (lstO vs' n'))) :=
  R.change hm e e hs hg rfl (.inl rfl) (fun Z q => by cases q) (fun Z q => by cases q) (fun F' st => .list (updN_self hm) (hr.stab st)) tk
theorem Rel.setDictI (R : Rel W c ls h news s) {a ep : Nat} {es es' : List (V × V)} {o : Obj} {kvs' : List (Int × Value)} {hh : Heap} (e : h.get a = some (.dict ep es)) (hm : (a, o) ∈ news) (hs : Heap.SameBut a s.heap hh) (hg : hh.DictOf (intKind W.prog W.w) a kvs')
    (hr : KVI W (Fx W c h news) es' kvs') (tk : Nat) : ∃ o' ep', Rel W c ls (h.set a (.dict ep' es')) (updN news a o') { s with heap := hh, toks := tk } ∧ Stab (Fx W c h news) (Fx W c (h.set a (.dict ep' es')) (updN news a o')) := by
  refine e12 (Heap.dictOf_iff.mp hg) fun o' ho' hd' => ?_
  have hi : iterO o' = false := by obtain ⟨es, ep, _, h2, _⟩ := hd'; unfold iterO; rw [h2]
  exact ⟨o', epOf o', R.change hm e e hs ho' hi (.inl rfl) (fun Z q => by cases q) (fun Z q => by cases q) (fun F' st => .dictI (updN_self hm) hd' rfl (hr.mono fun Z Z Z q => st _ _ q)) tk⟩
theorem stored_eq {K : Type} [DecidableEq K] {k : K} {u v : Value} {r : List (K × Value)} (hn : k ∉ r.map (·.1)) : stored ((k, u) :: r) k v = (k, v) :: r := by
  unfold stored
  rw [if_pos (by simp)]
  simp only [List.map_cons, if_true]
  congr 1
  conv => rhs; rw [← List.map_id r]
  apply List.map_congr_left
  intro p hp
  have : p.1 ≠ k := fun e => hn (e ▸ List.mem_map_of_mem hp)
  simp [this]
theorem stored_ne {K : Type} [DecidableEq K] {k j : K} {u v : Value} {r : List (K × Value)} (hn : j ≠ k) : stored ((j, u) :: r) k v = (j, u) :: stored r k v := by
  unfold stored
  have : ((j, u) :: r).any (fun kv => decide (kv.1 = k)) = r.any (fun kv => decide (kv.1 = k)) := by simp [hn]
  rw [this]
  split
  · simp [hn]
  · simp
theorem kvi_put {es : List (V × V)} {kvs : List (Int × Value)} (hr : KVI W F es kvs) {i : Int} {v : V} {v' : Value} (hv : VR W F v v') (nd : (kvs.map (·.1)).Nodup) : KVI W F (putI i v es) (stored kvs i v') := by
  induction hr with
  | nil => exact .cons hv .nil
  | @cons j u u' l r hu hr ih =>
    have nd' := List.nodup_cons.mp nd
    show KVI W F (if i = j then (.int j, v) :: l else (.int j, u) :: putI i v l) _
    by_cases e : i = j
    · subst e
      rw [if_pos rfl, stored_eq nd'.1]
      exact .cons hv hr
    · rw [if_neg e, stored_ne (Ne.symm e)]
      exact .cons hu (ih nd'.2)
theorem kvs_put {es : List (V × V)} {kvs : List (Str × Value)} (hr : KVS W F es kvs) {x : Str} {v : V} {v' : Value} (hv : VR W F v v') (nd : (kvs.map (·.1)).Nodup) : KVS W F (putS x.cps.toList v es) (stored kvs x v') := by
  induction hr with
  | nil => exact .cons hv .nil
  | @cons y u u' l r hu hr ih =>
    have nd' := List.nodup_cons.mp nd
    have hy : eqL x.cps.toList y.cps.toList = decide (y = x) := by
      rw [← str_eq_iff rfl rfl, str_beq]; simp [eq_comm]
    show KVS W F (match eqL x.cps.toList y.cps.toList with
      | true => (.str y.cps.toList, v) :: l
      | false => (.str y.cps.toList, u) :: putS x.cps.toList v l) _
    rw [hy]
    by_cases e : y = x
    · subst e
      rw [decide_eq_true rfl, stored_eq nd'.1]
      exact .cons hv hr
    · rw [decide_eq_false e, stored_ne e]
      exact .cons hu (ih nd'.2)
theorem delI_cons {i j : Int} {u : V} {l : List (V × V)} : delI i ((.int j, u) :: l) = if i = j then delI i l else (.int j, u) :: delI i l := by
  show (match !decide (i = j) with | true => (V.int j, u) :: delI i l | false => delI i l) = _
  by_cases e : i = j
  · rw [decide_eq_true e, if_pos e]; rfl
  · rw [decide_eq_false e, if_neg e]; rfl
theorem without_cons {i j : Int} {u : Value} {l : List (Int × Value)} : without ((j, u) :: l) i = if i = j then without l i else (j, u) :: without l i := by
  show (match decide (j ≠ i) with | true => (j, u) :: without l i | false => without l i) = _
  by_cases e : i = j
  · rw [decide_eq_false (fun q => q e.symm), if_pos e]
  · rw [decide_eq_true (Ne.symm e), if_neg e]
theorem kvi_del {es : List (V × V)} {kvs : List (Int × Value)} (hr : KVI W F es kvs) (i : Int) : KVI W F (delI i es) (without kvs i) := by
  induction hr with
  | nil => exact .nil
  | @cons j u u' l r hu hr ih =>
    rw [delI_cons, without_cons]
    by_cases e : i = j
    · rw [if_pos e, if_pos e]; exact ih
    · rw [if_neg e, if_neg e]; exact .cons hu ih
theorem stored_keys {K : Type} [DecidableEq K] {kvs : List (K × Value)} {k : K} {v : Value} (nd : (kvs.map (·.1)).Nodup) : ((stored kvs k v).map (·.1)).Nodup := by
  induction kvs with
  | nil => simp [stored]
  | cons p r ih =>
    obtain ⟨j, u⟩ := p
    have nd' := List.nodup_cons.mp nd
    by_cases e : j = k
    · subst e
      rw [stored_eq nd'.1]
      exact nd
    · rw [stored_ne e, List.map_cons, List.nodup_cons]
      refine ⟨?_, ih nd'.2⟩
      intro hm
      have : ∀ x, x ∈ (stored r k v).map (·.1) → x ∈ r.map (·.1) ∨ x = k := by
        intro x hx
        unfold stored at hx
        split at hx
        · left
          refine e12 (List.mem_map.mp hx) fun p hp eq1 => ?_
          subst eq1
          refine e12 (List.mem_map.mp hp) fun q hq eq1 => ?_
          subst eq1
          have : (if q.1 = k then (q.1, v) else q).1 = q.1 := by split <;> rfl
          rw [this]; exact List.mem_map_of_mem hq
        · simp only [List.map_append, List.map_cons, List.map_nil, List.mem_append, List.mem_singleton] at hx
          exact hx
      rcases this _ hm with q | q
      · exact nd'.1 q
      · exact e q
theorem kvi_putAll {fs : List (V × V)} {more : List (Int × Value)} (hm : KVI W F fs more) : ∀ {es es' : List (V × V)} {kvs : List (Int × Value)}, KVI W F es kvs → (kvs.map (·.1)).Nodup → putAll fs es = some es' → KVI W F es' (merged kvs more) := by
  induction hm with
  | nil => exact fun h Z e => Option.some.inj e ▸ h
  | cons hv hr ih => exact fun h nd e => ih (kvi_put h hv nd) (stored_keys nd) e
theorem KVI.length {es : List (V × V)} {kvs : List (Int × Value)} (h : KVI W F es kvs) : es.length = kvs.length := by
  induction h with
  | nil => rfl
  | cons _ _ ih => simp [ih]
theorem KVS.length {es : List (V × V)} {kvs : List (Str × Value)} (h : KVS W F es kvs) : es.length = kvs.length := by
  induction h with
  | nil => rfl
  | cons _ _ ih => simp [ih]
theorem DictOf.nodup {prog : Program} {w : World} {K : Type} [DecidableEq K] {knd : KeyKind prog w K} {hh : Heap} {a : Addr} {kvs : List (K × Value)} (h : hh.DictOf knd a kvs) : (kvs.map (·.1)).Nodup := by
  refine e36 h fun Z Z Z Z Z Z Z Z n => ?_
  clear h
  exact n
theorem strsOf_are {l : List V} {vs : List Value} (h : VRs W F l vs) : ∀ {ss : List (List Nat)}, strsOf l = some ss → ∃ ys : List Str, StrsAre vs ys ∧ ys.map (·.cps.toList) = ss :=
  h.ind (P := fun l vs => ∀ {ss : List (List Nat)}, strsOf l = some ss → ∃ ys : List Str, StrsAre vs ys ∧ ys.map (·.cps.toList) = ss) (fun e => ⟨[], .nil, Option.some.inj e⟩) fun ha Z ih ss e => by
    refine e12 (Option.bind_eq_some_iff.mp e) fun x e1 e2 => e12 (Option.map_eq_some_iff.mp e2) fun ss' q eq1 => e12 (ih q) fun ys h1 h2 => ?_
    rw [isS_inv e1] at ha
    refine strE ha fun y t hy => ?_
    exact ⟨y :: ys, .cons y t h1, by rw [← eq1, ← hy, ← h2]; rfl⟩
theorem glued_nil (x : Str) (hx : x.cps.toList = []) (ys : List Str) : (Txt.join x ys).cps.toList = (ys.map (·.cps.toList)).flatten := by
  have e : x.cps = #[] := by simpa using hx
  unfold Txt.join Builtin.Str.glued
  have fl : ∀ (l : List Str) (acc : Array Nat), (l.foldl (fun acc p => acc ++ x.cps ++ p.cps) acc).toList = acc.toList ++ (l.map (·.cps.toList)).flatten := by
    intro l
    induction l with
    | nil => intro acc; simp
    | cons p l ih => intro acc; rw [List.foldl_cons, ih]; simp [e]
  induction ys using List.casesOn with
  | nil => rfl
  | cons p l => simp only [List.drop_one, List.tail_cons, List.headD_cons]; rw [fl]; simp
noncomputable def mrF (r : MR) (f : Value) : Prop := match r with
  | .own _ => True
  | .app => f = .builtin "list.append"
  | .lpop => f = .builtin "list.pop"
  | .get => f = .builtin "dict.get"
  | .dpop => f = .builtin "dict.pop"
  | .upd => f = .builtin "dict.update"
  | .join => f = .builtin "str.join"
  | .enc => f = .builtin "str.encode"
theorem MRv.inv {r : MR} {f : Value} {l : List Value} (h : MRv W r f l) : mrF r f :=
  MRv.casesOn (motive := fun r f Z Z => mrF r f) h (fun Z Z Z => trivial) (fun Z => rfl) (fun Z => rfl) (fun Z => rfl) (fun Z => rfl) (fun Z => rfl) (fun Z => rfl) (fun Z => rfl)
theorem drop_erase {vs : List Value} (h : 0 < vs.length) (n : Nat) : Obj.mapSeq (fun xs => xs.eraseIdxIfInBounds (vs.toArray.size - 1)) (lstO vs n) = lstO vs.dropLast (n + 1) := by
  have e3 : vs.toArray.eraseIdxIfInBounds (vs.toArray.size - 1) = vs.dropLast.toArray := by
    apply Array.toList_inj.mp
    have h4 : vs.length - 1 < vs.length := by lia
    simp [Array.eraseIdxIfInBounds, h4, List.eraseIdx_length_sub_one]
  simp only [Obj.mapSeq, e3]
  have : ¬ (vs.dropLast.toArray.size == vs.toArray.size) = true := by simp; lia
  rw [if_neg this]
theorem sum_flat {ys : List Str} {ss : List (List Nat)} (h : ys.map (·.cps.toList) = ss) : (ys.map (·.length)).sum = ss.flatten.length := by
  rw [← h]
  clear h
  induction ys with
  | nil => rfl
  | cons y r ih => simp only [List.map_cons, List.sum_cons, List.flatten_cons, List.length_append, ih]; rfl
theorem asc_bytes {l : List Nat} (h : ∀ c ∈ l, c < 128) : (((l.map fun c => c.toUInt8).toArray).toList.map UInt8.toNat) = l := by
  simp only [List.map_map]
  conv => rhs; rw [← List.map_id l]
  refine List.map_congr_left fun c hc => ?_
  have : c < 128 := h c hc
  simp; lia
theorem big_size {n : Nat} (h : small n) : n ≤ sizeLine := Nat.le_trans h (Nat.le_trans (by decide) sizeLine_ge)
theorem sMethCall {r : MR} {o : V} {args : List V} {o' : Value} {args' : List Value} {f : Value} {C : Calls} {k : KE} (R : Rel W c ls h news s) (G : Good W c) (hmr : MRv W r f [o']) (ho : VR W (Fx W c h news) o o') (ha : VRs W (Fx W c h news) args args') (hno : ∀ f, r ≠ .own f)
    (hk0 : dMeth C r o args h k)
    (q : ∀ v v' h' news' s', k v h' → VR W (Fx W c h' news') v v' → Rel W c ls h' news' s' → Stab (Fx W c h news) (Fx W c h' news') → QQ v' s') : wpAny (model W.prog W.w) A (call f ([o'] ++ args')) QQ E s := by
  have hf := hmr.inv
  clear hmr
  induction r using MR.casesOn with
  | own f => exact absurd rfl (hno _)
  | app =>
    rw [show f = _ from hf]
    refine refV hk0 ho fun a hk => on1V hk ha fun v v' hk h1 => e12 (rdList hk) fun l e1 hk => e23 (R.listAt e1) fun vs n m1 r1 i1 => ?_
    refine append_at (R.at m1) (fun hh hs hg => ?_) (by rw [List.size_toArray, ← r1.length]; exact big_size hk.need)
    rw [List.push_toArray] at hg
    exact e02 (R.setList e1 m1 hs hg (r1.append (.one h1)) s.toks) fun R' st => q _ _ _ _ _ hk.out .none R' st
  | lpop =>
    rw [show f = _ from hf]
    refine refV hk0 ho fun a hk => nilV hk ha fun hk => e12 (rdList hk) fun l e1 hk => e23 (R.listAt e1) fun vs n m1 r1 i1 => ?_
    have hz := hk.need
    obtain ⟨v, e, hk⟩ := hk.out
    have hlen := r1.length
    rw [List.getLast?_eq_getElem?] at e
    refine e12 (r1.get e) fun v' e' hv => ?_
    have hpos : 0 < vs.length := Nat.lt_of_le_of_lt (Nat.zero_le _) (List.getElem?_eq_some_iff.mp e').1
    have e2 : vs.toArray[vs.toArray.size - 1]? = some v' := by rw [List.size_toArray, List.getElem?_toArray, ← hlen]; exact e'
    refine call_meets (T := "list") F.slot_list_pop i1.typeIs F.entry_list_pop (F.args_list_pop_1 _) (MeetsSeq.list_pop_last a vs.toArray n v' e2 (by rw [List.size_toArray, ← hlen]; exact big_size hz)) ⟨R.at m1, ?_⟩
    have hg : (s.heap.update a (Obj.mapSeq fun xs => xs.eraseIdxIfInBounds (vs.toArray.size - 1))).get? a = some (lstO vs.dropLast (n + 1)) :=
      drop_erase hpos n ▸ Heap.get?_update_self _ (R.at m1) (by rw [drop_erase hpos n]; rfl)
    have hd : VRs W (Fx W c h news) l.dropLast vs.dropLast := by rw [List.dropLast_eq_take, List.dropLast_eq_take, ← hlen]; exact r1.take _
    exact e02 (R.setList e1 m1 (Heap.SameBut.update ..) hg hd s.toks) fun R' st => q _ _ _ _ _ hk (hv.stab st) R' st
  | get =>
    rw [show f = _ from hf]
    refine refV hk0 ho fun a hk => consV hk ha fun i r i' r' hk h1 hr => e22 (rdDict hk) fun ep es e1 hk => ?_
    induction r using List.casesOn with
    | nil =>
      refine nilE hr ?_
      induction i using V.casesOn with
      | int i =>
        refine intE h1 fun u => e24 (R.dictI e1 hk.need) fun o kvs hm hd hr hD => ?_
        refine call_meetsIn (T := "dict") F.slot_dict_get hD.typeIs F.entry_dict_get (F.args_dict_get_2 _ _) (meets_dict_get (intKind W.prog W.w) _ (intKind_is _ _ _ _) (G.mini_gt R hm)) ⟨_, hD.mapOf, ?_⟩
        obtain ⟨v, ev, hk⟩ := hk.out
        rw [← ev] at hk
        refine Or.elim (lookI_kvi hr i) (fun e => ?_) fun e => e23 e fun v v' e2 e3 hv => ?_
        · rw [e.2]; rw [e.1] at hk; exact q _ _ _ _ _ hk .none (R.tok _) .refl
        · rw [e3]; rw [e2] at hk; exact q _ _ _ _ _ hk hv (R.tok _) .refl
      | str x =>
        refine strE h1 fun x u hx => e24 (R.dictS e1 hk.need) fun o kvs hm hd hr hD => ?_
        refine call_meetsIn (T := "dict") F.slot_dict_get hD.typeIs F.entry_dict_get (F.args_dict_get_2 _ _) (meets_dict_get (strKind W.prog W.w) _ (strKind_is _ _ _ _) (G.mini_gt R hm)) ⟨_, hD.mapOf, ?_⟩
        have hk := hk.out
        rw [← hx] at hk
        refine Or.elim (lookS_kvs hr x) (fun e => ?_) fun e => e23 e fun v v' e2 e3 hv => ?_
        · rw [e.2]; rw [e.1] at hk; exact q _ _ _ _ _ hk .none (R.tok _) .refl
        · rw [e3]; rw [e2] at hk; exact q _ _ _ _ _ hk hv (R.tok _) .refl
      | _ => exact hk.elim
    | cons d r =>
      refine consE hr fun d' r' h3 hr => e02 (onNil_inv hk) fun er hk => ?_
      rw [er] at hr
      refine nilE hr (intV hk h1 fun j u hk => e24 (R.dictI e1 hk.need) fun o kvs hm hd hr hD => ?_)
      refine call_meetsIn (T := "dict") F.slot_dict_get hD.typeIs F.entry_dict_get (F.args_dict_get_3 _ _ _) (meets_dict_get_default (intKind W.prog W.w) _ (intKind_is _ _ _ _) (G.mini_gt R hm) _) ⟨_, hD.mapOf, ?_⟩
      obtain ⟨v, ev, hk⟩ := hk.out
      rw [← ev] at hk
      refine Or.elim (lookI_kvi hr j) (fun e => ?_) fun e => e23 e fun v v' e2 e3 hv => ?_
      · rw [e.2]; rw [e.1] at hk; exact q _ _ _ _ _ hk h3 (R.tok _) .refl
      · rw [e3]; rw [e2] at hk; exact q _ _ _ _ _ hk hv (R.tok _) .refl
  | dpop =>
    rw [show f = _ from hf]
    refine refV hk0 ho fun a hk => on1V hk ha fun v0 v1 hk h1 => intV hk h1 fun i u hk => e22 (rdDict hk) fun ep es e1 hk => e24 (R.dictI e1 hk.need.1) fun o kvs hm hd hr hD => ?_
    have hz := hk.need.2
    obtain ⟨v, e, hk⟩ := hk.out
    refine Or.elim (lookI_kvi hr _) (fun e0 => absurd (e0.1.symm.trans e) (by simp)) fun e0 => e23 e0 fun w v' e2 e3 hv => ?_
    have ew : w = v := Option.some.inj (e2.symm.trans e)
    refine call_meetsIn (T := "dict") F.slot_dict_pop hD.typeIs F.entry_dict_pop (F.args_dict_pop_2 _ _) (meets_dict_pop_there (intKind W.prog W.w) _ (intKind_is _ _ _ _) [] (.inl rfl) rfl) ⟨kvs, v', hD, (hr.length ▸ big_size hz : _), e3, fun hh hdd hs => ?_⟩
    exact e22 (R.setDictI e1 hm hs hdd (kvi_del hr _) (s.toks + 1)) fun o' ep' R' st => q _ _ _ _ _ (hk _) (ew ▸ hv.stab st) R' st
  | upd =>
    rw [show f = _ from hf]
    refine refV hk0 ho fun a hk => on1V hk ha fun v0 v1 hk h1 => refV hk h1 fun b hk => e22 (rdDict hk) fun ep es e1 hk => e22 (rdDict hk) fun ep2 fs e2 hk => ?_
    refine e24 (R.dictI e1 hk.need.1) fun o kvs hm hd hr hD => e24 (R.dictI e2 hk.need.2.1) fun o2 kvs2 hm2 hd2 hr2 hD2 => ?_
    have hz := hk.need.2.2.1
    have hab := hk.need.2.2.2
    obtain ⟨es', e, hk⟩ := hk.out
    refine call_meetsIn (T := "dict") F.slot_dict_update hD.typeIs F.entry_dict_update (F.args_dict_update_2 _ _) (meets_dict_update (intKind W.prog W.w) _ _ hab (G.mini_gt R hm2)) ⟨kvs, kvs2, hD, hD2, (hr.length ▸ hr2.length ▸ big_size hz : _), fun hh hdd Z hs => ?_⟩
    exact e22 (R.setDictI e1 hm hs hdd (kvi_putAll hr2 hr (DictOf.nodup hD) e) s.toks) fun o' ep' R' st => q _ _ _ _ _ (hk _) .none R' st
  | join =>
    rw [show f = _ from hf]
    refine strV hk0 ho fun x0 x t hx hk => on1V hk ha fun v0 v1 hk h1 => refV hk h1 fun b hk => e12 (rdList hk) fun l e1 hk => e23 (R.listAt e1) fun vs n m1 r1 i1 => ?_
    obtain ⟨ss, e, hk⟩ := hk
    refine e12 (strsOf_are r1 e) fun ys hy1 hy2 => ?_
    have e0 : x.length = 0 := by rw [str_len hx, hk.need.1]; rfl
    have hz := hk.need.2.1
    have hz2 := hk.need.2.2
    unfold small at hz hz2
    have hsz := sizeLine_ge
    have e1 := sum_flat hy2
    have hlen := r1.length
    exact join_list i1 (by simpa using hy1) (by rw [e1, e0]; lia) (fun t' k' => q _ _ _ _ _ hk.out (vr_mkStr' (by rw [glued_nil x (by rw [hx, hk.need.1]), hy2]) _) (R.tok _) .refl)
  | enc =>
    rw [show f = _ from hf]
    refine strV hk0 ho fun x0 x t hx hk => on1V hk ha fun v0 v1 hk h1 => strV hk h1 fun y0 y u hy hk => ?_
    have hc : y = ⟨#[97, 115, 99, 105, 105]⟩ := by rw [str_of hy, hk.need.1]
    have hz : x0.length ≤ 1000000 := hk.need.2.1
    have h128 := hk.need.2.2
    rw [hc]
    rw [← hx] at h128
    have hl : x.length = x.cps.toList.length := rfl
    have hsz := sizeLine_ge
    refine call_gives PySem.F.slot_str_encode (typeIs_str _ _ _) PySem.F.entry_str_encode (PySem.F.args_str_encode_2 _ _) (gives_encode_ascii x t u h128 (by rw [hl, hx]; lia)) ⟨?_, ?_⟩
    · have : x.cps.size = x.cps.toList.length := by simp
      simp; rw [this, hx]; lia
    · refine q _ _ _ _ _ hk.out ?_ (R.tok _) .refl
      have key := VR.bytes (W := W) (F := Fx W c h news) (x.cps.toList.map fun c => c.toUInt8).toArray s.toks
      rw [asc_bytes h128] at key
      rw [← hx]; exact key
end
end
section
open PySem PySem.W PyProof.Rows PySem.Calls
section
variable {W : Wd} {c : Cx} {ls : Ls} {h : Hp} {news : News'} {s : Shared} {F : PF} {A : Around} {E : Value → Shared → Prop} {QQ : Value → Shared → Prop}
theorem Rel.kept (R : Rel W c ls h news s) {hh : Heap} (hk : ∀ b o, s.heap.get? b = some o → hh.get? b = some o) (tk : Nat) : Rel W c ls h news { s with heap := hh, toks := tk } := by
  refine e12 (R.fr) fun m F L => ?_
  exact (R.grown (new := []) (m := m) L (F.keeps hk) (fun p hp => ⟨hk _ _ (R.nw p hp).1, (R.nw p hp).2⟩) tk).1
theorem Rel.topD (R : Rel W c ls h news s) {D : Addr} (hD : ∀ b o, s.heap.get? b = some o → b < D) : h.top ≤ D := by
  rcases R.top with ⟨b, vs, n, _, e, l⟩ | ⟨_, _, e, l, _⟩
  · exact Nat.le_trans l (hD _ _ (R.keep _ _ e))
  · exact Nat.le_trans l (hD _ _ (R.at e))
theorem Rel.makes (R : Rel W c ls h news s) {D : Addr} {ob : Obj} {o : O} {hh : Heap} (hk : ∀ b o, s.heap.get? b = some o → hh.get? b = some o) (hD : ∀ b o, s.heap.get? b = some o → b < D) (hg : hh.get? D = some ob) (hi : iterO ob = false)
    (hor : ∀ news' F', (D, ob) ∈ news' → Stab (Fx W c h news) F' → OR W F' news' (h.add D o).get D o) (tk : Nat) (hnh : ∀ y, o ≠ .hid y := by intro _ q; cases q) :
    Rel W c ls (h.add D o) ((D, ob) :: news) { s with heap := hh, toks := tk } ∧ Stab (Fx W c h news) (Fx W c (h.add D o) ((D, ob) :: news)) := by
  refine e12 (R.fr) fun m F L => ?_
  have hn := R.noneAt (R.topD hD)
  have hlt : ∀ {b x}, (b, x) ∈ news → b ≠ D := fun hm => Nat.ne_of_lt (hD _ _ (R.at hm))
  have hs : Stab (Fx W c h news) (Fx W c (h.add D o) ((D, ob) :: news)) := fun b x hx => hx.imp (fun z => e03 z fun p q r => ⟨.tail _ p, by
    rw [Hp.add_get, if_neg (hlt p)]; exact q, r⟩) id
  have hgg : ∀ x y, h.get x = some y → (h.add D o).get x = some y := fun x y e => by
    rw [Hp.add_get, if_neg (fun q => by rw [q, hn] at e; cases e)]; exact e
  have F' := F.keeps hk
  have hDL : D ≠ c.L := by
    refine e32 (F.ns) fun oL Z Z hL Z => ?_
    exact fun e => Nat.lt_irrefl _ (e ▸ hD _ _ hL)
  have hD0 : c.h₀.get? D = none := by
    cases e : c.h₀.get? D with
    | none => rfl
    | some x => exact absurd (hD _ _ (F.keep _ _ e)) (Nat.lt_irrefl _)
  refine ⟨⟨⟨m, F', L.grow (fun Z Z Z => hs _ _) fun Z hp => .tail _ hp⟩, fun p hp => ?_, fun b x e => ?_, .inr ⟨D, ob, .head _, Nat.le_refl _, hi, fun hC => by obtain ⟨_, o', hm⟩ := R.ex _ hC; exact absurd (hD _ _ (R.at hm)) (Nat.lt_irrefl _)⟩, fun b x e => ?_, fun b hb => ?_, fun x b hb => ?_, R.nx, R.gens, R.drawn, R.os, Hp.hid_add hnh R.hid⟩, hs⟩
  · rcases List.mem_cons.mp hp with rfl | hp
    · exact ⟨hg, hDL, hD0⟩
    · exact ⟨hk _ _ (R.nw p hp).1, (R.nw p hp).2⟩
  · by_cases hb : b = D
    · subst hb
      rw [Hp.add_get, if_pos rfl] at e; cases e; exact hor _ _ (.head _) hs
    · rw [Hp.add_get, if_neg hb] at e
      exact (R.hp b x e).grow (fun Z Z Z => hs _ _) (fun Z hp => .tail _ hp) (fun Z Z Z hp => .tail _ hp) (fun x e => hgg x _ e)
  · show b < D + 1
    rw [Hp.add_get] at e
    split at e
    · lia
    · have := R.dom _ _ e
      have := R.topD hD
      lia
  · obtain ⟨e, o', hm⟩ := R.ex b hb
    exact ⟨by rw [Hp.add_get, if_neg (hlt hm)]; exact e, o', .tail _ hm⟩
  · obtain ⟨e, o', v, hm, hd⟩ := R.cl x b hb
    exact ⟨e, o', v, .tail _ hm, hd⟩
theorem srt_ints {a : Addr} {vs : List Value} {ns : List Int} {n : Nat} {Q : Value → Shared → Prop} (ho : s.heap.get? a = some (lstO vs n)) (hI : IntsAre vs ns) (h64 : ns.length < 64)
    (q : ∀ vs' ns' c, IntsAre vs' ns' → ns'.Perm ns → ns'.Pairwise (· ≤ ·) → ∀ hh : Heap, (∀ b o, b ≠ a → s.heap.get? b = some o → hh.get? b = some o) → hh.get? a = some (lstO vs' c) → Q .none { s with heap := hh }) :
    wpAny (model W.prog W.w) A (call (.builtin "list.sort") [.ref a]) Q E s := by
  have hlen := hI.length
  have ho' : s.heap.get? a = some (seqObj "list" vs.toArray n) := ho
  refine wpAny_call_entry PyProof.Rows.slot_list_sort (i12 ho rfl) PyProof.Rows.entry_list_sort (list_sort_tree (n := n) (vs := vs) ho' hI (by lia) fun out ns' hI' hp hP => ⟨.none, rfl, ?_⟩) (PyProof.Rows.args_list_sort _)
  refine e11 (sortedHeap_at (vs := vs) (out := out) ho') fun c hc => ?_
  exact q out.toList ns' c hI' hp hP _ (fun b o hb e => (sortedHeap_old hb (Heap.lt_size e)).trans e) (by simpa [seqObj] using hc)
theorem srt_strs {a : Addr} {vs : List Value} {ss : List Str} {n : Nat} {Q : Value → Shared → Prop} (ho : s.heap.get? a = some (lstO vs n)) (hS : StrsAre vs ss) (h64 : vs.length < 64)
    (q : ∀ vs' ss' c, StrsAre vs' ss' → ss'.Perm ss → PyProof.Rows.sortedS ss' = true → ∀ hh : Heap, (∀ b o, b ≠ a → s.heap.get? b = some o → hh.get? b = some o) → hh.get? a = some (lstO vs' c) → Q .none { s with heap := hh }) :
    wpAny (model W.prog W.w) A (call (.builtin "list.sort") [.ref a]) Q E s := by
  have ho' : s.heap.get? a = some (seqObj "list" vs.toArray n) := ho
  refine wpAny_call_entry PyProof.Rows.slot_list_sort (i12 ho rfl) PyProof.Rows.entry_list_sort (list_sort_treeK (κ := PyProof.Rows.strKind) PyProof.Rows.strKind_oneLt (n := n) (vs := vs) ho' hS.keysOf (fun v₁ v₂ rest e => keyKind_strs (by rw [← e]; exact hS)) h64 fun st' hp hs => ⟨.none, rfl, ?_⟩) (PyProof.Rows.args_list_sort _)
  refine e13 (sorted_out_str hS hp hs) fun ss' h1 h2 h3 => ?_
  refine e11 (sortedHeap_at (vs := vs) (out := (arrOf st').map (·.2)) ho') fun c hc => ?_
  exact q ((arrOf st').map (·.2)).toList ss' c h1 h2 h3 _ (fun b o hb e => (sortedHeap_old hb (Heap.lt_size e)).trans e) hc
theorem sorted_dict {K : Type} [DecidableEq K] {knd : KeyKind W.prog W.w K} {d : Addr} {kvs : List (K × Value)} {Q : Value → Shared → Prop} (hd : s.heap.DictOf knd d kvs) (hlo : (d == sysModules) = false) (hh : A.handled = none) (hn : kvs.length ≤ sizeLine)
    (q : ∀ (h' : Heap) (tk : Nat) (vs : List Value), (∀ b o, s.heap.get? b = some o → h'.get? b = some o) → vs.length = kvs.length → (∀ (j : Nat) (v : Value), vs[j]? = some v → ∃ k x, kvs[j]? = some (k, x) ∧ knd.is k v = true) →
      wpAny (model W.prog W.w) A.in1 (call (.builtin "list.sort") [.ref h'.objs.size]) (fun Z s' => Q (.ref h'.objs.size) s') E { s with heap := h'.push (lstO vs 0), toks := tk }) :
    wpAny (model W.prog W.w) A (call (.builtin "sorted") [.ref d]) Q E s := by
  refine e11 (hd.dictAt) fun ep hat => ?_
  refine call_function_entry kind_sorted plain_sorted entry_sorted (args_sorted1 _) ?_
  unfold Builtin.«sorted»
  refine wpAny_bind (m := checkCount "sorted" 1 1 _) (wpAny_pure ?_)
  refine wpAny_bind (kdu_collect (A := A.in1) (kdl_dict (knd := knd) (kvs := kvs) (ep := ep) hlo) hh hat hn fun h' tk acc hk hacc => ?_)
  have hl : acc.toList.length = kvs.length := by rw [Array.length_toList]; exact hacc.1
  refine wpAny_bind (wpAny_newList ?_ (by rw [hl]; exact hn))
  refine wpAny_bind (wpAny_holding (wpAny_mono (q h' tk acc.toList hk hl fun j v e => hacc.2 j v (by rw [← Array.getElem?_toList]; exact e)) (fun Z s' x => ?_) fun Z Z e => e))
  exact wpAny_pure (i12 rfl x)
theorem intsAre_keys {kvs : List (Int × Value)} : ∀ {vs : List Value}, vs.length = kvs.length → (∀ (j : Nat) (v : Value), vs[j]? = some v → ∃ k x, kvs[j]? = some (k, x) ∧ (intKind W.prog W.w).is k v = true) → IntsAre vs (kvs.map (·.1)) := by
  induction kvs with
  | nil => intro vs h Z; rw [List.length_eq_zero_iff.mp h]; exact .nil
  | cons p kvs ih =>
    intro vs h hv
    induction vs using List.casesOn with
    | nil => exact Nat.noConfusion h
    | cons v vs =>
      refine e22 (hv 0 v rfl) fun k x e q => ?_
      refine e11 (Value.isInt_shape (k := p.1) (show Value.isInt p.1 v = true by rw [congrArg Prod.fst (Option.some.inj e)]; exact q)) fun t ev => ?_
      rw [ev]
      exact .cons p.1 t (ih (Nat.succ.inj h) fun j v e => hv (j + 1) v e)
theorem insI_perm (i : Int) (l : List Int) : (insI i l).Perm (i :: l) := by
  induction l with
  | nil => exact .refl _
  | cons j l ih =>
    show (if i ≤ j then i :: j :: l else j :: insI i l).Perm _
    by_cases h : i ≤ j
    · rw [if_pos h]
    · rw [if_neg h]; exact (ih.cons j).trans (.swap i j l)
theorem sortI_perm (l : List Int) : (sortI l).Perm l := by
  induction l with
  | nil => exact .refl _
  | cons i l ih => exact (insI_perm i _).trans (ih.cons i)
theorem insI_sorted (i : Int) {l : List Int} (h : l.Pairwise (· ≤ ·)) : (insI i l).Pairwise (· ≤ ·) := by
  induction l with
  | nil => exact List.pairwise_singleton ..
  | cons j l ih =>
    refine e02 (List.pairwise_cons.mp h) fun h1 h2 => ?_
    show (if i ≤ j then i :: j :: l else j :: insI i l).Pairwise _
    by_cases q : i ≤ j
    · rw [if_pos q]
      exact List.pairwise_cons.mpr ⟨fun x hx => Or.elim (List.mem_cons.mp hx) (fun e => e ▸ q) fun hx => Int.le_trans q (h1 x hx), h⟩
    · rw [if_neg q]
      exact List.pairwise_cons.mpr ⟨fun x hx => Or.elim (List.mem_cons.mp ((insI_perm i l).mem_iff.mp hx)) (fun e => e ▸ Int.le_of_lt (Int.not_le.mp q)) (h1 x), ih h2⟩
theorem sortI_sorted (l : List Int) : (sortI l).Pairwise (· ≤ ·) := by
  induction l with
  | nil => exact .nil
  | cons i l ih => exact insI_sorted i ih
theorem sort_unique {l m : List Int} (p : l.Perm m) (hl : l.Pairwise (· ≤ ·)) (hm : m.Pairwise (· ≤ ·)) : l = m :=
  p.eq_of_pairwise (fun a b Z Z h1 h2 => Int.le_antisymm h1 h2) hl hm
theorem vrs_ints {vs : List Value} {ns : List Int} (h : IntsAre vs ns) : VRs W F (ns.map .int) vs := by
  induction h with
  | nil => exact .nil
  | cons n t _ ih => exact .cons (.int n t) ih
theorem digitChar_nat : ∀ d, d < 10 → (Nat.digitChar d).toNat = 48 + d := by decide
theorem decT_digits (f : Nat) : ∀ (n : Nat) (acc : List Nat), n < 10 ^ f → f ≠ 0 → decT f n acc = (Nat.toDigits 10 n).map Char.toNat ++ acc := by
  induction f with
  | zero => exact fun Z Z Z h => absurd rfl h
  | succ f ih =>
    intro n acc hn Z
    show (if n < 10 then (48 + n) :: acc else decT f (n / 10) ((48 + n % 10) :: acc)) = _
    by_cases h : n < 10
    · rw [if_pos h, Nat.toDigits_of_lt_base h]
      simp [digitChar_nat n h]
    · rw [if_neg h]
      have h10 : 10 ≤ n := Nat.le_of_not_lt h
      have hf : f ≠ 0 := by rintro rfl; simp at hn; lia
      rw [ih (n / 10) _ (by rw [Nat.pow_succ] at hn; lia) hf, Nat.toDigits_of_base_le (by decide) h10]
      simp [digitChar_nat (n % 10) (Nat.mod_lt _ (by decide))]
theorem decText_str {n : Nat} (h : n < 10000) : (Str.ofString (toString (n : Int))).cps.toList = decText n := by
  unfold decText
  rw [decT_digits 4 n [] h (by decide)]
  show (Str.ofString (Nat.repr n)).cps.toList = _
  rw [Str.ofString_eq_toList]
  simp [Nat.repr]
end
end
section
open PySem PySem.W PyProof.Rows PySem.Calls
noncomputable def isiT : List String := ["int", "NoneType", "list", "dict"]
structure IsiOk (W : Wd) : Prop where
  own : ∀ c ci, W.pr.ci c = some ci → findIn W.K (.ref (W.tb.clA c)) "__class__" = some (some (.builtin "object.__class__")) ∧ mroIn W.K (W.tb.clA c) (.type "object") = some true
  get : specialIn W.K (.builtin "object.__class__") "__get__" = some (some (.builtin "getset_descriptor.__get__"))
  takes : takesIn W.K (.builtin "object.__class__") = some true
  cc : ∀ c ci d, W.pr.ci c = some ci → d ∈ W.pr.isi → kitOne W.K (.ref (W.tb.clA c)) (.ref (W.tb.clA d)) = some (Nat.beq c d)
  cb : ∀ c ci, W.pr.ci c = some ci → kitOne W.K (.ref (W.tb.clA c)) (.type "int") = some false ∧ kitOne W.K (.ref (W.tb.clA c)) (.type "bool") = some false ∧ kitOne W.K (.ref (W.tb.clA c)) (.type "list") = some false ∧ kitOne W.K (.ref (W.tb.clA c)) (.type "dict") = some false
  tc : ∀ T ∈ isiT, ∀ d ∈ W.pr.isi, kitOne W.K (.type T) (.ref (W.tb.clA d)) = some false
  tb : ∀ T ∈ isiT, kitOne W.K (.type T) (.type "int") = some (T == "int") ∧ kitOne W.K (.type T) (.type "bool") = some false ∧ kitOne W.K (.type T) (.type "list") = some (T == "list") ∧ kitOne W.K (.type T) (.type "dict") = some (T == "dict")
section
variable {W : Wd} {c : Cx} {ls : Ls} {h : Hp} {news : News'} {s : Shared} {F : PF} {A : Around} {E : Value → Shared → Prop} {QQ : Value → Shared → Prop}
theorem memN_mem {c : Nat} {l : List Nat} : memN c l = true → c ∈ l := by
  induction l with
  | nil => exact fun e => Bool.noConfusion e
  | cons d r ih => exact fun e => Or.elim ((Bool.or_eq_true _ _).mp e) (fun q => by rw [Nat.eq_of_beq_eq_true q]; exact .head _) fun q => .tail _ (ih q)
noncomputable def icVal (W : Wd) : IC → Value
  | .cls d => .ref (W.tb.clA d)
  | .int => .type "int"
  | .bool => .type "bool"
  | .list => .type "list"
  | .dict => .type "dict"
noncomputable def IC.isT (ic : IC) (T : String) : Bool := match ic with
  | .int => T == "int"
  | .list => T == "list"
  | .dict => T == "dict"
  | _ => false
theorem isT_list (ic : IC) : ic.isT "list" = ic.isList := by induction ic using IC.casesOn <;> rfl
theorem isT_dict (ic : IC) : ic.isT "dict" = ic.isDict := by induction ic using IC.casesOn <;> rfl
theorem isT_int (ic : IC) : ic.isT "int" = ic.isInt := by induction ic using IC.casesOn <;> rfl
theorem isT_none (ic : IC) : ic.isT "NoneType" = false := by induction ic using IC.casesOn <;> rfl
theorem icB_val {b : BI} {ic : IC} (e : icB b = some ic) : biVal b = icVal W ic ∧ ∀ d, ic ≠ .cls d := by
  induction b using BI.casesOn <;> first | exact none_ne e | (cases e; exact ⟨rfl, fun d q => by cases q⟩)
theorem ic_val {v : V} {v' : Value} {ic : IC} (h : VR W F v v') (e : icOf W.pr v = some ic) : v' = icVal W ic ∧ ∀ d, ic = .cls d → d ∈ W.pr.isi := by
  induction v using V.casesOn with
  | cls c0 =>
    cases h
    cases q : memN c0 W.pr.isi with
    | true =>
      have e : (match memN c0 W.pr.isi with | true => some (IC.cls c0) | false => none) = some ic := e
      rw [q] at e; cases e
      exact ⟨rfl, fun d hd => by cases hd; exact memN_mem q⟩
    | false =>
      have e : (match memN c0 W.pr.isi with | true => some (IC.cls c0) | false => none) = some ic := e
      rw [q] at e; exact none_ne e
  | bi b =>
    cases h
    refine e02 (icB_val (W := W) (show icB b = some ic from e)) fun h1 h2 => ?_
    exact ⟨h1, fun d hd => absurd hd (h2 d)⟩
  | _ => exact none_ne e
theorem sIsInst {v cv : V} {v' c' : Value} {k : Bool → Prop} (ok : WdOk W) (ik : IsiOk W) (R : Rel W c ls h news s) (G : Good W c) (hv : VR W (Fx W c h news) v v') (hc : VR W (Fx W c h news) cv c') (hk0 : isInst W.pr v cv h k)
    (q : ∀ b s', k b → Rel W c ls h news s' → QQ (.bool b) s') : wpAny (model W.prog W.w) A (call (.builtin "isinstance") [v', c']) QQ E s := by
  refine e12 (onSome_inv hk0) fun ic hic hk1 => ?_
  refine e12 (R.fr) fun m Fm L => ?_
  have X : W.K.In s.heap := fun a o e => R.keep _ _ (G.X a o e)
  refine e02 (ic_val hc hic) fun e hd => ?_
  rw [e]
  have one : ∀ {x t : Value} {H : Heap → Prop} {b : Bool}, KitX W.K x t H → H s.heap → kitOne W.K t (icVal W ic) = some b → x ≠ .builtin "__main__.__loader__#opaque" → k b → wpAny (model W.prog W.w) A (call (.builtin "isinstance") [x, icVal W ic]) QQ E s :=
    fun Z p e hx hk => kia_one Z X p e hx fun tk => q _ _ hk (R.tok _)
  have tcl : ∀ T ∈ isiT, kitOne W.K (.type T) (icVal W ic) = some (ic.isT T) := by
    intro T hT
    have h := ik.tb T hT
    induction ic using IC.casesOn with
    | cls d => exact ik.tc T hT d (hd d rfl)
    | int => exact h.1
    | bool => exact h.2.1
    | list => exact h.2.2.1
    | dict => exact h.2.2.2
  induction v using V.casesOn with
  | ref a =>
    refine refE hv ?_
    obtain ⟨ob, e1, hk⟩ := hk1
    induction ob using O.casesOn with
    | list l =>
      refine e23 (R.listAt e1) fun vs n m1 r1 i1 => ?_
      exact one (kitx_list (a := a)) ⟨lstO vs n, R.at m1, rfl⟩ (tcl "list" (by simp [isiT])) (by simp) ((isT_list ic).symm ▸ hk)
    | dict ep l =>
      have dd : KitAt a "dict" s.heap := by
        rcases R.dictAt e1 with ⟨o, kvs, hm, hd, hr, hD⟩ | ⟨o, kvs, hm, hd, hr, hD⟩ <;> (obtain ⟨es, ep, h1, _⟩ := hd; exact ⟨o, R.at hm, h1.1⟩)
      exact one (kitx_dict (a := a)) dd (tcl "dict" (by simp [isiT])) (by simp) ((isT_dict ic).symm ▸ hk)
    | _ => exact hk.elim
  | obj cx fs =>
    cases hv with
    | @obj _ _ x dx es n ns vs e1 e2 e3 e4 e5 =>
      refine e12 (Option.map_eq_some_iff.mp (show (W.pr.ci cx).map (fun ci => ci.flds.map W.tb.nm) = some ns from e1)) fun ci hci Z => ?_
      have ck := ok.cls _ _ hci
      refine e02 (ik.own _ _ hci) fun o1 o2 => ?_
      have b := ik.cb _ _ hci
      refine one (kitx_own (x := x) (ox := instObj (W.tb.clA cx) dx) (od := dictOf es n) (ck.get _) ck.dict o1 ik.get ik.takes o2) ⟨R.fact G e2, rfl, rfl, R.fact G e3⟩ (b := ic.isCls cx) ?_ (by simp) hk1
      induction ic using IC.casesOn with
      | cls d => exact ik.cc _ _ d hci (hd d rfl)
      | int => exact b.1
      | bool => exact b.2.1
      | list => exact b.2.2.1
      | dict => exact b.2.2.2
  | int i =>
    refine intE hv fun t => ?_
    exact one kitx_int trivial (tcl "int" (by simp [isiT])) (by simp) ((isT_int ic).symm ▸ hk1)
  | none =>
    refine noneE hv ?_
    exact one kitx_none trivial (tcl "NoneType" (by simp [isiT])) (by simp) ((isT_none ic).symm ▸ hk1)
  | _ => exact hk1.elim
end
end
section
open PySem PySem.W PyProof.Rows PySem.Calls
theorem keys_none : typeLookup (.type "list") "keys" = pure none := am_miss_of_fast (by decide +kernel)
theorem keys_miss {prog : Program} {w : World} {A : Around} {E : Value → Shared → Prop} {s : Shared} {a : Addr} {xs : Array Value} {k : Nat} {Q : Option Value → Shared → Prop}
    (hx : s.heap.get? a = some { cls := .type "list", data := .seq xs k }) (hA : A.handled = none)
    (q : ∀ h' tk, (∀ b o, s.heap.get? b = some o → h'.get? b = some o) → Q none { s with heap := h', toks := tk }) : wpAny (model prog w) A (getAttr? (.ref a) "keys") Q E s := by
  obtain ⟨hp, g, d, tk, os⟩ := s
  have hT : ∀ tk', (⟨hp, g, d, tk', os⟩ : Shared).TypeIs (.ref a) "list" := fun Z => (i12 hx rfl)
  have f1 := sub_AttributeError
  have f3 := F.slot_list_getattribute.lookup
  have f4 := F.slot_list_getattribute.bind (.ref a)
  have f5 := am_list_getattr_none
  unfold getAttr? getAttrBy? getAttrBy
  repeat (any_goals (first | assumption | exact hT _ | ((with_reducible show wpAny _ _ (call (Value.builtin "list.__getattribute__") _ _) _ _ _); refine call_meets F.slot_list_getattribute (hT _) am_entry_list_getattribute (F.args_list_getattribute_2 _ _) (meets_getattribute_miss_list a xs k #[] "keys" _ keys_none (by decide +kernel)) ⟨hx, hA, fun h' tk' e hx' => ?_⟩) | wp_step))
  refine e21 (hx'.there) fun t' u' he => ?_
  show wpAny _ _ (getattributeRaised _ _ _ _ _ _ _) _ _ _
  unfold getattributeRaised
  repeat (any_goals (first | assumption | wp_step))
  exact q _ _ hx'.keeps
theorem entry_upd_loop : entryFor table "dict.update.loop" = some Builtin.«dict.update.loop» := entryFor_of_tree (by kernel_rfl)
theorem plain_upd_loop : plainId "dict.update.loop" = true := by decide +kernel
section
variable {prog : Program} {w : World} {A : Around} {E : Value → Shared → Prop} {s : Shared}
theorem upd_end {D I l : Addr} {k : Int} {R : Result → Shared → Prop} {i : Nat} {xs : Array Value} (hA : A.handled = none) (hit : s.heap.IsListIter I l i) (hl : s.heap.IsList l xs) (he : xs[i]? = none)
    (q : ∀ h', Heap.ExtBut I s.heap h' → R (.ok (.ret .none)) { s with heap := h' }) : codeAny (model prog w) A (.builtin "dict.update.loop" ⟨[.ref D, .ref I, rawInt k, .none], []⟩) R s := by
  refine codeAny_builtin entry_upd_loop ?_
  unfold Builtin.«dict.update.loop»
  rw [Around.under_plainId plain_upd_loop]
  show wpAny _ _ (do
    let some item ← pyNext (.ref I) | Builtin.Dict.addKeywords D []; ret .none
    _) _ _ _
  refine wpAny_bind (wpAny_pyNext_list_end (by exact hA) hit hl he fun h' hx => ?_)
  exact wpAny_bind (wpAny_pure (wpAny_pure (q _ hx)))
theorem upd_step {D I l a : Addr} {x : Str} {u : Tok} {v : Value} {n : Nat} {kvs : List (Str × Value)} {i : Nat} {k : Int} {R : Result → Shared → Prop} {xs : Array Value} (hit : s.heap.IsListIter I l i) (hl : s.heap.IsList l xs) (he : xs[i]? = some (.ref a))
    (ha : s.heap.get? a = some (tupO [.str x u, v] n)) (hD : s.heap.DictOf (strKind prog w) D kvs) (hz : kvs.length ≤ 1000) (hID : I ≠ D) (hIa : I ≠ a)
    (q : ∀ h' tk, h'.IsListIter I l (i + 1) → h'.DictOf (strKind prog w) D (stored kvs x v) → (∀ b o, b ≠ I → b ≠ D → s.heap.get? b = some o → h'.get? b = some o) →
      codeAny (model prog w) A (.builtin "dict.update.loop" ⟨[.ref D, .ref I, rawInt (k + 1), .none], []⟩) R { s with heap := h', toks := tk }) : codeAny (model prog w) A (.builtin "dict.update.loop" ⟨[.ref D, .ref I, rawInt k, .none], []⟩) R s := by
  refine codeAny_builtin entry_upd_loop ?_
  unfold Builtin.«dict.update.loop»
  rw [Around.under_plainId plain_upd_loop]
  show wpAny _ _ (do
    let some item ← pyNext (.ref I) | Builtin.Dict.addKeywords D []; ret .none
    _) _ _ _
  refine wpAny_bind (wpAny_pyNext_list_item hit hl he fun h' hi hs => ?_)
  have ha' : h'.get? a = some (tupO [.str x u, v] n) := (hs.2 a (Ne.symm hIa)).trans ha
  have hD' : h'.DictOf (strKind prog w) D kvs := by
    refine e12 (Heap.dictOf_iff.mp hD) fun o e1 e2 => ?_
    exact Heap.dictOf_iff.mpr ⟨o, (hs.2 D (Ne.symm hID)).trans e1, e2⟩
  refine wpAny_bind (wpAny_holding (wpAny_bind (wpAny_tryCatch ?_)))
  unfold Builtin.Dict.pairItems
  refine wpAny_bind (wpAny_typeOf (T := "tuple") (i12 ha' rfl) ?_)
  rw [if_pos (by decide)]
  refine wpAny_bind (wpAny_seqItems ha' rfl (wpAny_pure ?_))
  show wpAny _ _ (holding [Value.str x u, v] (dictSet D (.str x u) v)) _ _ _
  refine wpAny_holding (wpAny_dictSet_pairs (strKind_is _ _ _ _) hD' (fun h2 hg hs2 => ?_) (by have := sizeLine_ge; lia))
  refine wpAny_pure ⟨plainId_quiet plain_upd_loop _, q _ _ ?_ hg fun b o h1 h2 e => (hs2.2 b h2).trans ((hs.2 b h1).trans e)⟩
  refine e13 (hi) fun o e1 e2 e3 => ?_
  exact ⟨o, (hs2.2 I hID).trans e1, e2, e3⟩
theorem dict_pair {l a : Addr} {x : Str} {t : Tok} {v : Value} {n : Nat} {Q : Value → Shared → Prop} (hl : ∃ k, s.heap.get? l = some (lstO [.ref a] k)) (ha : s.heap.get? a = some (tupO [.str x t, v] n)) (hh : A.handled = none)
    (q : ∀ (hh : Heap) (tk : Nat) (D : Addr) (o : Obj), (∀ b o, s.heap.get? b = some o → hh.get? b = some o) → (∀ b o, s.heap.get? b = some o → b < D) → hh.get? D = some o → o.IsDictOf (PySem.strKind prog w) [(x, v)] → Q (.ref D) { s with heap := hh, toks := tk }) :
    wpAny (model prog w) A (call (.type "dict") [.ref l]) Q E s := by
  refine e11 (hl) fun kl hl => ?_
  refine callType_codes (Q₁ := fun obj s₁ => obj = .ref s.heap.objs.size ∧ s₁ = { s with heap := s.heap.push { cls := .type "dict", data := .dict #[] } }) F.kt_called_dict (F.kt_typeCall_dict_1 _) F.entry_dict_init (kt_code_dict_new _ ⟨rfl, rfl⟩) ?_
  intro obj s₁ hI
  refine e02 hI fun eq1 => ?_
  clear hI
  subst eq1
  intro eq2
  subst eq2
  have hnew : (s.heap.push { cls := .type "dict", data := .dict #[] }).DictOf (strKind prog w) s.heap.objs.size [] := Heap.DictOf.new s.heap
  have hl' := Heap.get?_push_of_some { cls := .type "dict", data := .dict #[] } hl
  have ha' := Heap.get?_push_of_some { cls := .type "dict", data := .dict #[] } ha
  refine ⟨hnew.typeIs, F.args_dict_init_2 _ _, ?_⟩
  unfold Builtin.«dict.__init__»
  refine wpAny_bind ?_
  unfold Builtin.Dict.selfAndRest
  refine wpAny_bind (wpAny_notOrdered_dict hnew.typeIs ?_)
  show wpAny _ _ (pure (s.heap.objs.size, [Value.ref l])) _ _ _
  refine wpAny_pure ?_
  show wpAny _ _ (Builtin.Dict.updateFrom "dict.__init__" s.heap.objs.size (.ref l) [] .none) _ _ _
  unfold Builtin.Dict.updateFrom
  refine wpAny_bind (wpAny_typeOf (T := "list") (i12 hl' rfl) ?_)
  rw [if_pos (by decide)]
  refine wpAny_bind (keys_miss hl' hh fun h1 tk hk1 => ?_)
  simp only [Option.isNone_none, if_true]
  refine wpAny_bind (wpAny_rule (wpAny_bind ?_))
  have hl1 : h1.get? l = _ := hk1 _ _ hl'
  have ha1 : h1.get? a = _ := hk1 _ _ ha'
  have hD1 : h1.DictOf (strKind prog w) s.heap.objs.size [] := by
    refine e12 (Heap.dictOf_iff.mp hnew) fun o e1 e2 => ?_
    exact Heap.dictOf_iff.mpr ⟨o, hk1 _ _ e1, e2⟩
  have hDl : s.heap.objs.size < h1.objs.size := by
    refine e12 (Heap.dictOf_iff.mp hD1) fun o e1 Z => ?_
    exact Heap.lt_size e1
  have hil : h1.IsList l #[.ref a] := ⟨_, hl1, rfl, kl, rfl⟩
  refine wpAny_pyIter_list hil ?_
  refine wpAny_pure ⟨plainId_quiet plain_upd_loop _, ?_⟩
  have hlt : ∀ b o, s.heap.get? b = some o → b < s.heap.objs.size := fun b o e => Heap.lt_size e
  have hD2 : ∀ o, (h1.push o).DictOf (strKind prog w) s.heap.objs.size [] := fun o => hD1.push o
  refine upd_step (a := a) (l := l) (i := 0) (xs := #[.ref a]) (i13 (Heap.get?_push_size _ rfl) rfl rfl) (hil.push _) rfl (Heap.get?_push_of_some _ ha1) (hD2 _) (by simp) (Nat.ne_of_gt hDl) (fun e => by have := Heap.lt_size ha1; rw [← e] at this; exact Nat.lt_irrefl _ this) fun h2 tk2 hit2 hd2 hk2 => ?_
  have hne : l ≠ h1.objs.size := Nat.ne_of_lt (Heap.lt_size hl1)
  have hneD : l ≠ s.heap.objs.size := Nat.ne_of_lt (hlt _ _ hl)
  have hil2 : h2.IsList l #[.ref a] := ⟨_, hk2 _ _ hne hneD (Heap.get?_push_of_some _ hl1), rfl, kl, rfl⟩
  refine upd_end hh hit2 hil2 rfl fun h3 hx => ?_
  refine e12 (Heap.dictOf_iff.mp hd2) fun o e1 e2 => ?_
  refine ⟨rfl, q h3 _ s.heap.objs.size o (fun b ob e => ?_) hlt (hx _ _ (Nat.ne_of_lt hDl) e1) e2⟩
  have hb := hlt _ _ e
  have hbI : b ≠ h1.objs.size := Nat.ne_of_lt (Nat.lt_trans hb hDl)
  exact hx _ _ hbI (hk2 _ _ hbI (Nat.ne_of_lt hb) (Heap.get?_push_of_some _ (hk1 _ _ (Heap.get?_push_of_some _ e))))
end
end
section
open PySem PySem.W PyProof.Rows PySem.Calls
theorem range_fact {a b : Int} (ha : -(2 ^ 62) < a) (ha' : a < 2 ^ 62) (hb : -(2 ^ 62) < b) (hb' : b < 2 ^ 62) : Builtin.Range.small a b 1 = true ∧ Builtin.Range.rangeSize a b 1 = ((b - a).toNat : Int) := by
  refine ⟨small_one (by lia) (by lia) (by lia) (by lia), ?_⟩
  rw [rangeSize_one]
  split <;> lia
theorem range_fact2 {a b : Int} (ha : -(2 ^ 60) < a) (ha' : a < 2 ^ 60) (hb : -(2 ^ 60) < b) (hb' : b < 2 ^ 60) : Builtin.Range.small a b 2 = true ∧ Builtin.Range.rangeSize a b 2 = (((b - a + 1) / 2).toNat : Int) := by
  have e : Builtin.Range.rangeSize a b 2 = (((b - a + 1) / 2).toNat : Int) := by
    unfold Builtin.Range.rangeSize
    simp only [show (2 : Int) > 0 by decide, if_true]
    split <;> lia
  refine ⟨?_, e⟩
  unfold Builtin.Range.small
  rw [e]
  simp only [Builtin.Range.rangeFitsLong, Bool.and_eq_true, Bool.or_eq_true, decide_eq_true_eq, beq_iff_eq, show (2 : Int) > 0 by decide, if_true]
  lia
section
variable {prog : Program} {w : World} {A : Around} {E : Value → Shared → Prop} {s : Shared}
theorem by_lookup : typeLookup (.type "bytes") "__bytes__" = pure (some (.builtin "bytes.__bytes__")) := by rw [typeLookup_type, builtinLookup_eq_fast]; kernel_rfl
theorem bytes_of_bytes {b : Array UInt8} {t : Tok} {Q : Value → Shared → Prop} (h : Q (.bytes b t) s) : wpAny (model prog w) A (call (.type "bytes") [.bytes b t]) Q E s := by
  refine callType_codes (Q₁ := fun obj s₁ => s₁.TypeIs obj "bytes" ∧ Q obj s₁) F.bm_called (F.bm_typeCall _) F.entry_object_init ?_ fun obj s₁ h₁ => ?_
  · refine codeAny_of_tree ?_
    show wpAny _ A.in1.in1 (do checkBuiltinCall "bytes.__new__" ⟨[.type "bytes", .bytes b t], []⟩; again (.builtin "bytes.__new__" ⟨[.type "bytes", .bytes b t], []⟩)) _ _ s
    refine wpAny_bind (wpAny_of_eq (F.bm_newCall _) (wpAny_pure ⟨plainId_quiet F.bm_plain _, codeAny_builtin F.bm_entry ?_⟩))
    rw [Around.under_plainId F.bm_plain _]
    have hT : s.TypeIs (.bytes b t) "bytes" := typeIs_bytes _ _ _
    unfold Builtin.«bytes.__new__»
    refine wpAny_bind (wpAny_of_eq (a := true) rfl ?_)
    refine bm_if_false rfl ?_
    refine wpAny_bind (wpAny_of_eq F.bm_sub ?_)
    refine bm_if_false rfl ?_
    refine wpAny_bind (wpAny_of_eq (F.bm_bind _) ?_)
    refine wpAny_bind (wpAny_of_eq (a := ()) rfl ?_)
    refine wpAny_bind (wpAny_of_eq (a := ()) rfl ?_)
    refine bm_if_false rfl ?_
    refine wpAny_bind (wpAny_specialOf hT by_lookup ?_)
    refine wpAny_bind (wpAny_rule ?_)
    refine wpAny_bind (wpAny_typeOf hT ?_)
    refine bm_if_true rfl ?_
    exact wpAny_pure ⟨hT, h⟩
  · exact ⟨h₁.1, F.args_object_init_2 obj _, object_init_meets F.bm_called.init.lookup F.bm_called.made (by decide) prog w A.in1 _ s₁ ⟨h₁.1, rfl, h₁.2⟩⟩
end
section
variable {W : Wd} {c : Cx} {ls : Ls} {h : Hp} {news : News'} {s : Shared} {F : PF} {A : Around} {E : Value → Shared → Prop} {QQ : Value → Shared → Prop}
theorem Rel.rng (R : Rel W c ls h news s) {a b st : Int} {n : Nat} {t u v : Tok} {k : KE} (hs : Builtin.Range.small a b st = true) (hn : Builtin.Range.rangeSize a b st = n) (tk : Nat) (hk : k (.rng a st n) h)
    (q : ∀ v v' h' news' s', k v h' → VR W (Fx W c h' news') v v' → Rel W c ls h' news' s' → Stab (Fx W c h news) (Fx W c h' news') → QQ v' s') :
    QQ (.ref s.heap.objs.size) { s with heap := s.heap.push { cls := .type "range", data := .fields #[.int a t, .int b u, .int st v] }, toks := tk } := by
  refine e03 (R.push (rngO a b st t u v)) fun R' st' f => ?_
  exact q _ _ _ _ _ hk (.rng f hs hn) (R'.tok tk) st'
theorem bLen {v : V} {v' : Value} {k : KE} (R : Rel W c ls h news s) (hv : VR W (Fx W c h news) v v') (hk : lenV h k v)
    (q : ∀ v v' h' news' s', k v h' → VR W (Fx W c h' news') v v' → Rel W c ls h' news' s' → Stab (Fx W c h news) (Fx W c h' news') → QQ v' s') : wpAny (model W.prog W.w) A (call (.builtin "len") [v']) QQ E s := by
  have hz1 := sizeLine_ge
  induction v using V.casesOn with
  | bytes l =>
    refine bytesE hv fun x t hx => ?_
    have hz : l.length ≤ 1000000 := hk.need
    have : x.size = l.length := by rw [← hx]; simp
    refine len_bytes (by rw [this]; lia) ?_
    rw [this]
    exact q _ _ _ _ _ hk.out (.int _ _) (R.tok _) .refl
  | str l =>
    refine strE hv fun x t hx => ?_
    have hz : l.length ≤ 1000000 := hk.need
    have : x.length = l.length := by rw [← hx]; simp [Str.length]
    refine P.len_str (by rw [this]; lia) ?_
    rw [this]
    exact q _ _ _ _ _ hk.out (.int _ _) (R.tok _) .refl
  | ref a =>
    refine refE hv ?_
    obtain ⟨l, e1, hz, hk⟩ := rdList hk
    unfold small at hz
    refine e23 (R.listAt e1) fun vs n m1 r1 i1 => ?_
    have hlen := r1.length
    refine Calls.call_len_list i1 (by rw [List.size_toArray]; lia) ?_
    rw [List.size_toArray, ← hlen]
    exact q _ _ _ _ _ hk (.int _ _) (R.tok _) .refl
  | _ => exact hk.elim
theorem bRng {args : List V} {args' : List Value} {k : KE} (R : Rel W c ls h news s) (ha : VRs W (Fx W c h news) args args') (hk0 : dBi W.pr .range args h k)
    (q : ∀ v v' h' news' s', k v h' → VR W (Fx W c h' news') v v' → Rel W c ls h' news' s' → Stab (Fx W c h news) (Fx W c h' news') → QQ v' s') : wpAny (model W.prog W.w) A (call (.type "range") args') QQ E s := by
  refine consV hk0 ha fun v r v' r' hk h1 hr => intV hk h1 fun n t hk => ?_
  induction r using List.casesOn with
  | nil =>
    refine nilE hr ?_
    refine e02 (range_fact (a := 0) (by decide) (by decide) hk.need.1 hk.need.2) fun r1 r2 => ?_
    rw [Int.sub_zero] at r2
    exact call_range_1 (R.rng r1 r2 _ hk.out q)
  | cons b r =>
    refine consE hr fun b' r' h2 hr => intV hk h2 fun m u hk => ?_
    induction r using List.casesOn with
    | nil => exact nilE hr (e02 (range_fact hk.need.1 hk.need.2.1 hk.need.2.2.1 hk.need.2.2.2) fun r1 r2 => call_range_2 (R.rng r1 r2 _ hk.out q))
    | cons c0 r =>
      refine consE hr fun c' r' h3 hr => e02 (onNil_inv hk) fun er hk => ?_
      rw [er] at hr
      refine nilE hr (intV hk h3 fun st v hk => ?_)
      refine e02 (range_fact2 hk.need.2.1 hk.need.2.2.1 hk.need.2.2.2.1 hk.need.2.2.2.2) fun r1 r2 => ?_
      rw [hk.need.1]
      exact call_range_3 (by decide) (R.rng r1 r2 _ (hk.need.1 ▸ hk.out) q) (.inl (PyProof.noPylong_of_log2 (by decide +kernel)))
theorem bSortN {a ep : Nat} {l : List (V × V)} {k : KE} (R : Rel W c ls h news s) (G : Good W c) (hA : A.handled = none) (e1 : h.get a = some (.dict ep l)) (hk : sortN h k l)
    (q : ∀ v v' h' news' s', k v h' → VR W (Fx W c h' news') v v' → Rel W c ls h' news' s' → Stab (Fx W c h news) (Fx W c h' news') → QQ v' s') : wpAny (model W.prog W.w) A (call (.builtin "sorted") [.ref a]) QQ E s := by
  have hz1 := sizeLine_ge
  obtain ⟨ks, e2, hz, hk⟩ := hk
  refine e24 (R.dictI e1 (by rw [e2]; simp)) fun o kvs hm hd hr hD => ?_
  have e3 := intKeys_nodupI hr
  rw [e2] at e3
  cases e3
  rw [List.length_map] at hz
  refine sorted_dict hD (G.mini_gt R hm) hA (by lia) fun h' tk vs hk' hl hv' => ?_
  refine srt_ints (Heap.get?_push_size _ rfl) (intsAre_keys hl hv') (by rw [List.length_map]; exact hz) fun vs' ns' c2 i1 i2 i3 hh hb hg => ?_
  have hlt : ∀ b o, s.heap.get? b = some o → b < h'.objs.size := fun b o e => Heap.lt_size (hk' _ _ e)
  have hk2 : ∀ b o, s.heap.get? b = some o → hh.get? b = some o := fun b o e => hb b o (Nat.ne_of_lt (hlt _ _ e)) (Heap.get?_push_of_some _ (hk' _ _ e))
  have : ns' = sortI (kvs.map (·.1)) := sort_unique (i2.trans (sortI_perm _).symm) i3 (sortI_sorted _)
  subst this
  refine e02 (R.makes hk2 hlt hg rfl (o := .list ((sortI (kvs.map (·.1))).map .int)) (fun news' F' hm st => .list hm (vrs_ints i1)) tk) fun R' st => ?_
  exact q _ _ _ _ _ (hk.out.out _ (R.topD hlt)) (.ref _) R' st
theorem strOf {x : Str} {z : Value} (e : Value.isStrOf x z = true) : ∃ t, z = .str x t := Value.isStrOf_shape e
theorem keys_strs {kvs : List (Str × Value)} : ∀ {vs : List Value}, vs.length = kvs.length → (∀ (j : Nat) (v : Value), vs[j]? = some v → ∃ k x, kvs[j]? = some (k, x) ∧ (strKind W.prog W.w).is k v = true) → StrsAre vs (kvs.map (·.1)) := by
  induction kvs with
  | nil => intro vs hl _; rw [List.length_eq_zero_iff.mp hl]; exact .nil
  | cons p r ih =>
    intro vs hl hv
    induction vs using List.casesOn with
    | nil => exact Nat.noConfusion hl
    | cons v vs =>
      refine e22 (hv 0 v rfl) fun k x e h => e11 (strOf h) fun t e2 => ?_
      rw [e2, show p = (k, x) from Option.some.inj e]
      exact .cons k t (ih (Nat.succ.inj hl) fun j v e => hv (j + 1) v e)
noncomputable def sV (x : Str) : V := .str x.cps.toList
theorem strs_vr {vs : List Value} {ss : List Str} (h : StrsAre vs ss) : VRs W F (ss.map sV) vs := by
  induction h with
  | nil => exact .nil
  | cons x t _ ih => exact .cons (.str x t) ih
theorem kvs_keys {l : List (V × V)} {kvs : List (Str × Value)} (h : KVS W F l kvs) : l.map (·.1) = (kvs.map (·.1)).map sV := by
  induction h with
  | nil => rfl
  | cons _ _ ih => exact congrArg (_ :: ·) ih
@[elab_as_elim] theorem len2 {α : Type} {C : List α → Prop} {l : List α} (h : l.length = 2) (k : ∀ a b, C [a, b]) : C l := by
  induction l using List.casesOn with
  | nil => exact Nat.noConfusion h
  | cons a l =>
    induction l using List.casesOn with
    | nil => exact Nat.noConfusion (Nat.succ.inj h)
    | cons b l =>
      induction l using List.casesOn with
      | nil => exact k a b
      | cons Z Z => exact Nat.noConfusion (Nat.succ.inj (Nat.succ.inj h))
theorem pair_sorted {ss : List Str} {x y : List Nat} (hlt : y < x) (hp : (ss.map sV).Perm [.str x, .str y]) (hs : PyProof.Rows.sortedS ss = true) : ss.map sV = [.str y, .str x] := by
  have hl := hp.length_eq
  revert hp hs
  refine len2 ((List.length_map _).symm.trans hl) fun a b => ?_
  intro hp hs
  clear hl
  have hma : sV a ∈ [V.str x, .str y] := hp.mem_iff.mp (.head _)
  rcases List.mem_cons.mp hma with e | e
  · have hb : sV b = .str y := List.singleton_perm_singleton.mp (List.Perm.cons_inv (a := V.str x) (e ▸ hp))
    have h1 : PySem.Spec.ltCps b.cps.toList a.cps.toList = false := by
      simp only [PyProof.Rows.sortedS, PyProof.Rows.risingS, Bool.and_true, Bool.not_eq_true'] at hs
      exact hs
    rw [ltCps_eq, show a.cps.toList = x from Option.some.inj (congrArg isS e), show b.cps.toList = y from Option.some.inj (congrArg isS hb)] at h1
    exact absurd hlt (of_decide_eq_false h1)
  · have e : sV a = .str y := List.mem_singleton.mp e
    have hb : sV b = .str x := List.singleton_perm_singleton.mp (List.Perm.cons_inv (a := V.str y) ((e ▸ hp : [V.str y, sV b].Perm [.str x, .str y]).trans (List.Perm.swap _ _ _)))
    show [sV a, sV b] = _
    rw [e, hb]
theorem bSortS {a ep : Nat} {x : List Nat} {u : V} {r : List (V × V)} {k : KE} (R : Rel W c ls h news s) (G : Good W c) (hA : A.handled = none) (e1 : h.get a = some (.dict ep ((.str x, u) :: r))) (hk : sortS h k x r)
    (q : ∀ v v' h' news' s', k v h' → VR W (Fx W c h' news') v v' → Rel W c ls h' news' s' → Stab (Fx W c h news) (Fx W c h' news') → QQ v' s') : wpAny (model W.prog W.w) A (call (.builtin "sorted") [.ref a]) QQ E s := by
  refine e24 (R.dictS e1 fun i v r e => nomatch e) fun o kvs hm hd hr hD => ?_
  have hp := kvs_keys hr
  have key : ∀ {ll : List V}, Fr1 h (.list ll) (kRef k) → kvs.length < 64 → (∀ ss : List Str, (ss.map sV).Perm ((kvs.map (·.1)).map sV) → PyProof.Rows.sortedS ss = true → ss.map sV = ll) → wpAny (model W.prog W.w) A (call (.builtin "sorted") [.ref a]) QQ E s := fun {ll} hk hn hss => by
    refine sorted_dict hD (G.mini_gt R hm) hA (Nat.le_trans (Nat.le_of_lt hn) (by decide)) fun h' tk vs hk' hl hv' => ?_
    refine srt_strs (Heap.get?_push_size _ rfl) (keys_strs hl hv') (hl ▸ hn) fun vs' ss' c2 i1 i2 i3 hh hb hg => ?_
    have hlt : ∀ b o, s.heap.get? b = some o → b < h'.objs.size := fun b o e => Heap.lt_size (hk' _ _ e)
    refine e02 (R.makes (fun b o e => hb b o (Nat.ne_of_lt (hlt _ _ e)) (Heap.get?_push_of_some _ (hk' _ _ e))) hlt hg rfl (o := .list ll) (fun news' F' hm st => .list hm (hss ss' (i2.map _) i3 ▸ strs_vr i1)) tk) fun R' st => ?_
    exact q _ _ _ _ _ (hk.out.out _ (R.topD hlt)) (.ref _) R' st
  have hl : ((V.str x, u) :: r).length = kvs.length := by have := congrArg List.length hp; rwa [List.length_map, List.length_map, List.length_map] at this
  induction r using List.casesOn with
  | nil => exact key hk (Nat.lt_of_le_of_lt (Nat.le_of_eq (show kvs.length = 1 from hl.symm)) (by decide)) fun ss h Z => List.perm_singleton.mp (h.trans (.of_eq hp.symm))
  | cons f r =>
    refine e02 (onNil_inv hk) fun er hk => e12 (onStr_inv hk) fun y ey hk => ?_
    rw [er] at hp hl
    exact key hk.out (Nat.lt_of_le_of_lt (Nat.le_of_eq (show kvs.length = 2 from hl.symm)) (by decide)) fun ss h hs => pair_sorted hk.need (h.trans (.of_eq (hp.symm.trans (show [V.str x, f.1] = [V.str x, .str y] by rw [ey])))) hs
theorem bDict {a : Nat} {k : KE} (R : Rel W c ls h news s) (G : Good W c) (hA : A.handled = none) (hk0 : RdO h a (oList (on1 (onTup (on2 fun s v => onStr (fun x => FrD h [(.str x, v)] (kRef k)) s)))))
    (q : ∀ v v' h' news' s', k v h' → VR W (Fx W c h' news') v v' → Rel W c ls h' news' s' → Stab (Fx W c h news) (Fx W c h' news') → QQ v' s') : wpAny (model W.prog W.w) A (call (.type "dict") [.ref a]) QQ E s := by
  refine e12 (rdList hk0) fun l e1 hk1 => ?_
  refine e12 (on1_inv hk1) fun p0 ep hk2 => ?_
  refine e12 (onTup_inv hk2) fun l2 el hk3 => ?_
  refine e22 (on2_inv hk3) fun s0 v0 es hk4 => ?_
  refine e12 (onStr_inv hk4) fun x0 ex hk => ?_
  subst ep el es ex
  refine e23 (R.listAt e1) fun vs n m1 r1 i1 => ?_
  refine e12 (vrs_one r1) fun Z eq1 => ?_
  subst eq1
  intro h2
  refine e33 (vr_tup h2) fun p ws n' eq1 => ?_
  subst eq1
  intro hp h3
  refine e23 (vrs_two h3) fun Z Z eq1 => ?_
  subst eq1
  intro h4 h5
  refine e22 (vr_str h4) fun x t eq1 => ?_
  subst eq1
  intro hx
  subst hx
  refine dict_pair ⟨n, R.at m1⟩ (R.fact G hp) hA fun hh tk D o hk' hD hg hd => ?_
  have hi : iterO o = false := by obtain ⟨es, ep, _, h2, _⟩ := hd; unfold iterO; rw [h2]
  refine e02 (R.makes hk' hD hg hi (o := .dict (epOf o) [(.str x.cps.toList, _)]) (fun news' F' hm st => .dictS hm hd rfl (.cons (h5.stab st) .nil)) tk) fun R' st => ?_
  exact q _ _ _ _ _ (hk.out.out D (R.topD hD) _) (.ref _) R' st
theorem log_small {n : Nat} (h : n < 10000) : n.log2 < 1920 := by
  by_cases h0 : n = 0
  · rw [h0]; decide
  · exact Nat.lt_trans ((Nat.log2_lt h0).mpr (Nat.lt_trans h (show 10000 < 2 ^ 14 by decide))) (by decide)
theorem sBi {b : BI} {args : List V} {args' : List Value} {k : KE} (ok : WdOk W) (ik : IsiOk W) (R : Rel W c ls h news s) (G : Good W c) (hA : A.handled = none) (ha : VRs W (Fx W c h news) args args') (hk0 : dBi W.pr b args h k)
    (q : ∀ v v' h' news' s', k v h' → VR W (Fx W c h' news') v v' → Rel W c ls h' news' s' → Stab (Fx W c h news) (Fx W c h' news') → QQ v' s') : wpAny (model W.prog W.w) A (call (biVal b) args') QQ E s := by
  induction b using BI.casesOn with
  | len => exact on1V hk0 ha fun v v' hk h1 => bLen R h1 hk q
  | range => exact bRng R ha hk0 q
  | int => exact on1V hk0 ha fun v v' hk h1 => intV hk h1 fun n t hk => call_int_int (q _ _ _ _ _ hk (.int _ _) R .refl)
  | abs =>
    refine on1V hk0 ha fun v v' hk h1 => intV hk h1 fun n t hk => call_abs_int fun u tk => ?_
    rw [show (if n < 0 then -n else n) = (n.natAbs : Int) by split <;> lia]
    exact q _ _ _ _ _ hk (.int _ _) (R.tok _) .refl
  | str =>
    refine on1V hk0 ha fun v v' hk h1 => intV hk h1 fun n t hk => e11 (Int.eq_ofNat_of_zero_le hk.need.1) fun m e => ?_
    have z2 : m < 10000 := Int.ofNat_lt.mp (e ▸ hk.need.2)
    rw [e] at hk ⊢
    exact P.str_of_int (log_small z2) (q _ _ _ _ _ hk.out (vr_mkStr' (decText_str z2) _) (R.tok _) .refl)
  | chr =>
    refine on1V hk0 ha fun v v' hk h1 => intV hk h1 fun n t hk => ?_
    have z1 := hk.need.1
    have z2 := hk.need.2
    exact P.chr_of_int (by simp; lia) (q _ _ _ _ _ hk.out (vr_mkStr' (by simp) _) (R.tok _) .refl)
  | min =>
    refine on2V hk0 ha fun v w v' w' hk h1 h2 => int2 hk h1 h2 fun x y t u hk => min_two_ints hA fun h' tk hk' => ?_
    refine q _ _ _ _ _ hk ?_ (R.kept hk' tk) .refl
    split <;> exact .int _ _
  | bytes => exact on1V hk0 ha fun v v' hk h1 => bytesV hk h1 fun l x t hx hk => bytes_of_bytes (q _ _ _ _ _ hk.out (hx ▸ .bytes x t) R .refl)
  | isinstance => exact on2V hk0 ha fun v w v' w' hk h1 h2 => sIsInst ok ik R G h1 h2 hk fun b s' hb R' => q _ _ _ _ _ hb (.bool b) R' .refl
  | tuple =>
    refine on1V hk0 ha fun v v' hk h1 => refV hk h1 fun a hk => e12 (rdList hk) fun l e1 hk => e23 (R.listAt e1) fun vs n m1 r1 i1 => ?_
    refine call_tuple_list i1 (fun h' hk' => e03 ((R.kept hk' s.toks).push (tupO vs 0)) fun R' st f => q _ _ _ _ _ hk.out (.tup f (r1.stab st)) R' st) ?_
    rw [List.size_toArray, ← r1.length]
    exact Nat.le_trans hk.need (Nat.le_trans (by decide) sizeLine_ge)
  | dict => exact on1V hk0 ha fun v v' hk h1 => refV hk h1 fun a hk => bDict R G hA hk q
  | sorted =>
    refine on1V hk0 ha fun v v' hk h1 => refV hk h1 fun a hk => e22 (rdDict hk) fun ep es e1 hk => ?_
    induction es using List.casesOn with
    | nil => exact bSortN R G hA e1 hk q
    | cons p r =>
      obtain ⟨p1, p2⟩ := p
      induction p1 using V.casesOn with
      | str x => exact bSortS R G hA e1 hk q
      | _ => exact bSortN R G hA e1 hk q
  | _ => exact hk0.elim
end
end
section
open PySem PySem.W PyProof.Rows PySem.Calls
noncomputable def strEq (x y : Str) : Bool := eqL x.cps.toList y.cps.toList
noncomputable def lookStr {α : Type} (x : Str) (l : List (Str × α)) : Option α := List.rec none (fun p Z D => cond (strEq x p.1) (some p.2) D) l
noncomputable def place (x : Str) (l : List Str) : Option Nat := List.rec none (fun y Z D => cond (strEq x y) (some 0) (D.map (· + 1))) l
structure Cc where
  sl : List Str
  sc : List (Str × NameKind)
  glob : List (Str × V)
  nat : List (Str × Nat)
noncomputable def kindIn (x : Str) (sc : List (Str × NameKind)) : Option NameKind := lookStr x sc
noncomputable def cN (g : Cc) (x : Str) : Ex := match place x g.sl with
  | some i => .loc i
  | none => match kindIn x g.sc with
    | some .globalImplicit => match lookStr x g.glob with
      | some v => .cst v
      | none => .stuck
    | _ => .stuck
noncomputable def cK : Const → Ex
  | .none => .cst .none
  | .bool b => .cst (.bool b)
  | .int i => .cst (.int i)
  | .str x => .cst (.str x.cps.toList)
  | .bytes l => .cst (.bytes (l.map UInt8.toNat))
  | _ => .stuck
noncomputable def opB? : Operator → Option BOp
  | .Add => some .add
  | .Sub => some .sub
  | .Mult => some .mul
  | .FloorDiv => some .fdiv
  | .Mod => some .mod
  | .Pow => some .pow
  | _ => none
noncomputable def opC? : CmpOp → COp
  | .Eq => .eq
  | .NotEq => .ne
  | .Lt => .lt
  | .LtE => .le
  | .Gt => .gt
  | .GtE => .ge
  | .Is => .is
  | .IsNot => .isnt
  | .In => .isin
  | .NotIn => .nin
noncomputable def xk (e : Expr) : Nat := match e with
  | .BoolOp _ _ _ => 13
  | .NamedExpr _ _ _ => 13
  | .BinOp _ _ _ _ => 13
  | .UnaryOp _ _ _ => 13
  | .Lambda _ _ _ _ => 13
  | .IfExp _ _ _ _ => 13
  | .Dict _ _ _ => 13
  | .Set _ _ _ => 11
  | .ListComp _ _ _ _ => 4
  | .SetComp _ _ _ _ => 5
  | .DictComp _ _ _ _ _ => 6
  | .GeneratorExp _ _ _ _ => 13
  | .Await _ _ => 13
  | .Yield _ _ => 13
  | .YieldFrom _ _ => 13
  | .Compare _ _ _ _ => 13
  | .Call _ _ _ _ => 7
  | .FormattedValue _ _ _ _ => 13
  | .JoinedStr _ _ => 13
  | .Constant _ _ _ => 3
  | .Attribute _ _ _ => 1
  | .Subscript _ _ _ => 2
  | .Starred _ _ => 12
  | .Name _ _ => 0
  | .List _ _ => 9
  | .Tuple _ _ _ => 10
  | .Slice _ _ _ _ => 8
noncomputable def baseOk (e : Expr) : Bool := Nat.ble (xk e) 3
noncomputable def plainArgs (l : List Expr) : Bool := l.all fun e => !Nat.beq (xk e) 12
theorem plain_cons {e : Expr} {r : List Expr} (h : plainArgs (e :: r) = true) : (∀ x p, e ≠ .Starred x p) ∧ plainArgs r = true := by
  refine e02 (Bool.and_eq_true_iff.mp (show (!Nat.beq (xk e) 12 && plainArgs r) = true from h)) fun h1 h2 => ?_
  exact ⟨fun x p q => Bool.noConfusion (show false = true from (q ▸ h1 : (!Nat.beq (xk (.Starred x p)) 12) = true)), h2⟩
noncomputable def isSlice (e : Expr) : Bool := Nat.beq (xk e) 8
noncomputable def isComp (e : Expr) : Bool := Nat.ble 4 (xk e) && Nat.ble (xk e) 6
noncomputable def isSet (e : Expr) : Bool := Nat.beq (xk e) 11
noncomputable def zipC : List CmpOp → List Ex → Option (List (COp × Ex))
  | [], [] => some []
  | o :: os, e :: es => match zipC os es with
    | some l => some ((opC? o, e) :: l)
    | none => none
  | _, _ => none
noncomputable def freesOf : List (Str × NameKind) → List Str
  | [] => []
  | (x, .free) :: r => x :: freesOf r
  | _ :: r => freesOf r
noncomputable def relab (sc : List (Str × NameKind)) : List (Str × NameKind) → List (Str × NameKind)
  | [] => []
  | (n, k) :: r => (match k with
    | .free => match kindIn n sc with
      | some .cell => (n, .cell)
      | _ => (n, k)
    | _ => (n, k)) :: relab sc r
noncomputable def noCell : List (Str × NameKind) → Bool
  | [] => true
  | (_, .cell) :: _ => false
  | _ :: r => noCell r
noncomputable def isLocal (k : Option NameKind) : Bool := match k with
  | some .local => true
  | _ => false
noncomputable def locsOk (all : List (Str × NameKind)) : List (Str × NameKind) → Bool
  | [] => true
  | (x, .local) :: r => isLocal (all.lookup x) && locsOk all r
  | _ :: r => locsOk all r
noncomputable def isFun (k : ScopeKind) : Bool := match k with
  | .function => true
  | _ => false
noncomputable def isCF (k : Option NameKind) : Bool := match k with
  | some .cell => true
  | some .free => true
  | _ => false
noncomputable def dbg : Str := "__debug__"
noncomputable def cdict : Str := "__classdict__"
noncomputable def compOk (g : Cc) (x : Str) (sc : Scope) : Bool :=
  isFun sc.kind && isLocal (kindIn x sc.names) && locsOk sc.names sc.names && noCell sc.names && !strEq x dbg && (freesOf sc.names).all fun y => isCF (kindIn y g.sc) && (place y g.sl).isSome && !strEq y dbg && !strEq y cdict && !strEq x y && isCF (kindIn y (relab g.sc sc.names))
noncomputable def compG (g : Cc) (x : Str) (sc : Scope) : Cc := { g with sl := x :: freesOf sc.names, sc := relab g.sc sc.names }
noncomputable def cO (d : Expr → Ex) : Option Expr → Ex
  | none => .cst .none
  | some e => d e
noncomputable def cPs (d : Expr → Ex) : List (Option Expr) → List Expr → Option (List (Ex × Ex))
  | [], [] => some []
  | some k :: ks, v :: vs => match cPs d ks vs with
    | some l => some ((d k, d v) :: l)
    | none => none
  | _, _ => none
noncomputable def pl (x : Ex) : Ex := match x with
  | .not _ => .stuck
  | .and _ => .stuck
  | .or _ => .stuck
  | .ite _ _ _ => .stuck
  | x => x
noncomputable def optE {α : Type} (x : Option α) (f : α → Ex) : Ex := match x with
  | some a => f a
  | none => .stuck
noncomputable def ifE (b : Bool) (x : Ex) : Ex := match b with
  | true => x
  | false => .stuck
noncomputable def nameOf (e : Expr) : Option Str := match e with
  | .Name x _ => some x
  | _ => none
noncomputable def attrOf (e : Expr) : Option (Expr × Str × Pos) := match e with
  | .Attribute o m p => some (o, m, p)
  | _ => none
noncomputable def sliceOf (e : Expr) : Option (Option Expr × Option Expr × Option Expr) := match e with
  | .Slice a b c _ => some (a, b, c)
  | _ => none
theorem nameOf_all (e : Expr) : soms (fun x => ∃ p, e = .Name x p) (nameOf e) := by induction e using PySem.Expr.casesOn <;> first | exact trivial | exact ⟨_, rfl⟩
theorem attrOf_all (e : Expr) : soms (fun q => e = .Attribute q.1 q.2.1 q.2.2) (attrOf e) := by induction e using PySem.Expr.casesOn <;> first | exact trivial | rfl
theorem sliceOf_all (e : Expr) : soms (fun q => ∃ p, e = .Slice q.1 q.2.1 q.2.2 p) (sliceOf e) := by induction e using PySem.Expr.casesOn <;> first | exact trivial | exact ⟨_, rfl⟩
theorem nameOf_inv {e : Expr} {x : Str} (h : nameOf e = some x) : ∃ p, e = .Name x p := soms_at (f := fun x => ∃ p, e = .Name x p) (nameOf_all e) h
noncomputable def genOf (g : Comprehension) : Option (Str × Expr × List Expr) := (nameOf g.target).bind fun x => match decide (g.is_async = 0) with
  | true => some (x, g.iter, g.ifs)
  | false => none
noncomputable def oneGen (l : List Comprehension) : Option (Str × Expr × List Expr) := match l with
  | [] => none
  | g :: r => match r with
    | [] => genOf g
    | _ :: _ => none
theorem oneGen_inv {l : List Comprehension} {q : Str × Expr × List Expr} (h : oneGen l = some q) : ∃ p, l = [⟨.Name q.1 p, q.2.1, q.2.2, 0⟩] := by
  induction l using List.casesOn with
  | nil => exact none_ne h
  | cons g r =>
    induction r using List.casesOn with
    | cons _ _ => exact none_ne h
    | nil =>
      obtain ⟨t, it, ifs, a⟩ := g
      refine e12 (Option.bind_eq_some_iff.mp (show genOf _ = some q from h)) fun x hx h2 => ?_
      refine e11 (nameOf_inv hx) fun p hp => ?_
      cases hd : decide (a = 0) with
      | false =>
        have h2 : (match decide (a = 0) with | true => some (x, it, ifs) | false => none) = some q := h2
        rw [hd] at h2; exact none_ne h2
      | true =>
        have h2 : (match decide (a = 0) with | true => some (x, it, ifs) | false => none) = some q := h2
        rw [hd] at h2; cases h2
        have : t = .Name x p := hp
        subst this
        rw [of_decide_eq_true hd]
        exact ⟨p, rfl⟩
noncomputable def noKw (l : List Keyword) : Bool := match l with
  | [] => true
  | _ :: _ => false
noncomputable def cMeth (D : Expr → Ex) (g : Cc) (args : List Expr) (pos : Pos) (p : Expr × Str × Pos) : Ex :=
  ifE (baseOk p.1 && (decide (args.length < 30) && Nat.beq p.2.2.endLine pos.line)) (optE (lookStr p.2.1 g.nat) fun m => .meth (D p.1) m (args.map D))
noncomputable def cCall (D : Expr → Ex) (g : Cc) (f : Expr) (args : List Expr) (pos : Pos) : Ex := match attrOf f with
  | some p => cMeth D g args pos p
  | none => optE (nameOf f) fun Z => .call (D f) (args.map D)
noncomputable def cSub (D : Expr → Ex) (v s : Expr) : Ex := match sliceOf s with
  | some p => .slc (D v) (cO D p.1) (cO D p.2.1) (cO D p.2.2)
  | none => .idx (D v) (D s)
noncomputable def cX (D : Cc → Expr → Ex) (g : Cc) (e : Expr) : Ex := match e with
  | .Constant c _ _ => cK c
  | .Name x _ => cN g x
  | .BinOp l op r _ => optE (opB? op) fun o => .bin o (D g l) (D g r)
  | .Attribute v a _ => ifE (baseOk v) (optE (lookStr a g.nat) fun f => .attr (D g v) f)
  | .Subscript v s _ => cSub (D g) v s
  | .Call f args kws pos => ifE (noKw kws && plainArgs args) (cCall (D g) g f args pos)
  | .Tuple es _ _ => ifE (decide (es.length ≤ 1000)) (.tup (es.map (D g)))
  | .List es _ => ifE (decide (es.length ≤ 1000)) (.list (es.map (D g)))
  | .Dict ks vs _ => ifE (decide (ks.length ≤ 15)) (optE (cPs (D g) ks vs) .dict)
  | .ListComp elt gens sc _ => optE (oneGen gens) fun q => ifE (compOk g q.1 sc)
      (.lcomp (D (compG g q.1 sc) elt) (D g q.2.1) (q.2.2.map (D (compG g q.1 sc))) ((freesOf sc.names).map fun y => place y g.sl))
  | .DictComp ke ve gens sc _ => optE (oneGen gens) fun q => ifE (compOk g q.1 sc)
      (.dcomp (D (compG g q.1 sc) ke) (D (compG g q.1 sc) ve) (D g q.2.1) (q.2.2.map (D (compG g q.1 sc))) ((freesOf sc.names).map fun y => place y g.sl))
  | _ => .stuck
noncomputable def cBool (op : BoolOp) (l : List Ex) : Ex := match op with
  | .And => .and l
  | .Or => .or l
noncomputable def cUn (op : UnaryOp) (x : Ex) : Ex := match op with
  | .Not => .not x
  | .USub => .neg x
  | _ => .stuck
noncomputable def cCmp (D : Expr → Ex) (l : Expr) (ops : List CmpOp) (rs : List Expr) : Ex :=
  ifE (!lastMarks ops rs) (optE (zipC ops (rs.map D)) fun l' => .cmp (D l) l')
noncomputable def cArm (D : Cc → Expr → Ex) (g : Cc) (e : Expr) : Ex := match e with
  | .BoolOp op vs _ => cBool op (vs.map (D g))
  | .UnaryOp op x _ => cUn op (D g x)
  | .IfExp t a b _ => .ite (D g t) (D g a) (D g b)
  | .Compare l ops rs _ => cCmp (D g) l ops rs
  | e => pl (cX D g e)
noncomputable def cZero (_ : Cc) (_ : Expr) : Ex := .stuck
noncomputable def cStp (_ : Nat) (D : Cc → Expr → Ex) : Cc → Expr → Ex := cArm D
noncomputable def cAll (n : Nat) : Cc → Expr → Ex := Nat.rec cZero cStp n
noncomputable def cE (g : Cc) (n : Nat) : Expr → Ex := cAll n g
noncomputable def place1 (g : Cc) (e : Expr) : Option Nat := (nameOf e).bind fun x => place x g.sl
noncomputable def places (g : Cc) : List Expr → Option (List Nat)
  | [] => some []
  | e :: r => (place1 g e).bind fun i => (places g r).map (i :: ·)
noncomputable def optT {α : Type} (x : Option α) (f : α → Tg) : Tg := match x with
  | some a => f a
  | none => .stuck
noncomputable def ifT (b : Bool) (x : Tg) : Tg := match b with
  | true => .stuck
  | false => x
noncomputable def cT (g : Cc) (n : Nat) (t : Expr) : Tg := match t with
  | .Name x _ => optT (place x g.sl) .loc
  | .Attribute o a _ => optT (lookStr a g.nat) fun f => .attr (cE g n o) f
  | .Subscript o i _ => ifT (isSlice i) (.sub (cE g n o) (cE g n i))
  | .Tuple es _ _ => optT (places g es) .tup
  | _ => .stuck
noncomputable def isLst (e : Expr) : Bool := Nat.beq (xk e) 9
noncomputable def isTpl (e : Expr) : Bool := Nat.beq (xk e) 10
noncomputable def tupOk (t v : Expr) : Bool := !isLst t && !(isTpl t && isTpl v)
noncomputable def isCall (e : Expr) : Bool := Nat.beq (xk e) 7
noncomputable def ifS (b : Bool) (x : St) : St := match b with
  | true => x
  | false => .stuck
noncomputable def nilS {α : Type} (l : List α) (x : St) : St := match l with
  | [] => x
  | _ :: _ => .stuck
noncomputable def oneS {α : Type} (l : List α) (f : α → St) : St := match l with
  | [] => .stuck
  | t :: r => nilS r (f t)
noncomputable def cSt (E : Expr → Ex) (T : Expr → Tg) (D : Stmt → St) (s : Stmt) : St := match s with
  | .Return v _ => .ret (cO E v)
  | .Assign ts v _ => oneS ts fun t => ifS (tupOk t v) (.asg (T t) (E v))
  | .For t it b el _ => nilS el (.for_ (T t) (E it) (b.map D))
  | .While t b el _ => nilS el (.whl (E t) (b.map D))
  | .If t a b _ => .ite (E t) (a.map D) (b.map D)
  | .Expr e _ => ifS (isCall e) (.expr (E e))
  | .Break _ => .brk
  | .Continue _ => .cont
  | _ => .stuck
noncomputable def cSz (_ : Stmt) : St := .stuck
noncomputable def cSp (g : Cc) (n : Nat) (D : Stmt → St) : Stmt → St := cSt (cE g n) (cT g n) D
noncomputable def cS (g : Cc) (n : Nat) : Stmt → St := Nat.rec cSz (cSp g) n
noncomputable def ldOk (W : Wd) (c : Cx) (x : Str) : Slot → Prop
  | .loc => c.env.kindOf x = some .local ∧ c.env.locals = c.L
  | .cell a => (c.env.kindOf x = some .cell ∨ (c.env.kindOf x = some .free ∧ (x == cdict) = false)) ∧ c.env.cells.lookup x = some a
  | .ns C => c.env.kindOf x = some .local ∧ c.env.locals = C
noncomputable def KF (W : Wd) : PF := fun a o => W.K.lookup a = some o
noncomputable def GlobOk (W : Wd) (x : Str) (v : V) : Prop := (x == dbg) = false ∧ ((∃ v', nsIn W.K mainGlobals x = some (some v') ∧ VR W (KF W) v v') ∨ (nsIn W.K mainGlobals x = some none ∧ x ≠ "__name__" ∧ ∃ v', bootBuiltins x = some v' ∧ VR W (KF W) v v'))
structure EnvOk (W : Wd) (c : Cx) (g : Cc) : Prop where
  pre : ∃ t, c.sl.map (·.1) = g.sl ++ t
  sc : c.env.scope.names = g.sc
  ld : ∀ i x sl, i < g.sl.length → c.sl[i]? = some (x, sl) → ldOk W c x sl
  dbg : ∀ x ∈ g.sl, (x == dbg) = false
  glob : ∀ x v, lookStr x g.glob = some v → GlobOk W x v
  nat : ∀ x n, lookStr x g.nat = some n → W.tb.nm n = x
end
section
open PySem PySem.W PyProof.Rows PySem.Calls
theorem strEq_eq (x y : Str) : strEq x y = decide (x = y) := by
  unfold strEq
  rw [← str_eq_iff rfl rfl, str_beq]
theorem strEq_true {x y : Str} (h : strEq x y = true) : x = y := by rw [strEq_eq] at h; exact of_decide_eq_true h
theorem place_get {x : Str} {l : List Str} : ∀ {i : Nat}, place x l = some i → l[i]? = some x := by
  induction l with
  | nil => exact fun e => none_ne e
  | cons y r ih =>
    intro i e
    exact cond_some e (fun q e => by rw [← e, strEq_true q]; rfl) fun Z e => e12 (Option.map_eq_some_iff.mp e) fun j hj e => by rw [← e]; exact (show r[j]? = some x from ih hj)
theorem lookStr_lookup {α : Type} {x : Str} {l : List (Str × α)} : lookStr x l = l.lookup x := by
  induction l with
  | nil => rfl
  | cons p r ih =>
    obtain ⟨y, a⟩ := p
    rw [List.lookup_cons, show (x == y) = strEq x y from (str_beq ..).trans (strEq_eq ..).symm]
    show cond (strEq x y) (some a) (lookStr x r) = _
    rw [ih]
    induction strEq x y using Bool.casesOn <;> rfl
section
variable {W : Wd} {c : Cx} {g : Cc} {ls : Ls} {h : Hp} {news : News'} {s : Shared} {F : PF} {A : Around} {E : Value → Shared → Prop}
noncomputable def PostE (W : Wd) (c : Cx) (ls : Ls) (h : Hp) (news : News') (k : KE) (Q : Value → Shared → Prop) : Prop :=
  ∀ v v' h' news' s', k v h' → VR W (Fx W c h' news') v v' → Rel W c ls h' news' s' → Stab (Fx W c h news) (Fx W c h' news') → Q v' s'
noncomputable def PostB (W : Wd) (c : Cx) (ls : Ls) (h : Hp) (news : News') (k : Bool → Hp → Prop) (Q : Bool → Shared → Prop) : Prop :=
  ∀ b h' news' s', k b h' → Rel W c ls h' news' s' → Stab (Fx W c h news) (Fx W c h' news') → Q b s'
noncomputable def PostL (W : Wd) (c : Cx) (ls : Ls) (h : Hp) (news : News') (n : Nat) (k : List V → Hp → Prop) (Q : List Value → Shared → Prop) : Prop :=
  ∀ v v' h' news' s', v.length = n → k v h' → VRs W (Fx W c h' news') v v' → Rel W c ls h' news' s' → Stab (Fx W c h news) (Fx W c h' news') → Q v' s'
noncomputable def PostR (W : Wd) (c : Cx) (ls : Ls) (h : Hp) (news : News') (k : KE) (R : Result → Shared → Prop) : Prop :=
  ∀ v v' h' news' s', k v h' → VR W (Fx W c h' news') v v' → Rel W c ls h' news' s' → Stab (Fx W c h news) (Fx W c h' news') → R (.ok (.ret v')) s'
noncomputable def CallsOk (W : Wd) (C : Calls) (c : Cx) : Prop :=
  ∀ {A' f vs h k ls news s vs' R}, A'.frames = c.A.frames → A'.handled = none → A'.depth ≤ c.A.depth + 2 → A'.units ≤ c.A.units + 10 → C f vs h k → Rel W c ls h news s → VRs W (Fx W c h news) vs vs' → PostR W c ls h news k R →
    codeAny (model W.prog W.w) A' (.call (.ref (W.tb.fnA f)) ⟨vs', []⟩) R s
noncomputable def SE (W : Wd) (C : Calls) (d m : Nat) : Prop :=
  ∀ {g c e n ls h news s k Q E}, Good W c → c.d = d → EnvOk W c g → Rel W c ls h news s → den W.pr C n (cE g m e) ls h k → PostE W c ls h news k Q → wpAny (model W.prog W.w) c.A (eval e c.env) Q E s
noncomputable def ST (W : Wd) (C : Calls) (d m : Nat) : Prop :=
  ∀ {g c e n ls h news s k Q E}, Good W c → c.d = d → EnvOk W c g → Rel W c ls h news s → denT W.pr C n (cE g m e) ls h k → PostB W c ls h news k Q → wpAny (model W.prog W.w) c.A (PySem.isTrue e c.env (eval e c.env)) Q E s
theorem KF.stab {v : V} {v' : Value} (hv : VR W (KF W) v v') : VR W (Fx W c h news) v v' := hv.stab fun Z Z q => .inr q
theorem lget_some {ls : Ls} {i : Nat} {v : V} (e : lget ls i = some v) : ls[i]? = some (some v) := by
  unfold lget at e
  cases q : ls[i]? with
  | none => rw [q] at e; exact none_ne e
  | some x => rw [q] at e; exact congrArg some e
theorem sLoc {x : Str} {i : Nat} {pos : Pos} {v : V} {Q : Value → Shared → Prop} (G : Good W c) (O : EnvOk W c g) (R : Rel W c ls h news s) (hi : place x g.sl = some i) (hv : ls[i]? = some (some v)) (q : ∀ v', VR W (Fx W c h news) v v' → Q v' s) :
    wpAny (model W.prog W.w) c.A (eval (.Name x pos) c.env) Q E s := by
  refine e12 (R.fr) fun m Fm L => ?_
  have hx := place_get hi
  have hlt : i < g.sl.length := (List.getElem?_eq_some_iff.mp hx).1
  refine e11 (O.pre) fun t ht => ?_
  have : (c.sl.map (·.1))[i]? = some x := by rw [ht, List.getElem?_append_left hlt]; exact hx
  rw [List.getElem?_map] at this
  obtain ⟨⟨y, sl⟩, hsl, hy⟩ := Option.map_eq_some_iff.mp this
  obtain rfl : y = x := hy
  refine e12 (L i _ _ v hsl hv) fun v' hvr hs => ?_
  have hl := O.ld i _ _ hlt hsl
  refine wpAny_Name ?_ (O.dbg y (List.mem_of_getElem? hx))
  induction sl using Slot.casesOn with
  | loc => exact wpAny_loadName_local G.kind hl.1 (hl.2 ▸ Fm.ns) hs (q v' hvr)
  | cell a =>
    refine e12 (hs) fun o hm ho => ?_
    rcases hl.1 with e | ⟨e, e2⟩
    · exact wpAny_loadName_cell G.kind e hl.2 ⟨o, R.at hm, ho⟩ (q v' hvr)
    · exact wpAny_loadName_free G.kind e hl.2 ⟨o, R.at hm, ho⟩ (q v' hvr) e2
  | ns C =>
    refine e23 (hs) fun m' o hm ho hx => ?_
    exact wpAny_loadName_local G.kind hl.1 (hl.2 ▸ ho _ (R.at hm)) hx (q v' hvr)
theorem sGlob {x : Str} {pos : Pos} {v : V} {Q : Value → Shared → Prop} (G : Good W c) (O : EnvOk W c g) (R : Rel W c ls h news s) (hkd : kindIn x g.sc = some .globalImplicit) (hv : lookStr x g.glob = some v) (q : ∀ v', VR W (Fx W c h news) v v' → Q v' s) :
    wpAny (model W.prog W.w) c.A (eval (.Name x pos) c.env) Q E s := by
  refine e12 (R.fr) fun m Fm L => ?_
  have T := G.T.keeps Fm.keep
  refine e02 (O.glob _ _ hv) fun hd hg => ?_
  have hkd' : c.env.kindOf x = some .globalImplicit := by
    unfold Env.kindOf; rw [O.sc, ← lookStr_lookup]; exact hkd
  have hN : s.heap.Ns c.env.globals W.mg := G.glob ▸ T.g
  rcases hg with ⟨v', e, hvr⟩ | ⟨e, hne, v', e2, hvr⟩
  · exact Name_function_global G.kind hkd' (loadGlobal_global hN (mg_of G.X G.T.g e) (q v' (KF.stab hvr))) hd
  · exact Name_function_global G.kind hkd' (loadGlobal_builtin hN (mg_none_of G.X G.T.g e) (show s.heap.Ns c.env.builtins W.mb from G.blt ▸ T.b) ((T.builtins x hne).trans e2) (q v' (KF.stab hvr))) hd
theorem sName {x : Str} {pos : Pos} {C : Calls} {n : Nat} {k : KE} {Q : Value → Shared → Prop} (G : Good W c) (O : EnvOk W c g) (R : Rel W c ls h news s) (hk : den W.pr C n (cN g x) ls h k) (q : PostE W c ls h news k Q) :
    wpAny (model W.prog W.w) c.A (eval (.Name x pos) c.env) Q E s := by
  induction n using Nat.casesOn with
  | zero => exact False.elim hk
  | succ n =>
    unfold cN at hk
    cases hi : place x g.sl with
    | some i =>
      rw [hi] at hk
      refine e12 (onSome_inv (show onSome (fun v => k v h) (lget ls i) from hk)) fun v hv hk => ?_
      exact sLoc G O R hi (lget_some hv) fun v' hvr => q v v' h news s hk hvr R .refl
    | none =>
      rw [hi] at hk
      have hk : den W.pr C (n + 1) (match kindIn x g.sc with
        | some .globalImplicit => match lookStr x g.glob with
          | some v => .cst v
          | none => .stuck
        | _ => .stuck) ls h k := hk
      cases hkd : kindIn x g.sc with
      | none => rw [hkd] at hk; exact False.elim hk
      | some kd =>
        rw [hkd] at hk
        cases kd with
        | globalImplicit =>
          have hk : den W.pr C (n + 1) (match lookStr x g.glob with
            | some v => .cst v
            | none => .stuck) ls h k := hk
          cases hv : lookStr x g.glob with
          | none => rw [hv] at hk; exact False.elim hk
          | some v =>
            rw [hv] at hk
            exact sGlob G O R hkd hv fun v' hvr => q v v' h news s hk hvr R .refl
        | _ => exact False.elim hk
theorem sConst {cc : Const} {kd : Nat} {pos : Pos} {C : Calls} {n : Nat} {k : KE} {Q : Value → Shared → Prop} (R : Rel W c ls h news s) (hk : den W.pr C n (cK cc) ls h k) (q : PostE W c ls h news k Q) :
    wpAny (model W.prog W.w) c.A (eval (.Constant cc kd pos) c.env) Q E s := by
  induction n using Nat.casesOn with
  | zero => exact False.elim hk
  | succ n =>
    cases cc with
    | none => exact wpAny_Constant_none (q _ _ _ _ _ hk .none R .refl)
    | bool b => exact wpAny_Constant_bool (q _ _ _ _ _ hk (.bool _) R .refl)
    | int i => exact wpAny_Constant_int (q _ _ _ _ _ hk (.int _ _) (R.tok _) .refl)
    | str x => exact wpAny_Constant_str (q _ _ _ _ _ hk (.str _ _) (R.tok _) .refl)
    | bytes l =>
      exact Constant_bytes (q _ _ _ _ _ hk (by
        have := VR.bytes (W := W) (F := Fx W c h news) l.toArray s.toks
        simpa using this) (R.tok _) .refl)
    | _ => exact False.elim hk
theorem star_ok {e : Expr} {rest : List Expr} {env : Env} (h : ∀ x p, e ≠ .Starred x p) : starEach (e :: rest) env = (false, eval e env) :: starEach rest env := by
  induction e using PySem.Expr.casesOn <;> first | rfl | exact absurd rfl (h _ _)
theorem not_star {C : Calls} {m n : Nat} {k : KE} {e : Expr} (hk : den W.pr C n (cE g m e) ls h k) : ∀ x p, e ≠ .Starred x p := by
  rintro x p rfl
  induction n using Nat.casesOn with
  | zero => exact False.elim hk
  | succ n => induction m using Nat.casesOn <;> exact False.elim hk
theorem sArgs {C : Calls} {d m : Nat} (ih : SE W C d m) (G : Good W c) (hd : c.d = d) (O : EnvOk W c g) {pos : Pos} {n : Nat} : ∀ {es : List Expr} {h : Hp} {news : News'} {s : Shared} {k : List V → Hp → Prop} {Q : List Value → Shared → Prop}, Rel W c ls h news s →
    denL (atLs (den W.pr C n) ls) (es.map (cE g m)) h k → PostL W c ls h news es.length k Q → wpAny (model W.prog W.w) c.A (spliced (backTo pos (starEach es c.env))) Q E s := by
  intro L0
  induction L0 with
  | nil => exact fun R hk q => args_nil (q [] [] _ _ _ rfl hk .nil R .refl)
  | cons e es ihA =>
    intro h news s k Q R hk q
    have hk : den W.pr C n (cE g m e) ls h (kL1 (denL (atLs (den W.pr C n) ls) (es.map (cE g m))) k) := hk
    refine args_cons (ih G hd O R hk fun v v' h1 n1 s1 hk1 hv R1 st1 => ?_) (star_ok (not_star hk))
    exact ihA R1 hk1 fun vs vs' h2 n2 s2 hl hk2 hvs R2 st2 => q _ _ _ _ _ (by simp [hl]) hk2 (.cons (hv.stab st2) hvs) R2 (st1.trans st2)
end
end
section
open PySem PySem.W PyProof.Rows PySem.Calls
theorem opC_opC (o : CmpOp) : opC (opC? o) = o := by cases o <;> rfl
theorem opB_opB {o : Operator} {b : BOp} (h : opB? o = some b) : opB b = o := by cases o <;> first | exact none_ne h | (cases h; rfl)
theorem MIf.pick {b : Bool} {t e : Prop} (h : MIf b t e) : if b = true then t else e := by
  induction b using Bool.casesOn
  · exact h.e rfl
  · exact h.t rfl
section
variable {W : Wd} {c : Cx} {g : Cc} {ls : Ls} {h : Hp} {news : News'} {s : Shared} {F : PF} {A : Around} {E : Value → Shared → Prop} {C : Calls} {d m : Nat}
theorem Good.u100 (G : Good W c) : c.A.units + 100 < cLine := by have := G.units; lia
theorem zip_cons {o : CmpOp} {os : List CmpOp} {f : Expr → Ex} {rs : List Expr} {l' : List (COp × Ex)} (h : zipC (o :: os) (rs.map f) = some l') : ∃ r rs' l, rs = r :: rs' ∧ zipC os (rs'.map f) = some l ∧ (opC? o, f r) :: l = l' := by
  induction rs using List.casesOn with
  | nil => exact none_ne h
  | cons r rs =>
    have h : (match zipC os (rs.map f) with | some l => some ((opC? o, f r) :: l) | none => none) = some l' := h
    cases hl : zipC os (rs.map f) with
    | none => rw [hl] at h; exact none_ne h
    | some l => rw [hl] at h; exact ⟨r, rs, l, rfl, hl, Option.some.inj h⟩
theorem zip_one {o : CmpOp} {f : Expr → Ex} {rs : List Expr} {l' : List (COp × Ex)} (h : zipC [o] (rs.map f) = some l') : ∃ r, rs = [r] ∧ [(opC? o, f r)] = l' := by
  refine e33 (zip_cons h) fun r rs' l eq1 => ?_
  subst eq1
  intro hl e
  induction rs' using List.casesOn with
  | nil => cases hl; exact ⟨r, rfl, e⟩
  | cons _ _ => exact none_ne hl
theorem zip_two {o o2 : CmpOp} {os : List CmpOp} {f : Expr → Ex} {rs : List Expr} {l' : List (COp × Ex)} (h : zipC (o :: o2 :: os) (rs.map f) = some l') : ∃ r r2 rs' x l, rs = r :: r2 :: rs' ∧ zipC (o2 :: os) ((r2 :: rs').map f) = some (x :: l) ∧ (opC? o, f r) :: x :: l = l' := by
  refine e33 (zip_cons h) fun r rs' l eq1 => ?_
  subst eq1
  intro hl e
  refine e33 (zip_cons hl) fun r2 rs2 l2 eq1 => ?_
  subst eq1
  intro hl2 e2
  subst e2
  exact ⟨r, r2, rs2, _, l2, rfl, hl, e⟩
theorem sChain (ih : SE W C d m) (G : Good W c) (hd : c.d = d) (O : EnvOk W c g) {pos : Pos} {n : Nat} : ∀ {ops : List CmpOp} {rs : List Expr} {l' : List (COp × Ex)} {h : Hp} {news : News'} {s : Shared} {k : KE} {a : V} {a' : Value} {Q : Value → Shared → Prop},
    zipC ops (rs.map (cE g m)) = some l' → Rel W c ls h news s → VR W (Fx W c h news) a a' → denCmp (atLs (den W.pr C n) ls) a l' h k → PostE W c ls h news k Q →
    wpAny (model W.prog W.w) c.A (compareChain pos a' ops (evalEach rs c.env)) Q E s := by
  intro ops
  induction ops with
  | nil =>
    intro rs l' h news s k a a' Q hz R ha hk q
    induction rs using List.casesOn with
    | nil => cases hz; exact False.elim hk
    | cons r rs => exact none_ne hz
  | cons o os ihO =>
    intro rs l' h news s k a a' Q hz R ha hk q
    induction os using List.casesOn with
    | nil =>
      refine e12 (zip_one hz) fun r e ez => ?_
      subst e ez
      refine chain_last (ih G hd O R hk fun v v' h1 n1 s1 hk1 hv R1 st1 => ?_)
      have := sCmp (QQ := Q) (E := E) R1 G G.u100 (ha.stab st1) hv hk1 fun x x' s2 hk2 hx R2 => q _ _ _ _ _ hk2 hx R2 st1
      rwa [opC_opC] at this
    | cons o2 os =>
      refine e53 (zip_two hz) fun r r2 rs x l2 e hl ez => ?_
      subst e ez
      refine chain_link (ih G hd O R hk fun v v' h1 n1 s1 hk1 hv R1 st1 => ?_)
      have := sCmp (QQ := fun cv s2 => wpAny (model W.prog W.w) c.A (PySem.truthy cv) (fun t s₃ => if t then wpAny (model W.prog W.w) c.A (compareChain pos v' (o2 :: os) (eval r2 c.env :: evalEach rs c.env)) Q E s₃ else Q cv s₃) E s2) (E := E) R1 G G.u100 (ha.stab st1) hv hk1 fun x x' s2 hk2 hx R2 => ?_
      · rwa [opC_opC] at this
      · refine e12 (onBool_inv hk2) fun t eq1 => ?_
        subst eq1
        intro hk2
        cases vr_bool hx
        refine wpAny_truthy_bool ?_
        induction t using Bool.casesOn
        · exact q _ _ _ _ _ (hk2.e rfl) (.bool _) R2 st1
        · exact ihO (rs := r2 :: rs) hl R2 hv (hk2.t rfl) fun v v' h' n' s' a1 a2 a3 a4 => q _ _ _ _ _ a1 a2 a3 (st1.trans a4)
theorem sTest (ih : SE W C d m) (G : Good W c) (hd : c.d = d) (O : EnvOk W c g) {pos : Pos} {n : Nat} : ∀ {ops : List CmpOp} {rs : List Expr} {l' : List (COp × Ex)} {h : Hp} {news : News'} {s : Shared} {k : Bool → Hp → Prop} {a : V} {a' : Value} {Q : Bool → Shared → Prop},
    zipC ops (rs.map (cE g m)) = some l' → Rel W c ls h news s → VR W (Fx W c h news) a a' → denCmp (atLs (den W.pr C n) ls) a l' h (kTru k) → PostB W c ls h news k Q →
    wpAny (model W.prog W.w) c.A (testChain pos a' ops (evalEach rs c.env)) Q E s := by
  intro ops
  induction ops with
  | nil =>
    intro rs l' h news s k a a' Q hz R ha hk q
    induction rs using List.casesOn with
    | nil => cases hz; exact False.elim hk
    | cons r rs => exact none_ne hz
  | cons o os ihO =>
    intro rs l' h news s k a a' Q hz R ha hk q
    induction os using List.casesOn with
    | nil =>
      refine e12 (zip_one hz) fun r e ez => ?_
      subst e ez
      refine test_last (ih G hd O R hk fun v v' h1 n1 s1 hk1 hv R1 st1 => ?_)
      have := sCmp (QQ := fun cv s2 => wpAny (model W.prog W.w) c.A (PySem.truthy cv) Q E s2) (E := E) R1 G G.u100 (ha.stab st1) hv hk1 fun x x' s2 hk2 hx R2 => sTruthy (k := fun b => k b h1) R2 hx hk2 fun b s3 hb R3 => q _ _ _ _ hb R3 st1
      rwa [opC_opC] at this
    | cons o2 os =>
      refine e53 (zip_two hz) fun r r2 rs x l2 e hl ez => ?_
      subst e ez
      refine test_link (ih G hd O R hk fun v v' h1 n1 s1 hk1 hv R1 st1 => ?_)
      have := sCmp (QQ := fun cv s2 => wpAny (model W.prog W.w) c.A (PySem.truthy cv) (fun t s₃ => if t then wpAny (model W.prog W.w) c.A (testChain pos v' (o2 :: os) (eval r2 c.env :: evalEach rs c.env)) Q E s₃ else Q false s₃) E s2) (E := E) R1 G G.u100 (ha.stab st1) hv hk1 fun x x' s2 hk2 hx R2 => ?_
      · rwa [opC_opC] at this
      · refine e12 (onBool_inv hk2) fun t eq1 => ?_
        subst eq1
        intro hk2
        cases vr_bool hx
        refine wpAny_truthy_bool ?_
        induction t using Bool.casesOn
        · exact q _ _ _ _ (hk2.e rfl) R2 st1
        · exact ihO (rs := r2 :: rs) hl R2 hv (hk2.t rfl) fun b h' n' s' a1 a3 a4 => q _ _ _ _ a1 a3 (st1.trans a4)
theorem sAnd (ih : SE W C d m) (G : Good W c) (hd : c.d = d) (O : EnvOk W c g) {pos : Pos} {n : Nat} : ∀ {es : List Expr} {h : Hp} {news : News'} {s : Shared} {k : KE} {Q : Value → Shared → Prop},
    Rel W c ls h news s → denAnd (atLs (den W.pr C n) ls) (es.map (cE g m)) h k → PostE W c ls h news k Q → wpAny (model W.prog W.w) c.A (boolOp pos .And (evalEach es c.env)) Q E s := by
  intro es
  induction es with
  | nil => exact fun R hk q => hk.elim
  | cons e es ihO =>
    intro h news s k Q R hk q
    induction es using List.casesOn with
    | nil => exact ih G hd O R hk q
    | cons e2 es =>
      show wpAny _ _ (eval e c.env >>= _) _ _ _
      refine wpAny_bind (ih G hd O R hk fun v v' h1 n1 s1 hk1 hv R1 st1 => ?_)
      refine wpAny_bind (wpAny_standAt (wpAny_bind (wpAny_holding (sTruthy R1 hv hk1 fun b s2 hk2 R2 => ?_))))
      induction b using Bool.casesOn
      · exact wpAny_pure (q _ _ _ _ _ (hk2.e rfl) hv R2 st1)
      · exact ihO R2 (hk2.t rfl) fun v v' h' n' s' a1 a2 a3 a4 => q _ _ _ _ _ a1 a2 a3 (st1.trans a4)
theorem sOr (ih : SE W C d m) (G : Good W c) (hd : c.d = d) (O : EnvOk W c g) {pos : Pos} {n : Nat} : ∀ {es : List Expr} {h : Hp} {news : News'} {s : Shared} {k : KE} {Q : Value → Shared → Prop},
    Rel W c ls h news s → denOr (atLs (den W.pr C n) ls) (es.map (cE g m)) h k → PostE W c ls h news k Q → wpAny (model W.prog W.w) c.A (boolOp pos .Or (evalEach es c.env)) Q E s := by
  intro es
  induction es with
  | nil => exact fun R hk q => hk.elim
  | cons e es ihO =>
    intro h news s k Q R hk q
    induction es using List.casesOn with
    | nil => exact ih G hd O R hk q
    | cons e2 es =>
      show wpAny _ _ (eval e c.env >>= _) _ _ _
      refine wpAny_bind (ih G hd O R hk fun v v' h1 n1 s1 hk1 hv R1 st1 => ?_)
      refine wpAny_bind (wpAny_standAt (wpAny_bind (wpAny_holding (sTruthy R1 hv hk1 fun b s2 hk2 R2 => ?_))))
      induction b using Bool.casesOn
      · exact ihO R2 (hk2.e rfl) fun v v' h' n' s' a1 a2 a3 a4 => q _ _ _ _ _ a1 a2 a3 (st1.trans a4)
      · exact wpAny_pure (q _ _ _ _ _ (hk2.t rfl) hv R2 st1)
theorem goA_nil {P : Pr} {n : Nat} {k : KB} (hk : goA P C n [] ls h k) : k true h := by induction n using Nat.casesOn <;> exact hk
theorem goO_nil {P : Pr} {n : Nat} {k : KB} (hk : goO P C n [] ls h k) : k false h := by induction n using Nat.casesOn <;> exact hk
theorem sAllT (it : ST W C d m) (G : Good W c) (hd : c.d = d) (O : EnvOk W c g) : ∀ {es : List Expr} {n : Nat} {h : Hp} {news : News'} {s : Shared} {k : Bool → Hp → Prop} {Q : Bool → Shared → Prop},
    Rel W c ls h news s → goA W.pr C n (es.map (cE g m)) ls h k → PostB W c ls h news k Q → wpAny (model W.prog W.w) c.A (allTrue .And es c.env) Q E s := by
  intro es
  induction es with
  | nil => exact fun R hk q => wpAny_allTrue_And_nil (q _ _ _ _ (goA_nil hk) R .refl)
  | cons e es ihO =>
    intro n h news s k Q R hk q
    induction n using Nat.casesOn with
    | zero => exact False.elim hk
    | succ n =>
      refine wpAny_allTrue_And_cons (it G hd O R hk fun b h1 n1 s1 hk1 R1 st1 => ?_)
      induction b using Bool.casesOn
      · exact q _ _ _ _ (hk1.e rfl) R1 st1
      · exact ihO R1 (hk1.t rfl) fun b h' n' s' a1 a3 a4 => q _ _ _ _ a1 a3 (st1.trans a4)
theorem sAnyT (it : ST W C d m) (G : Good W c) (hd : c.d = d) (O : EnvOk W c g) : ∀ {es : List Expr} {n : Nat} {h : Hp} {news : News'} {s : Shared} {k : Bool → Hp → Prop} {Q : Bool → Shared → Prop},
    Rel W c ls h news s → goO W.pr C n (es.map (cE g m)) ls h k → PostB W c ls h news k Q → wpAny (model W.prog W.w) c.A (allTrue .Or es c.env) Q E s := by
  intro es
  induction es with
  | nil => exact fun R hk q => wpAny_allTrue_Or_nil (q _ _ _ _ (goO_nil hk) R .refl)
  | cons e es ihO =>
    intro n h news s k Q R hk q
    induction n using Nat.casesOn with
    | zero => exact False.elim hk
    | succ n =>
      refine wpAny_allTrue_Or_cons (it G hd O R hk fun b h1 n1 s1 hk1 R1 st1 => ?_)
      induction b using Bool.casesOn
      · exact ihO R1 (hk1.e rfl) fun b h' n' s' a1 a3 a4 => q _ _ _ _ a1 a3 (st1.trans a4)
      · exact q _ _ _ _ (hk1.t rfl) R1 st1
end
end
section
open PySem PySem.W PyProof.Rows PySem.Calls
inductive ItOb : Src → List V → Nat → Obj → Prop
  | rng {lo st : Int} {n i : Nat} {ob} : i ≤ n → ob = { cls := .type "range_iterator", data := .fields #[rawInt (lo + i * st), rawInt (n - i), rawInt st] } → ItOb .free (rngL lo st n) i ob
  | bytes {b : Array UInt8} {t : Tok} {i : Nat} {ob : Obj} : ob.cls = .type "bytes_iterator" → ob.data = .fields #[.bytes b t, .int i 0] → ItOb .free ((b.toList.map UInt8.toNat).map fun (c : Nat) => V.int (c : Int)) i ob
  | list {a all i} {ob : Obj} : ob.cls = .type "list_iterator" → ob.data = .fields #[.ref a, .int (i : Nat) 0] → ItOb (.list a) all i ob
  | dict {a ep all i} {ob : Obj} : ob.cls = .type "dict_keyiterator" → ob.data = .fields #[.ref a, .int (i : Nat) 0, .int (all.length : Nat) 0, .int (ep : Nat) 0] → ItOb (.dict a ep) all i ob
noncomputable def ItAt (c : Cx) (src : Src) (all : List V) (i : Nat) (I : Addr) (h : Hp) (news : News') : Prop :=
  h.get I = none ∧ I ∉ c.ex ∧ ∃ ob, (I, ob) ∈ news ∧ ItOb src all i ob
noncomputable def StabBut (I : Addr) (F F' : PF) : Prop := ∀ b o, F b o → (b ≠ I ∨ kd o = true) → F' b o
theorem ItOb.iterO {src all i ob} (h : ItOb src all i ob) : iterO ob = true := by
  induction h using ItOb.casesOn with
  | rng _ e => subst e; rfl
  | bytes h1 h2 => unfold Mi.iterO; rw [h2, h1]; rfl
  | list h1 h2 => unfold Mi.iterO; rw [h2, h1]; rfl
  | dict h1 h2 => unfold Mi.iterO; rw [h2, h1]; rfl
theorem rngL_length (lo st : Int) (n : Nat) : (rngL lo st n).length = n := by
  induction n generalizing lo with
  | zero => rfl
  | succ n ih => exact congrArg (· + 1) (ih (lo + st))
theorem rngL_get (lo st : Int) (n i : Nat) (h : i < n) : (rngL lo st n)[i]? = some (.int (lo + i * st)) := by
  induction n generalizing lo i with
  | zero => exact absurd h (Nat.not_lt_zero _)
  | succ n ih =>
    induction i using Nat.casesOn with
    | zero => exact congrArg (fun z => some (V.int z)) (by simp)
    | succ i => exact (ih (lo + st) i (Nat.lt_of_succ_lt_succ h)).trans (congrArg (fun z => some (V.int z)) (by rw [Int.natCast_succ, Int.add_mul]; lia))
theorem VRs.get2 {W : Wd} {F : PF} {l : List V} {vs : List Value} (h : VRs W F l vs) {i : Nat} {v : V} (e : l[i]? = some v) : ∃ v', vs.toArray[i]? = some v' ∧ VR W F v v' := by
  refine e12 (h.get e) fun v' e' q => ?_
  exact ⟨v', by simpa using e', q⟩
theorem VRs.getNone {W : Wd} {F : PF} {l : List V} {vs : List Value} (h : VRs W F l vs) {i : Nat} (e : l[i]? = none) : vs.toArray[i]? = none := by
  have := h.length
  rw [List.getElem?_eq_none_iff] at e
  rw [List.getElem?_toArray, List.getElem?_eq_none_iff]
  lia
section
variable {W : Wd} {c : Cx} {g : Cc} {ls : Ls} {h : Hp} {news : News'} {s : Shared} {F : PF} {A : Around} {E : Value → Shared → Prop} {C : Calls} {d m : Nat}
theorem Rel.dictEp (R : Rel W c ls h news s) {a ep : Nat} {l : List (V × V)} (e : h.get a = some (.dict ep l)) :
    (∃ kvs, KVI W (Fx W c h news) l kvs ∧ s.heap.DictAt (intKind W.prog W.w) a kvs ep) ∨ (∃ kvs, KVS W (Fx W c h news) l kvs ∧ s.heap.DictAt (strKind W.prog W.w) a kvs ep) := by
  cases R.hp _ _ e with
  | @dictI _ kvs o _ hm hd he hr =>
    refine e23 (hd) fun es ep' h1 h2 h3 => ?_
    have : ep' = ep := by rw [← he]; unfold epOf; rw [h2]
    subst this
    exact .inl ⟨kvs, hr, o, es, R.at hm, h1, h2, h3⟩
  | @dictS _ kvs o _ hm hd he hr =>
    refine e23 (hd) fun es ep' h1 h2 h3 => ?_
    have : ep' = ep := by rw [← he]; unfold epOf; rw [h2]
    subst this
    exact .inr ⟨kvs, hr, o, es, R.at hm, h1, h2, h3⟩
theorem sIter {v : V} {v' : Value} {k : Src → List V → Prop} {Q : Value → Shared → Prop} (R : Rel W c ls h news s) (G : Good W c) (hv : VR W (Fx W c h news) v v') (hk : srcOf v h k)
    (q : ∀ src all I news' s', k src all → Rel W c ls h news' s' → Stab (Fx W c h news) (Fx W c h news') → ItAt c src all 0 I h news' → src.same all h → (∀ p ∈ news, p ∈ news') → I ∉ news.map (·.1) → Q (.ref I) s') :
    wpAny (model W.prog W.w) A (pyIter v') Q E s := by
  have fin : ∀ {src all} {ob : Obj}, k src all → ob.isFreed = false → ItOb src all 0 ob → src.same all h → Q (.ref s.heap.objs.size) { s with heap := s.heap.push ob } := by
    intro src all ob hk hf ho hs
    refine e03 (R.push ob hf) fun R' st f => ?_
    have := R.freshN (Nat.le_refl s.heap.objs.size)
    refine q _ _ _ _ _ hk R' st ⟨this.1, this.2, ob, .head _, ho⟩ hs (fun p hp => .tail _ hp) fun hm => ?_
    refine e12 (List.mem_map.mp hm) fun p hp e => ?_
    exact absurd (e ▸ R.lt (o := p.2) hp) (Nat.lt_irrefl _)
  induction v using V.casesOn with
  | rng lo st n =>
    cases hv with
    | @rng _ hi _ _ a t u w hf hs hn =>
      refine wpAny_pyIter_range (a := lo) (b := hi) (c := st) (t := t) (u := u) (v := w) (R.fact G hf) hs ?_
      refine fin hk rfl (.rng (Nat.zero_le n) ?_) trivial
      rw [hn]
      simp
  | bytes l =>
    refine bytesE hv fun b t hb => ?_
    subst hb
    exact KBw.pyIter_bytes (fin hk rfl (.bytes rfl rfl) trivial)
  | ref a =>
    refine refE hv ?_
    obtain ⟨o, e1, hk⟩ := hk
    induction o using O.casesOn with
    | list l =>
      refine e23 (R.listAt e1) fun vs n m1 r1 i1 => ?_
      exact wpAny_pyIter_list i1 (fin hk rfl (.list rfl rfl) e1)
    | dict ep es =>
      rcases R.dictEp e1 with ⟨kvs, hr, hd⟩ | ⟨kvs, hr, hd⟩
      · have hm : ∃ o, (a, o) ∈ news := by cases R.hp _ _ e1 with
          | dictI hm _ _ _ => exact ⟨_, hm⟩
          | dictS hm _ _ _ => exact ⟨_, hm⟩
        refine e11 (hm) fun o hm => ?_
        refine wpAny_pyIter_dict (G.mini_gt R hm) hd (fin hk rfl (.dict rfl ?_) ⟨es, e1, rfl⟩)
        rw [List.length_map, hr.length]; rfl
      · have hm : ∃ o, (a, o) ∈ news := by cases R.hp _ _ e1 with
          | dictI hm _ _ _ => exact ⟨_, hm⟩
          | dictS hm _ _ _ => exact ⟨_, hm⟩
        refine e11 (hm) fun o hm => ?_
        refine wpAny_pyIter_dict (G.mini_gt R hm) hd (fin hk rfl (.dict rfl ?_) ⟨es, e1, rfl⟩)
        rw [List.length_map, hr.length]; rfl
    | _ => exact hk.elim
  | _ => exact hk.elim
theorem kvi_get {l : List (V × V)} {kvs : List (Int × Value)} (hr : KVI W F l kvs) {i : Nat} {v : V} (e : (l.map (·.1))[i]? = some v) : ∃ k x, kvs[i]? = some (k, x) ∧ v = .int k := by
  induction hr generalizing i with
  | nil => simp at e
  | @cons j _ x _ _ _ _ ih =>
    induction i using Nat.casesOn with
    | zero => simp at e; subst e; exact ⟨j, x, rfl, rfl⟩
    | succ i => simpa using ih (by simpa using e)
theorem kvs_get {l : List (V × V)} {kvs : List (Str × Value)} (hr : KVS W F l kvs) {i : Nat} {v : V} (e : (l.map (·.1))[i]? = some v) : ∃ k x, kvs[i]? = some (k, x) ∧ v = .str k.cps.toList := by
  induction hr generalizing i with
  | nil => simp at e
  | @cons j _ x _ _ _ _ ih =>
    induction i using Nat.casesOn with
    | zero => simp at e; subst e; exact ⟨j, x, rfl, rfl⟩
    | succ i => simpa using ih (by simpa using e)
theorem sNext {src : Src} {all : List V} {i : Nat} {I : Addr} {Q : Option Value → Shared → Prop} (R : Rel W c ls h news s) (G : Good W c) (hA : A.handled = none) (hI : ItAt c src all i I h news) (hs : src.same all h)
    (qe : ∀ news' s', all[i]? = none → Rel W c ls h news' s' → StabBut I (Fx W c h news) (Fx W c h news') → (∀ b o, (b, o) ∈ news → b ≠ I → (b, o) ∈ news') → Q none s')
    (qi : ∀ v v' news' s', all[i]? = some v → VR W (Fx W c h news') v v' → Rel W c ls h news' s' → StabBut I (Fx W c h news) (Fx W c h news') → ItAt c src all (i + 1) I h news' → (∀ b o, (b, o) ∈ news → b ≠ I → (b, o) ∈ news') → Q (some v') s') :
    wpAny (model W.prog W.w) A (pyNext (.ref I)) Q E s := by
  obtain ⟨hn, hex, ob, hm, ho⟩ := hI
  have hat := R.at hm
  have hit := ho.iterO
  have done : ∀ h', all[i]? = none → Heap.ExtBut I s.heap h' → Q none { s with heap := h' } := fun h' e he => by
    refine e13 (R.ext hm hn hex he hit s.toks) fun news' R' st mm => ?_
    exact qe news' _ e R' st mm
  have item : ∀ {v v' h' tk ob'}, all[i]? = some v → Heap.SameBut I s.heap h' → h'.get? I = some ob' → ItOb src all (i + 1) ob' → (∀ F', (∀ b o, Fx W c h news b o → (b ≠ I ∨ kd o = true) → F' b o) → VR W F' v v') → Q (some v') { s with heap := h', toks := tk } := by
    intro v v' h' tk ob' e hsb hg ho' hv
    refine e02 (R.temp hm hn hex hsb hg hit tk) fun R' st => ?_
    exact qi v v' _ _ e (hv _ st) R' st ⟨hn, hex, ob', updN_self hm, ho'⟩ fun b o hp hb => updN_ne hp hb
  induction ho using ItOb.casesOn with
  | @rng lo st n i ob hin e =>
    subst e
    by_cases hlt : i < n
    · refine wpAny_pyNext_range_item hat (by lia) fun h' hr hsb => ?_
      have e1 : lo + (i : Int) * st + st = lo + ((i + 1 : Nat) : Int) * st := by rw [Int.natCast_add, Int.add_mul]; lia
      have e2 : (n : Int) - (i : Int) - 1 = (n : Int) - ((i + 1 : Nat) : Int) := by lia
      exact item (rngL_get lo st n i hlt) hsb hr (.rng (by lia) (by rw [e1, e2])) fun F' Z => .int _ _
    · have : i = n := by lia
      subst this
      exact wpAny_pyNext_range_end hA hat (by lia) fun h' he => done h' (by rw [List.getElem?_eq_none_iff, rngL_length]; exact Nat.le_refl _) he
  | @bytes b t i ob h1 h2 =>
    have hI : KBw.IsBytesIter s.heap I b t i := ⟨ob, hat, h1, h2⟩
    cases hb : b[i]? with
    | none =>
      exact KBw.next_end hA hI hb fun h' he => done h' (by
        simp only [List.getElem?_map, Array.getElem?_toList, hb]; rfl) he
    | some x =>
      refine KBw.next_item hI hb fun h' hi hsb => ?_
      refine e13 (hi) fun ob' g1 g2 g3 => ?_
      clear hi
      exact item (v := .int x.toNat) (by simp only [List.getElem?_map, Array.getElem?_toList, hb]; rfl) hsb g1 (.bytes g2 g3) fun F' Z => .int _ _
  | @list a all i ob h1 h2 =>
    have hI : s.heap.IsListIter I a i := ⟨ob, hat, h1, h2⟩
    refine e23 (R.listAt hs) fun vs n m1 r1 i1 => ?_
    cases he : all[i]? with
    | none => exact wpAny_pyNext_list_end hA hI i1 (r1.getNone he) fun h' hx => done h' he hx
    | some v =>
      refine e12 (r1.get2 he) fun v' e' hv => ?_
      refine wpAny_pyNext_list_item hI i1 e' fun h' hi hsb => ?_
      refine e13 (hi) fun ob' g1 g2 g3 => ?_
      clear hi
      exact item he hsb g1 (.list g2 g3) fun F' st => hv.mono fun a o hk hf => st _ _ hf (.inr hk)
  | @dict a ep all i ob h1 h2 =>
    refine e12 (hs) fun es e1 e2 => ?_
    clear hs
    subst e2
    rcases R.dictEp e1 with ⟨kvs, hr, hd⟩ | ⟨kvs, hr, hd⟩
    · have hI : s.heap.IsKeyIter I a i kvs.length ep := ⟨ob, hat, h1, by rw [h2, List.length_map, hr.length]⟩
      cases he : (es.map (·.1))[i]? with
      | none => exact wpAny_pyNext_dict_end hA hI hd (by
          rw [List.getElem?_eq_none_iff, List.length_map] at he
          rw [List.getElem?_eq_none_iff, ← hr.length]; exact he) fun h' hx => done h' he hx
      | some v =>
        refine e22 (kvi_get hr he) fun kk x e3 eq1 => ?_
        subst eq1
        refine wpAny_pyNext_dict_item hI hd e3 fun key h' hkey hi hsb => ?_
        refine e13 (hi) fun ob' g1 g2 g3 => ?_
        clear hi
        refine e11 (Value.isInt_shape (show Value.isInt kk key = true from hkey)) fun t eq1 => ?_
        subst eq1
        exact item he hsb g1 (.dict g2 (by rw [g3, List.length_map, hr.length])) fun F' Z => .int _ _
    · have hI : s.heap.IsKeyIter I a i kvs.length ep := ⟨ob, hat, h1, by rw [h2, List.length_map, hr.length]⟩
      cases he : (es.map (·.1))[i]? with
      | none => exact wpAny_pyNext_dict_end hA hI hd (by
          rw [List.getElem?_eq_none_iff, List.length_map] at he
          rw [List.getElem?_eq_none_iff, ← hr.length]; exact he) fun h' hx => done h' he hx
      | some v =>
        refine e22 (kvs_get hr he) fun kk x e3 eq1 => ?_
        subst eq1
        refine wpAny_pyNext_dict_item hI hd e3 fun key h' hkey hi hsb => ?_
        refine e13 (hi) fun ob' g1 g2 g3 => ?_
        clear hi
        refine e11 (Value.isStrOf_shape (show Value.isStrOf kk key = true from hkey)) fun t eq1 => ?_
        subst eq1
        exact item he hsb g1 (.dict g2 (by rw [g3, List.length_map, hr.length])) fun F' Z => .str _ _
theorem sSelf {src : Src} {all : List V} {i : Nat} {I : Addr} {Q : Value → Shared → Prop} (R : Rel W c ls h news s) (G : Good W c) (hA : A.handled = none) (hI : ItAt c src all i I h news) (hs : src.same all h) (q : Q (.ref I) s) :
    wpAny (model W.prog W.w) A (pyIter (.ref I)) Q E s := by
  obtain ⟨hn, hex, ob, hm, ho⟩ := hI
  have hat := R.at hm
  have ne : ∀ {a : Nat} {o : O}, h.get a = some o → a ≠ I := fun e q => by rw [q, hn] at e; cases e
  induction ho using ItOb.casesOn with
  | @rng lo st n i ob hin e =>
    subst e
    exact (Walks.range hA I lo st n).self i s _ _ hat q
  | @bytes b t i ob h1 h2 => exact KBw.pyIter_self ⟨ob, hat, h1, h2⟩ q
  | @list a all i ob h1 h2 =>
    refine e23 (R.listAt hs) fun vs n m1 r1 i1 => ?_
    exact (Walks.list hA I a (ne hs) vs.toArray).self i s _ _ ⟨⟨ob, hat, h1, h2⟩, i1⟩ q
  | @dict a ep all i ob h1 h2 =>
    refine e12 (hs) fun es e1 e2 => ?_
    clear hs
    subst e2
    rcases R.dictEp e1 with ⟨kvs, hr, hd⟩ | ⟨kvs, hr, hd⟩
    · exact (Walks.dictKeys (knd := intKind W.prog W.w) hA I a (ne e1) kvs ep).self i s _ _ ⟨⟨ob, hat, h1, by rw [h2, List.length_map, hr.length]⟩, hd⟩ q
    · exact (Walks.dictKeys (knd := strKind W.prog W.w) hA I a (ne e1) kvs ep).self i s _ _ ⟨⟨ob, hat, h1, by rw [h2, List.length_map, hr.length]⟩, hd⟩ q
end
end
section
open PySem PySem.W PyProof.Rows PySem.Calls
section
variable {W : Wd} {c : Cx} {g : Cc} {ls : Ls} {h : Hp} {news : News'} {s : Shared} {F : PF} {A : Around} {E : Value → Shared → Prop} {C : Calls} {d m : Nat} {D : Addr}
noncomputable def Cx.comp (c : Cx) (env' : Env) (C : Addr) (x : Str) (mid : List (Str × Slot)) : Cx := { c with env := env', sl := (x, .ns C) :: (mid ++ c.sl), ex := C :: c.ex }
theorem comp_get {c : Cx} {env' : Env} {C : Addr} {x : Str} {mid : List (Str × Slot)} {vals : List (Option V)} {o : Option V} {ls : Ls} (hl : vals.length = mid.length) {i : Nat} {y : Str} {sl : Slot} {v : V}
    (h1 : (c.comp env' C x mid).sl[i]? = some (y, sl)) (h2 : (o :: (vals ++ ls))[i]? = some (some v)) :
    (i = 0 ∧ y = x ∧ sl = .ns C ∧ o = some v) ∨ (∃ j : Nat, mid[j]? = some (y, sl) ∧ vals[j]? = some (some v)) ∨ (∃ j : Nat, c.sl[j]? = some (y, sl) ∧ ls[j]? = some (some v)) := by
  induction i using Nat.casesOn with
  | zero =>
    left
    simp only [Cx.comp, List.getElem?_cons_zero, Option.some.injEq, Prod.mk.injEq] at h1 h2
    exact ⟨rfl, h1.1.symm, h1.2.symm, h2⟩
  | succ i =>
    right
    simp only [Cx.comp, List.getElem?_cons_succ] at h1 h2
    by_cases hlt : i < mid.length
    · left
      rw [List.getElem?_append_left hlt] at h1
      rw [List.getElem?_append_left (by lia)] at h2
      exact ⟨i, h1, h2⟩
    · right
      rw [List.getElem?_append_right (by lia)] at h1
      rw [List.getElem?_append_right (by lia), hl] at h2
      exact ⟨_, h1, h2⟩
theorem Rel.enterC (R : Rel W c ls h news s) {env' : Env} {C : Addr} {x : Str} {mid : List (Str × Slot)} {vals : List (Option V)} {hh : Heap} {oC : Obj} (hC : C = s.heap.objs.size) (hk : ∀ b o, s.heap.get? b = some o → hh.get? b = some o) (hg : hh.get? C = some oC) (tk : Nat)
    (hl : vals.length = mid.length) (hmid : ∀ (j : Nat) y sl, mid[j]? = some (y, sl) → (∃ a, sl = .cell a) ∧ ∃ i : Nat, c.sl[i]? = some (y, sl) ∧ ∀ v, vals[j]? = some (some v) → ls[i]? = some (some v)) :
    Rel W (c.comp env' C x mid) (none :: (vals ++ ls)) h ((C, oC) :: news) { s with heap := hh, toks := tk } ∧ Stab (Fx W c h news) (Fx W (c.comp env' C x mid) h ((C, oC) :: news)) := by
  subst hC
  refine e12 (R.fr) fun m F L => ?_
  have hn := R.noneAt R.top_le
  have F' := F.keeps hk
  have hs : Stab (Fx W c h news) (Fx W (c.comp env' s.heap.objs.size x mid) h ((s.heap.objs.size, oC) :: news)) := fun b y hx => hx.imp (fun z => e03 z fun p q r => ⟨.tail _ p, q, fun e => by
    rcases List.mem_cons.mp e with e | e
    · exact Nat.ne_of_lt (R.lt p) e
    · exact r e⟩) id
  have hCL : s.heap.objs.size ≠ c.L := by
    refine e32 (F.ns) fun oL Z Z hL Z => ?_
    exact fun e => absurd (Heap.lt_size hL) (by rw [← e]; exact Nat.lt_irrefl _)
  have hC0 : c.h₀.get? s.heap.objs.size = none := by
    cases e : c.h₀.get? s.heap.objs.size with
    | none => rfl
    | some x => exact absurd (Heap.lt_size (F.keep _ _ e)) (Nat.lt_irrefl _)
  have slots : ∀ {y sl}, (y, sl) ∈ (c.comp env' s.heap.objs.size x mid).sl → (y, sl) = (x, Slot.ns s.heap.objs.size) ∨ (y, sl) ∈ c.sl := by
    intro y sl hm
    rcases List.mem_cons.mp hm with e | hm
    · exact .inl e
    · rcases List.mem_append.mp hm with hm | hm
      · refine e11 (List.mem_iff_getElem?.mp hm) fun j hj => ?_
        obtain ⟨_, i, hi, _⟩ := hmid j y sl hj
        exact .inr (List.mem_of_getElem? hi)
      · exact .inr hm
  have lst : ∀ {j : Nat} {y : Str} {sl : Slot} {v : V}, c.sl[j]? = some (y, sl) → ls[j]? = some (some v) → ∃ v', VR W (Fx W (c.comp env' s.heap.objs.size x mid) h ((s.heap.objs.size, oC) :: news)) v v' ∧ SlotR ((s.heap.objs.size, oC) :: news) m y v' sl := by
    intro j y sl v h1 h2
    refine e12 (L j y sl v h1 h2) fun v' q r => ?_
    refine ⟨v', q.stab hs, ?_⟩
    induction sl using Slot.casesOn with
    | loc => exact r
    | cell a =>
      refine e12 r fun o b e => ?_
      clear r
      exact ⟨o, .tail _ b, e⟩
    | ns C =>
      refine e22 r fun m' o b e => ?_
      clear r
      exact ⟨m', o, .tail _ b, e⟩
  refine ⟨⟨⟨m, F', fun i y sl v h1 h2 => ?_⟩, fun p hp => ?_, fun b y e => (R.hp b y e).grow (fun Z Z Z => hs _ _) (fun Z hp => .tail _ hp) (fun Z Z Z hp => .tail _ hp) (fun Z e => e), ?_, R.dom, fun b hb => ?_, fun y b hb => ?_, fun y b hb => ?_, R.gens, R.drawn, R.os, R.hid⟩, hs⟩
  · rcases comp_get hl h1 h2 with ⟨_, _, _, e⟩ | ⟨j, hj, hv⟩ | ⟨j, hj, hv⟩
    · cases e
    · obtain ⟨_, i', hi, hq⟩ := hmid j y sl hj
      exact lst hi (hq v hv)
    · exact lst hj hv
  · rcases List.mem_cons.mp hp with rfl | hp
    · exact ⟨hg, hCL, hC0⟩
    · exact ⟨hk _ _ (R.nw p hp).1, (R.nw p hp).2⟩
  · refine R.top.imp id fun z => e24 z fun t ot e l i qn => ⟨t, ot, .tail _ e, l, i, fun hC' => ?_⟩
    rcases List.mem_cons.mp hC' with q | q
    · exact absurd (R.lt e) (by rw [q]; exact Nat.lt_irrefl _)
    · exact qn q
  · rcases List.mem_cons.mp hb with rfl | hb
    · exact ⟨hn, oC, .head _⟩
    · obtain ⟨e, o', hm⟩ := R.ex b hb
      exact ⟨e, o', .tail _ hm⟩
  · rcases slots hb with e' | e'
    · injection e' with _ e'; cases e'
    · obtain ⟨e, o', v, hm, hd⟩ := R.cl y b e'
      exact ⟨.tail _ e, o', v, .tail _ hm, hd⟩
  · rcases slots hb with e' | e'
    · injection e' with _ e'; injection e' with e'
      rw [e']; exact .head _
    · exact .tail _ (R.nx y b e')
theorem Rel.leaveC {env' : Env} {C : Addr} {x : Str} {mid : List (Str × Slot)} {vals : List (Option V)} {o : Option V} (R : Rel W (c.comp env' C x mid) (o :: (vals ++ ls)) h news s) {hh : Heap} (hs : Heap.SameBut C s.heap hh) (hl : vals.length = mid.length) (tk : Nat)
    (hc : ∀ x a, (x, Slot.cell a) ∈ c.sl → a ≠ C) (hns : ∀ x C', (x, Slot.ns C') ∈ c.sl → C' ≠ C) (hex : C ∉ c.ex) :
    Rel W c ls h (news.filter fun p => p.1 != C) { s with heap := hh, toks := tk } ∧ Stab (Fx W (c.comp env' C x mid) h news) (Fx W c h (news.filter fun p => p.1 != C)) := by
  refine e12 (R.fr) fun m F L => ?_
  obtain ⟨hn, oC, hm⟩ := R.ex C (.head _)
  have mem : ∀ {b o}, (b, o) ∈ news → b ≠ C → (b, o) ∈ news.filter (fun p => p.1 != C) := fun hp hb => List.mem_filter.mpr ⟨hp, by simpa using hb⟩
  have hs' : Stab (Fx W (c.comp env' C x mid) h news) (Fx W c h (news.filter fun p => p.1 != C)) := fun b y hy => hy.imp (fun z => e03 z fun p q r => ⟨mem p (fun e => r (by rw [e]; exact .head _)), q, fun e => r (.tail _ e)⟩) id
  refine ⟨⟨⟨m, F.change hs (R.nw _ hm).2.1 (R.nw _ hm).2.2, fun i y sl v h1 h2 => ?_⟩, fun p hp => ?_, fun b y e => ?_, ?_, R.dom, fun b hb => ?_, fun y b hb => ?_, fun y b hb => ?_, R.gens, R.drawn, R.os, R.hid⟩, hs'⟩
  · have h1' : (c.comp env' C x mid).sl[i + 1 + mid.length]? = some (y, sl) := by
      have : i + 1 + mid.length = (i + mid.length) + 1 := by lia
      rw [this]
      simp only [Cx.comp, List.getElem?_cons_succ]
      rw [List.getElem?_append_right (by lia), Nat.add_sub_cancel]; exact h1
    have h2' : (o :: (vals ++ ls))[i + 1 + mid.length]? = some (some v) := by
      have : i + 1 + mid.length = (i + mid.length) + 1 := by lia
      rw [this]
      simp only [List.getElem?_cons_succ]
      rw [List.getElem?_append_right (by lia), hl, Nat.add_sub_cancel]; exact h2
    refine e12 (L _ y sl v h1' h2') fun v' q r => ?_
    refine ⟨v', q.stab hs', ?_⟩
    induction sl using Slot.casesOn with
    | loc => exact r
    | cell e =>
      refine e12 (r) fun oc hb he => ?_
      exact ⟨oc, mem hb (hc y e (List.mem_of_getElem? h1)), he⟩
    | ns C' =>
      refine e23 (r) fun m' oc hb he hx => ?_
      exact ⟨m', oc, mem hb (hns y C' (List.mem_of_getElem? h1)), he, hx⟩
  · refine e02 (List.mem_filter.mp hp) fun hp1 hp2 => ?_
    have := R.nw p hp1
    exact ⟨(hs.2 _ (by simpa using hp2)).trans this.1, this.2⟩
  · have hbd : b ≠ C := fun q => by rw [q, hn] at e; cases e
    exact (R.hp b y e).grow (fun Z Z Z => hs' _ _) (fun Z hp => mem hp hbd) (fun z oz hz hp => mem hp fun q => by rw [q, hn] at hz; cases hz) (fun Z hz => hz)
  · exact R.top.imp id fun z => e24 z fun t ot e l i qn => ⟨t, ot, mem e (fun q => qn (by rw [q]; exact .head _)), l, i, fun hC' => qn (.tail _ hC')⟩
  · obtain ⟨e, o', hm'⟩ := R.ex b (.tail _ hb)
    exact ⟨e, o', mem hm' fun q => hex (by rw [← q]; exact hb)⟩
  · obtain ⟨e, o', v, hm', hv⟩ := R.cl y b (.tail _ (List.mem_append_right _ hb))
    have hbC := hc y b hb
    refine ⟨?_, o', v, mem hm' hbC, hv⟩
    rcases List.mem_cons.mp e with e | e
    · exact absurd e hbC
    · exact e
  · rcases List.mem_cons.mp (R.nx y b (.tail _ (List.mem_append_right _ hb))) with e | e
    · exact absurd e (hns y b hb)
    · exact e
theorem Rel.setC {env' : Env} {C : Addr} {x : Str} {mid : List (Str × Slot)} {vals : List (Option V)} {o : Option V} (R : Rel W (c.comp env' C x mid) (o :: (vals ++ ls)) h news s) {hh : Heap} {oC : Obj} {v : V} {v' : Value} (hs : Heap.SameBut C s.heap hh)
    (hg : hh.get? C = some oC) (hi : iterO oC = false) {m' : Str → Option Value} (hN : ∀ h : Heap, h.get? C = some oC → h.Ns C m') (hx : m' x = some v') (hv : VR W (Fx W (c.comp env' C x mid) h news) v v') (hl : vals.length = mid.length)
    (hmid : ∀ (j : Nat) y sl, mid[j]? = some (y, sl) → (∃ a, sl = .cell a)) (hcl : ∀ y a, (y, Slot.cell a) ∈ (c.comp env' C x mid).sl → a ≠ C) (hns : ∀ x C', (x, Slot.ns C') ∈ c.sl → C' ≠ C) (tk : Nat) :
    Rel W (c.comp env' C x mid) (some v :: (vals ++ ls)) h (updN news C oC) { s with heap := hh, toks := tk } ∧ Stab (Fx W (c.comp env' C x mid) h news) (Fx W (c.comp env' C x mid) h (updN news C oC)) := by
  refine e12 (R.fr) fun m F L => ?_
  obtain ⟨hn, oC0, hm⟩ := R.ex C (.head _)
  have hs' : Stab (Fx W (c.comp env' C x mid) h news) (Fx W (c.comp env' C x mid) h (updN news C oC)) := fun b y hy => hy.imp (fun z => e03 z fun p q r => ⟨updN_ne p (fun e => r (by rw [e]; exact .head _)), q, r⟩) id
  refine ⟨⟨⟨m, F.change hs (R.nw _ hm).2.1 (R.nw _ hm).2.2, fun i y sl u h1 h2 => ?_⟩, News.update R.nw hm hs hg, fun b y e => ?_, ?_, R.dom, fun b hb => ?_, fun y b hb => ?_, R.nx, R.gens, R.drawn, R.os, R.hid⟩, hs'⟩
  · have old : (o :: (vals ++ ls))[i]? = some (some u) → sl ≠ .ns C → ∃ v', VR W (Fx W (c.comp env' C x mid) h (updN news C oC)) u v' ∧ SlotR (updN news C oC) m y v' sl := by
      intro h2 hne
      refine e12 (L i y sl u h1 h2) fun u' q r => ?_
      refine ⟨u', q.stab hs', ?_⟩
      induction sl using Slot.casesOn with
      | loc => exact r
      | cell e =>
        refine e12 (r) fun oc hb he => ?_
        exact ⟨oc, updN_ne hb (hcl y e (List.mem_of_getElem? h1)), he⟩
      | ns C' =>
        refine e23 (r) fun m' oc hb he hx => ?_
        exact ⟨m', oc, updN_ne hb (fun q => hne (by rw [q])), he, hx⟩
    rcases comp_get hl h1 h2 with ⟨rfl, rfl, rfl, e⟩ | ⟨j, hj, hv⟩ | ⟨j, hj, hv⟩
    · cases e
      exact ⟨v', hv.stab hs', m', oC, updN_self hm, hN, hx⟩
    · refine old ?_ ?_
      · induction i using Nat.casesOn with
        | zero =>
          simp only [Cx.comp, List.getElem?_cons_zero, Option.some.injEq, Prod.mk.injEq] at h1
          refine e11 (hmid j y sl hj) fun a ha => ?_
          rw [ha] at h1; cases h1.2
        | succ i => simpa using h2
      · refine e11 (hmid j y sl hj) fun a ha => ?_
        rw [ha]; intro q; cases q
    · refine old ?_ ?_
      · induction i using Nat.casesOn with
        | zero =>
          simp only [Cx.comp, List.getElem?_cons_zero, Option.some.injEq, Prod.mk.injEq] at h1
          rw [← h1.2] at hj
          exact absurd rfl (hns y C (List.mem_of_getElem? hj))
        | succ i => simpa using h2
      · intro q
        rw [q] at hj
        exact absurd rfl (hns y C (List.mem_of_getElem? hj))
  · have hbd : b ≠ C := fun q => by rw [q, hn] at e; cases e
    exact (R.hp b y e).grow (fun Z Z Z => hs' _ _) (fun Z hp => updN_ne hp hbd) (fun z oz hz hp => updN_ne hp fun q => by rw [q, hn] at hz; cases hz) (fun Z hz => hz)
  · exact R.top.imp id fun z => e24 z fun t ot e l i qn => ⟨t, ot, updN_ne e (fun q => qn (by rw [q]; exact .head _)), l, i, qn⟩
  · obtain ⟨e, o', hm'⟩ := R.ex b hb
    refine e11 (updN_any (d := C) (o' := oC) hm') fun z hz => ?_
    exact ⟨e, z, hz⟩
  · obtain ⟨e, o', v, hm', hv⟩ := R.cl y b hb
    exact ⟨e, o', v, updN_ne hm' (hcl y b hb), hv⟩
theorem Rel.other (R : Rel W c ls h news s) {C : Addr} (hC : ∀ o, (C, o) ∉ news) (hL : C ≠ c.L) (h0 : c.h₀.get? C = none) {hh : Heap} (hs : Heap.SameBut C s.heap hh) : Rel W c ls h news { s with heap := hh } := by
  refine e12 (R.fr) fun m F L => ?_
  exact ⟨⟨m, F.change hs hL h0, L⟩, fun p hp => ⟨(hs.2 _ fun e => hC p.2 (by rw [← e]; exact hp)).trans (R.nw p hp).1, (R.nw p hp).2⟩, R.hp, R.top, R.dom, R.ex, R.cl, R.nx, R.gens, R.drawn, R.os, R.hid⟩
end
end
section
open PySem PySem.W PyProof.Rows PySem.Calls
noncomputable def clOf (cells : List (Str × Addr)) : List (Str × NameKind) → List (Str × Addr) → List (Str × Addr)
  | [], acc => acc
  | (n, .free) :: r, acc => clOf cells r ((n, (cells.lookup n).getD 0) :: acc)
  | (n, _) :: r, acc => clOf cells r acc
theorem isLocal_inv {k : Option NameKind} (h : isLocal k = true) : k = some .local := by
  induction k using Option.casesOn with
  | none => exact Bool.noConfusion h
  | some k => induction k using PySem.NameKind.casesOn <;> first | rfl | exact Bool.noConfusion h
theorem closure_go {env : Env} : ∀ {names : List (Str × NameKind)} {acc : List (Str × Addr)}, (∀ y ∈ freesOf names, ∃ a, env.cells.lookup y = some a) →
    (forIn names acc (fun (x : Str × NameKind) cs => match x with
      | (name, kind) => if (kind == NameKind.free) = true then do
          let a ← cellOf env name
          pure (ForInStep.yield ((name, a) :: cs))
        else pure (ForInStep.yield cs)) : Sem (List (Str × Addr))) = pure (clOf env.cells names acc) := by
  intro names
  induction names with
  | nil => exact fun Z => rfl
  | cons P r ih =>
    obtain ⟨n, k⟩ := P
    intro acc h
    rw [List.forIn_cons]
    by_cases hk : k = .free
    · subst hk
      refine e11 (h n (.head _)) fun a ha => ?_
      have e : cellOf env n = pure a := by unfold cellOf; rw [ha]
      simp only [beq_self_eq_true, if_true, e, pure_bind]
      rw [ih fun y hy => h y (.tail _ hy), show clOf env.cells ((n, .free) :: r) acc = clOf env.cells r ((n, (env.cells.lookup n).getD 0) :: acc) from rfl, ha]; rfl
    · have hk' : (k == NameKind.free) = false := by simpa using hk
      simp only [hk', Bool.false_eq_true, if_false, pure_bind]
      rw [ih fun y hy => h y (by induction k using PySem.NameKind.casesOn <;> first | exact hy | exact absurd rfl hk)]
      induction k using PySem.NameKind.casesOn <;> first | rfl | exact absurd rfl hk
theorem closure_ok {env : Env} {scope : Scope} (h : ∀ y ∈ freesOf scope.names, ∃ a, env.cells.lookup y = some a) : closureFor scope env = pure (clOf env.cells scope.names []) := by
  have := closure_go (env := env) (names := scope.names) (acc := []) h
  unfold closureFor
  rw [← this]
  simp only [bind_pure]
theorem cl_mem {cells : List (Str × Addr)} : ∀ {names : List (Str × NameKind)} {acc : List (Str × Addr)} {p : Str × Addr}, p ∈ clOf cells names acc → p ∈ acc ∨ p.2 = (cells.lookup p.1).getD 0 := by
  intro names
  induction names with
  | nil => exact fun h => .inl h
  | cons P r ih =>
    obtain ⟨n, k⟩ := P
    intro acc p h
    induction k using PySem.NameKind.casesOn with
    | free => exact Or.elim (ih h) (fun h => Or.elim (List.mem_cons.mp h) (fun e => e ▸ .inr rfl) .inl) .inr
    | _ => exact ih h
theorem cl_acc {cells : List (Str × Addr)} : ∀ {names : List (Str × NameKind)} {acc : List (Str × Addr)} {p : Str × Addr}, p ∈ acc → p ∈ clOf cells names acc := by
  intro names
  induction names with
  | nil => exact fun h => h
  | cons P r ih =>
    obtain ⟨n, k⟩ := P
    intro acc p h
    induction k using PySem.NameKind.casesOn with
    | free => exact ih (.tail _ h)
    | _ => exact ih h
theorem cl_has {cells : List (Str × Addr)} {y : Str} : ∀ {names : List (Str × NameKind)} {acc : List (Str × Addr)}, y ∈ freesOf names → ∃ b, (y, b) ∈ clOf cells names acc := by
  intro names
  induction names with
  | nil => exact fun h => absurd h List.not_mem_nil
  | cons P r ih =>
    obtain ⟨n, k⟩ := P
    intro acc h
    induction k using PySem.NameKind.casesOn with
    | free => exact Or.elim (List.mem_cons.mp h) (fun e => ⟨(cells.lookup n).getD 0, cl_acc (names := r) (by rw [e]; exact .head _)⟩) ih
    | _ => exact ih h
theorem lookup_mem {y : Str} : ∀ {l : List (Str × Addr)} {b : Addr}, (y, b) ∈ l → ∃ b', l.lookup y = some b' ∧ (y, b') ∈ l := by
  intro l
  induction l with
  | nil => exact fun h => absurd h List.not_mem_nil
  | cons P r ih =>
    obtain ⟨n, a⟩ := P
    intro b h
    rw [List.lookup_cons]
    cases e : (y == n) with
    | true => rw [eq_of_beq e]; exact ⟨a, rfl, .head _⟩
    | false =>
      rcases List.mem_cons.mp h with h | h
      · cases h
        simp at e
      · refine e12 (ih h) fun b' h1 h2 => ?_
        exact ⟨b', h1, .tail _ h2⟩
theorem cl_lookup {cells : List (Str × Addr)} {names : List (Str × NameKind)} {y : Str} {a : Addr} (hy : y ∈ freesOf names) (ha : cells.lookup y = some a) : (clOf cells names []).lookup y = some a := by
  refine e11 (cl_has (cells := cells) (acc := []) hy) fun b hb => ?_
  refine e12 (lookup_mem hb) fun b' h1 h2 => ?_
  rw [h1]
  rcases cl_mem h2 with h | h
  · simp at h
  · simp only at h; rw [h, ha]; rfl
theorem relab_eq {env : Env} {sc : List (Str × NameKind)} (hk : env.scope.kind = .function) (hsc : env.scope.names = sc) : ∀ names : List (Str × NameKind),
    (names.map fun (n, k) => if (k == NameKind.free && env.scope.kind == .function && env.kindOf n == some .cell) then (n, NameKind.cell) else (n, k)) = relab sc names := by
  intro names
  induction names with
  | nil => rfl
  | cons P r ih =>
    obtain ⟨n, k⟩ := P
    rw [List.map_cons, ih, show relab sc ((n, k) :: r) = (match k with | .free => (match kindIn n sc with | some .cell => (n, NameKind.cell) | _ => (n, k)) | _ => (n, k)) :: relab sc r from rfl]
    refine congrArg (· :: relab sc r) ?_
    show (if (k == NameKind.free && env.scope.kind == .function && env.kindOf n == some .cell) = true then (n, NameKind.cell) else (n, k)) = _
    have hkn : env.kindOf n = kindIn n sc := by unfold Env.kindOf kindIn; rw [hsc, lookStr_lookup]
    rw [hk, hkn]
    induction k using PySem.NameKind.casesOn <;> try rfl
    cases e : kindIn n sc with
    | none => rfl
    | some k => induction k using PySem.NameKind.casesOn <;> rfl
theorem noCell_ok : ∀ {names : List (Str × NameKind)}, noCell names = true → ∀ x ∈ names, x.2 ≠ NameKind.cell := by
  intro names
  induction names with
  | nil => exact fun Z x h => absurd h List.not_mem_nil
  | cons P r ih =>
    obtain ⟨n, k⟩ := P
    intro hn x h
    induction k using PySem.NameKind.casesOn with
    | cell => exact Bool.noConfusion (show false = true from hn)
    | _ => exact Or.elim (List.mem_cons.mp h) (fun e q => NameKind.noConfusion (show _ = NameKind.cell from e ▸ q)) (ih hn x)
theorem locsOk_ok {all : List (Str × NameKind)} : ∀ {names : List (Str × NameKind)}, locsOk all names = true → ∀ x ∈ names, x.2 = NameKind.local → all.lookup x.1 = some NameKind.local := by
  intro names
  induction names with
  | nil => exact fun Z x h => absurd h List.not_mem_nil
  | cons P r ih =>
    obtain ⟨n, k⟩ := P
    intro hn x h hx
    induction k using PySem.NameKind.casesOn with
    | «local» =>
      have hn := Bool.and_eq_true_iff.mp hn
      exact Or.elim (List.mem_cons.mp h) (fun e => e ▸ isLocal_inv hn.1) fun h => ih hn.2 x h hx
    | _ => exact Or.elim (List.mem_cons.mp h) (fun e => NameKind.noConfusion (show _ = NameKind.local from e ▸ hx)) fun h => ih hn x h hx
structure CompC (g : Cc) (x : Str) (sc : Scope) : Prop where
  kind : sc.kind = .function
  loc : sc.names.lookup x = some .local
  locs : ∀ y ∈ sc.names, y.2 = NameKind.local → sc.names.lookup y.1 = some .local
  nocell : ∀ y ∈ sc.names, y.2 ≠ NameKind.cell
  nd : (x == Mi.dbg) = false
  fr : ∀ y ∈ freesOf sc.names, isCF (kindIn y g.sc) = true ∧ (∃ i, place y g.sl = some i) ∧ (y == Mi.dbg) = false ∧ (y == cdict) = false ∧ isCF (kindIn y (relab g.sc sc.names)) = true
theorem compC {g : Cc} {x : Str} {sc : Scope} (h : compOk g x sc = true) : CompC g x sc := by
  unfold compOk at h
  simp only [Bool.and_eq_true, Bool.not_eq_true', List.all_eq_true] at h
  obtain ⟨⟨⟨⟨⟨h1, h2⟩, h3⟩, h4⟩, h5⟩, h6⟩ := h
  refine ⟨?_, ?_, locsOk_ok h3, noCell_ok h4, ?_, fun y hy => ?_⟩
  · induction hk : sc.kind using PySem.ScopeKind.casesOn <;> first | rfl | (rw [hk] at h1; exact Bool.noConfusion h1)
  · rw [← lookStr_lookup]; exact isLocal_inv h2
  · rw [str_beq]; rw [strEq_eq] at h5; exact h5
  · obtain ⟨⟨⟨⟨⟨a1, a2⟩, a3⟩, a4⟩, a5⟩, a6⟩ := h6 y hy
    exact ⟨a1, Option.isSome_iff_exists.mp a2, by rw [str_beq]; rw [strEq_eq] at a3; exact a3, by rw [str_beq]; rw [strEq_eq] at a4; exact a4, a6⟩
noncomputable def midOf (c : Cx) (sc : Scope) : List (Str × Slot) := (freesOf sc.names).map fun y => (y, .cell ((c.env.cells.lookup y).getD 0))
section
variable {W : Wd} {c : Cx} {g : Cc} {ls : Ls} {h : Hp} {news : News'} {s : Shared} {F : PF} {A : Around} {E : Value → Shared → Prop} {C : Calls} {d m : Nat} {D : Addr} {x : Str} {sc : Scope}
theorem free_at (O : EnvOk W c g) (K : CompC g x sc) {y : Str} (hy : y ∈ freesOf sc.names) : ∃ i a, place y g.sl = some i ∧ c.sl[i]? = some (y, .cell a) ∧ c.env.cells.lookup y = some a := by
  obtain ⟨h1, ⟨i, hi⟩, _⟩ := K.fr y hy
  have hx := place_get hi
  have hlt : i < g.sl.length := (List.getElem?_eq_some_iff.mp hx).1
  obtain ⟨t, ht⟩ := O.pre
  have : (c.sl.map (·.1))[i]? = some y := by rw [ht, List.getElem?_append_left hlt]; exact hx
  rw [List.getElem?_map] at this
  have hkd : c.env.kindOf y = kindIn y g.sc := by unfold Env.kindOf kindIn; rw [O.sc, lookStr_lookup]
  cases hsl : c.sl[i]? with
  | none => rw [hsl] at this; cases this
  | some p =>
    obtain ⟨z, sl⟩ := p
    rw [hsl] at this; cases this
    have hl := O.ld i _ _ hlt hsl
    induction sl using Slot.casesOn with
    | loc => rw [← hkd, hl.1] at h1; exact Bool.noConfusion (show false = true from h1)
    | cell a => exact ⟨i, a, hi, hsl, hl.2⟩
    | ns C => rw [← hkd, hl.1] at h1; exact Bool.noConfusion (show false = true from h1)
theorem EnvOk.comp (O : EnvOk W c g) (G : Good W c) (K : CompC g x sc) {C : Addr} : EnvOk W (c.comp (compEnvC sc (clOf c.env.cells sc.names []) C c.env) C x (midOf c sc)) (compG g x sc) := by
  refine e11 (O.pre) fun t ht => ?_
  have hsc : (relabel sc c.env).names = relab g.sc sc.names := relab_eq G.kind O.sc sc.names
  have hm1 : (midOf c sc).map (·.1) = freesOf sc.names := by unfold midOf; rw [List.map_map]; exact List.map_id _
  refine ⟨⟨g.sl ++ t, ?_⟩, hsc, fun i y sl hi hs => ?_, fun y hy => ?_, O.glob, O.nat⟩
  · simp only [Cx.comp, compG, List.map_cons, List.map_append, hm1, ht, List.cons_append]
  · induction i using Nat.casesOn with
    | zero =>
      simp only [Cx.comp, List.getElem?_cons_zero, Option.some.injEq, Prod.mk.injEq] at hs
      refine e02 (hs) fun eq1 => ?_
      clear hs
      subst eq1
      intro eq2
      subst eq2
      exact ⟨lookup_relabel_local K.loc, rfl⟩
    | succ i =>
      simp only [compG, List.length_cons] at hi
      simp only [Cx.comp, List.getElem?_cons_succ] at hs
      have hlen : (midOf c sc).length = (freesOf sc.names).length := by unfold midOf; rw [List.length_map]
      rw [List.getElem?_append_left (by lia)] at hs
      unfold midOf at hs
      rw [List.getElem?_map] at hs
      cases hy : (freesOf sc.names)[i]? with
      | none => rw [hy] at hs; cases hs
      | some z =>
        rw [hy] at hs
        cases hs
        have hz := List.mem_of_getElem? hy
        refine e23 (free_at O K hz) fun i' a Z Z ha => ?_
        refine e05 (K.fr y hz) fun Z Z Z h4 h5 => ?_
        rw [ha]
        refine ⟨?_, cl_lookup hz ha⟩
        have hkd : (c.comp (compEnvC sc (clOf c.env.cells sc.names []) C c.env) C x (midOf c sc)).env.kindOf y = kindIn y (relab g.sc sc.names) := by
          unfold Env.kindOf kindIn
          rw [lookStr_lookup, ← hsc]; rfl
        rw [hkd]
        revert h5
        induction kindIn y (relab g.sc sc.names) using Option.casesOn with
        | none => exact fun h => Bool.noConfusion h
        | some k => induction k using PySem.NameKind.casesOn <;> first | exact fun h => Bool.noConfusion h | exact fun Z => .inl rfl | exact fun Z => .inr ⟨rfl, h4⟩
  · simp only [compG] at hy
    rcases List.mem_cons.mp hy with rfl | hy
    · exact K.nd
    · exact (K.fr y hy).2.2.1
theorem Good.comp (G : Good W c) (K : CompC g x sc) {C : Addr} {cl : List (Str × Addr)} {mid : List (Str × Slot)} : Good W (c.comp (compEnvC sc cl C c.env) C x mid) :=
  ⟨G.B, G.X, G.T, G.frames, G.frame, G.kindT, K.kind, G.glob, G.blt, G.handled, G.depth, G.units, G.noImp, G.ro⟩
theorem slots_len {c : Cx} : ((freesOf sc.names).map fun y => place y g.sl).length = (midOf c sc).length := by unfold midOf; simp
theorem mid_ok (O : EnvOk W c g) (K : CompC g x sc) (ls : Ls) : ∀ (j : Nat) y sl, (midOf c sc)[j]? = some (y, sl) → (∃ a, sl = .cell a) ∧ ∃ i : Nat, c.sl[i]? = some (y, sl) ∧ ∀ v, (slotsOf ls ((freesOf sc.names).map fun y => place y g.sl))[j]? = some (some v) → ls[i]? = some (some v) := by
  intro j y sl hj
  unfold midOf at hj
  rw [List.getElem?_map] at hj
  cases hy : (freesOf sc.names)[j]? with
  | none => rw [hy] at hj; cases hj
  | some z =>
    rw [hy] at hj
    cases hj
    refine e23 (free_at O K (List.mem_of_getElem? hy)) fun i a hi hs ha => ?_
    refine ⟨⟨_, rfl⟩, i, by rw [ha]; exact hs, fun v hv => ?_⟩
    unfold slotsOf at hv
    rw [List.map_map, List.getElem?_map, hy] at hv
    simp only [Option.map_some, Function.comp, hi, Option.some.injEq] at hv
    exact lget_some hv
theorem sIfs (it : ST W C d m) (G : Good W c) (hd : c.d = d) (O : EnvOk W c g) {n : Nat} {ifs : List Expr} {k : Bool → Hp → Prop} {Q : Bool → Shared → Prop} (R : Rel W c ls h news s)
    (hk : denIf (denT W.pr C n) (ifs.map (cE g m)) ls h k)
    (q : PostB W c ls h news k Q) : wpAny (model W.prog W.w) c.A (forIn ifs true fun e r => if r = true then do
        let ok ← PySem.isTrue e c.env (eval e c.env)
        pure (ForInStep.yield ok)
      else pure (ForInStep.yield r)) Q E s := by
  induction ifs using List.casesOn with
  | nil => exact wpAny_pure (q _ _ _ _ hk R .refl)
  | cons e r =>
    induction r using List.casesOn with
    | cons e2 r => exact False.elim hk
    | nil =>
      rw [List.forIn_cons]
      simp only [if_true]
      refine wpAny_bind (wpAny_bind (it G hd O R hk fun b h1 n1 s1 hk1 R1 st1 => wpAny_pure ?_))
      exact wpAny_pure (q _ _ _ _ hk1 R1 st1)
end
end
section
open PySem PySem.W PyProof.Rows PySem.Calls
section
variable {W : Wd} {c : Cx} {g : Cc} {ls : Ls} {h : Hp} {news : News'} {s : Shared} {F : PF} {A : Around} {E : Value → Shared → Prop} {C : Calls} {d m : Nat} {D : Addr} {x : Str} {sc : Scope}
noncomputable def NsAt (C : Addr) (news : News') : Prop := ∃ oC mC, (C, oC) ∈ news ∧ ∀ h : Heap, h.get? C = some oC → h.Ns C mC
theorem ns_only {h : Heap} {C : Addr} {m : Str → Option Value} (hN : h.Ns C m) : ∃ o, h.get? C = some o ∧ iterO o = false ∧ ∀ h' : Heap, h'.get? C = some o → h'.Ns C m := by
  refine e34 (hN) fun o es ep h1 h2 h3 h4 => ?_
  exact ⟨o, h1, by unfold iterO; rw [h2], fun h' h1' => ⟨o, es, ep, h1', h2, h3, h4⟩⟩
theorem Stab.but {W : Wd} {c c' : Cx} {h h' : Hp} {news news' : News'} {F' : PF} {I : Addr} (st : Stab (Fx W c h news) (Fx W c' h' news')) (hI : I ∉ news.map (·.1)) (hb : StabBut I (Fx W c' h' news') F') (hK : ∀ a o, W.K.lookup a = some o → F' a o) : Stab (Fx W c h news) F' := fun b o hf => by
  rcases hf with ⟨hm, h1, h2⟩ | hk
  · exact hb b o (st b o (.inl ⟨hm, h1, h2⟩)) (.inl fun e => hI (List.mem_map.mpr ⟨(b, o), hm, e⟩))
  · exact hK b o hk
noncomputable def PostU (W : Wd) (c : Cx) (ls : Ls) (h : Hp) (news : News') (k : KE) (use : Option (Value → Sem Unit)) (Q : Value → Shared → Prop) (E : Value → Shared → Prop) : Prop :=
  ∀ C0 v v' h' news' t', k v h' → VR W (Fx W c h' news') v v' → Rel W c ls h' news' t' → Stab (Fx W c h news) (Fx W c h' news') → (∀ o, (C0, o) ∉ news') → C0 ≠ c.L → c.h₀.get? C0 = none → (∃ m, t'.heap.Ns C0 m) →
    compPost (model W.prog W.w) c.A E use Q v' C0 (.ok .next) t'
theorem PostE.toU {k : KE} {Q : Value → Shared → Prop} (q : PostE W c ls h news k Q) : PostU W c ls h news k none Q E := fun C0 v v' h' news' t' hk hv R st h1 h2 h3 ⟨m, hN⟩ =>
  ⟨m, hN, fun hh hs => q v v' h' news' _ hk hv (R.other h1 h2 h3 hs) st⟩
theorem sComp0 (G : Good W c) (O : EnvOk W c g) (K : CompC g x sc) {e iter : Expr} {ifs : List Expr} {gs : List Comprehension} {px pos : Pos} {newAcc : Sem Value} {use : Option (Value → Sem Unit)} {Q : Value → Shared → Prop}
    (hcl : clausesOf e = ⟨.Name x px, iter, ifs, 0⟩ :: gs) (hs : ∀ x, foldedSetIterable iter c.env x = pure x) {first : Sem Value}
    (hfirst : wpAny (model W.prog W.w) c.A first (fun x s₁ => wpAny (model W.prog W.w) c.A (pyIter x) (fun it s₂ => wpAny (model W.prog W.w) c.A newAcc (fun acc s₃ =>
      ∀ (C : Addr) (hh : Heap) (m₀ : Str → Option Value), C = s₃.heap.objs.size → (∀ b o, s₃.heap.get? b = some o → hh.get? b = some o) → hh.Ns C m₀ →
        codeAny (model W.prog W.w) c.A (.compStart e 0 it acc (compEnvC sc (clOf c.env.cells sc.names []) C c.env)) (compPost (model W.prog W.w) c.A E use Q acc C) { s₃ with heap := hh }) E s₂) E s₁) E s) :
    wpAny (model W.prog W.w) c.A (comprehension e sc c.env pos newAcc false first use) Q E s := by
  have hclos := closure_ok (env := c.env) (scope := sc) fun y hy => e23 (free_at O K hy) fun Z a Z Z ha => ⟨a, ha⟩
  refine wpAny_comprehension_free (use := use) hcl hs hclos K.kind K.locs (wpAny_mono hfirst (fun x s₁ h₁ => wpAny_mono h₁ (fun it s₂ h₂ => wpAny_mono h₂ (fun acc s₃ h₃ => ?_) fun Z Z e => e) fun Z Z e => e) fun Z Z e => e)
  refine wpAny_newFunctionEnv K.nocell (by intro y hy; simp at hy) (fun h₁ hns₁ hsb₁ => ?_) K.kind
  have := h₃ s₃.heap.objs.size h₁ _ rfl (fun b o e => hsb₁.extBut b o (Nat.ne_of_lt (Heap.lt_size e)) (Heap.get?_push_of_some _ e)) hns₁
  exact this
noncomputable def CInv (W : Wd) (c' : Cx) (F0 : PF) (lsx : List (Option V)) (src : Src) (all : List V) (I C0 : Addr) (P : List V → Hp → Prop) (j : Nat) (t : Shared) : Prop :=
  ∃ o h' news' i, all.length - i = j ∧ i ≤ all.length ∧ Rel W c' (o :: lsx) h' news' t ∧ ItAt c' src all i I h' news' ∧ NsAt C0 news' ∧ Stab F0 (Fx W c' h' news') ∧ P (all.drop i) h'
theorem nsAt_of {c' : Cx} {C0 : Addr} {o : V} {lsx : List (Option V)} (R : Rel W c' (some o :: lsx) h news s) (h0 : c'.sl[0]? = some (x, .ns C0)) : NsAt C0 news := by
  refine e12 (R.fr) fun m F L => ?_
  obtain ⟨v', _, m', oC, h1, h2, _⟩ := L 0 x (.ns C0) o h0 rfl
  exact ⟨oC, m', h1, h2⟩
theorem cTurn {env' : Env} {C0 I : Addr} {mid : List (Str × Slot)} {vals : List (Option V)} {h0 : Hp} {news0 : News'} {src : Src} {all : List V} {P : List V → Hp → Prop} {px : Pos} {j : Nat} {t : Shared} {E' : Value → Shared → Prop}
    {Rp : Shared → Prop} {T : Shared → Prop} (G' : Good W (c.comp env' C0 x mid)) (O' : EnvOk W (c.comp env' C0 x mid) g) (hx : ∃ r, g.sl = x :: r) (hl : vals.length = mid.length)
    (hmid : ∀ (j : Nat) y sl, mid[j]? = some (y, sl) → (∃ a, sl = Slot.cell a)) (hcl : ∀ y a, (y, Slot.cell a) ∈ (c.comp env' C0 x mid).sl → a ≠ C0) (hns : ∀ x C', (x, Slot.ns C') ∈ c.sl → C' ≠ C0)
    (hI : I ∉ news0.map (·.1)) (hP : ∀ vs h, P vs h → src.same all h)
    (inv : CInv W (c.comp env' C0 x mid) (Fx W c h0 news0) (vals ++ ls) src all I C0 P j t)
    (hdone : ∀ o h' news' t', Rel W (c.comp env' C0 x mid) (o :: (vals ++ ls)) h' news' t' → NsAt C0 news' → Stab (Fx W c h0 news0) (Fx W (c.comp env' C0 x mid) h' news') → P [] h' → Rp t')
    (hitem : ∀ v vs h' news' t' i, all.length - i = j → i < all.length → all.drop (i + 1) = vs → Rel W (c.comp env' C0 x mid) (some v :: (vals ++ ls)) h' news' t' → ItAt (c.comp env' C0 x mid) src all (i + 1) I h' news' →
      Stab (Fx W c h0 news0) (Fx W (c.comp env' C0 x mid) h' news') → P (v :: vs) h' → T t') :
    wpAny (model W.prog W.w) c.A (pyNext (.ref I)) (fun r s₁ => match r with
      | none => Rp s₁
      | some v => wpAny (model W.prog W.w) c.A (assign (.Name x px) env' v) (fun Z s₂ => T s₂) E' s₁) E' t := by
  refine e47 inv fun o h' news' i hj hi R hit hnsa st hp => ?_
  clear inv
  have hIC : C0 ≠ I := fun e => hit.2.1 (by rw [← e]; exact .head _)
  have h0 : (c.comp env' C0 x mid).sl[0]? = some (x, .ns C0) := rfl
  refine sNext (c := c.comp env' C0 x mid) (A := c.A) R G' G'.handled hit (hP _ _ hp) (fun n2 t2 he R2 sb mm => ?_) fun v v' n2 t2 he hv R2 sb hit2 mm => ?_
  · rw [List.getElem?_eq_none_iff] at he
    rw [List.drop_eq_nil_of_le he] at hp
    refine hdone o h' n2 t2 R2 ?_ (st.but hI sb fun a o hk => .inr hk) hp
    refine e22 (hnsa) fun oC mC h1 h2 => ?_
    exact ⟨oC, mC, mm _ _ h1 hIC, h2⟩
  · have hlt : i < all.length := (List.getElem?_eq_some_iff.mp he).1
    have hdrop : all.drop i = v :: all.drop (i + 1) := by
      rw [List.drop_eq_getElem_cons hlt]
      congr 1
      rw [List.getElem?_eq_getElem hlt] at he
      exact Option.some.inj he
    rw [hdrop] at hp
    refine e22 (hnsa) fun oC mC h1 h2 => ?_
    have h1' := mm _ _ h1 hIC
    have hN := h2 _ (R2.at h1')
    refine e11 (hx) fun r hr => ?_
    have hld := O'.ld 0 x (.ns C0) (by rw [hr]; simp) h0
    refine wpAny_assign_Name (wpAny_storeName_local hld.1 (show t2.heap.Ns env'.locals mC from by have e : env'.locals = C0 := hld.2; rw [e]; exact hN) (fun hh hNs hsb => ?_) ?_)
    · have e : env'.locals = C0 := hld.2
      rw [e] at hNs hsb
      refine e13 (ns_only hNs) fun o2 g1 g2 g3 => ?_
      refine e02 (R2.setC hsb g1 g2 g3 (if_pos rfl) hv hl hmid hcl hns (t2.toks + 1)) fun R3 st3 => ?_
      refine hitem v _ h' _ _ i hj hlt rfl R3 ?_ ((st.but hI sb fun a o hk => .inr hk).trans st3) hp
      obtain ⟨a1, a2, ob, a3, a4⟩ := hit2
      exact ⟨a1, a2, ob, updN_ne a3 (Ne.symm hIC), a4⟩
    · have := G'.kind
      simp only [Cx.comp] at this
      rw [this]; rfl
theorem ItAt.stab {src : Src} {all : List V} {i : Nat} {I : Addr} {h' : Hp} {news' : News'} {c' : Cx} {ls' : Ls} {s' : Shared} (R : Rel W c ls h news s) (G : Good W c) (st : Stab (Fx W c h news) (Fx W c' h' news')) (hit : ItAt c src all i I h news) : ItAt c' src all i I h' news' := by
  obtain ⟨a1, a2, ob, a3, a4⟩ := hit
  rcases st I ob (.inl ⟨a3, a1, a2⟩) with hq | hq
  · exact ⟨hq.2.1, hq.2.2, ob, hq.1, a4⟩
  · have h5 := G.X _ _ hq
    rw [(R.nw _ a3).2.2] at h5; cases h5
theorem Rel.setDictS (R : Rel W c ls h news s) {a ep : Nat} {es es' : List (V × V)} {o : Obj} {kvs' : List (Str × Value)} {hh : Heap} (e : h.get a = some (.dict ep es)) (hm : (a, o) ∈ news) (hs : Heap.SameBut a s.heap hh) (hg : hh.DictOf (strKind W.prog W.w) a kvs')
    (hr : KVS W (Fx W c h news) es' kvs') (tk : Nat) : ∃ o' ep', Rel W c ls (h.set a (.dict ep' es')) (updN news a o') { s with heap := hh, toks := tk } ∧ Stab (Fx W c h news) (Fx W c (h.set a (.dict ep' es')) (updN news a o')) := by
  refine e12 (Heap.dictOf_iff.mp hg) fun o' ho' hd' => ?_
  have hi : iterO o' = false := by obtain ⟨es, ep, _, h2, _⟩ := hd'; unfold iterO; rw [h2]
  exact ⟨o', epOf o', R.change hm e e hs ho' hi (.inl rfl) (fun Z q => by cases q) (fun Z q => by cases q) (fun F' st => .dictS (updN_self hm) hd' rfl (hr.mono fun Z Z Z q => st _ _ q)) tk⟩
theorem cEltL (ih : SE W C d m) {env' : Env} {C0 I : Addr} {mid : List (Str × Slot)} {vals : List (Option V)} {h0 : Hp} {news0 : News'} {src : Src} {all : List V} {P : List V → Hp → Prop} {j i n : Nat} {t : Shared} {E' : Value → Shared → Prop} {elt : Expr} {v : V} {vs : List V} {a : Nat}
    (G' : Good W (c.comp env' C0 x mid)) (hd : c.d = d) (O' : EnvOk W (c.comp env' C0 x mid) g) (hj : all.length - i = j) (hlt : i < all.length) (hvs : all.drop (i + 1) = vs)
    (R : Rel W (c.comp env' C0 x mid) (some v :: (vals ++ ls)) h news t) (hit : ItAt (c.comp env' C0 x mid) src all (i + 1) I h news) (st : Stab (Fx W c h0 news0) (Fx W (c.comp env' C0 x mid) h news))
    (hk : den W.pr C n (cE g m elt) (some v :: (vals ++ ls)) h fun r h => RdO h a (oList fun acc => Need (small acc.length) (P vs (h.set a (.list (acc ++ [r])))))) :
    wpAny (model W.prog W.w) c.A (eval elt env') (fun x4 s₄ => wpAny (model W.prog W.w) c.A (call (.builtin "list.append") [.ref a, x4]) (fun Z s₅ => ∃ m, m < j ∧ CInv W (c.comp env' C0 x mid) (Fx W c h0 news0) (vals ++ ls) src all I C0 P m s₅) E' s₄) E' t := by
  have h0' : (c.comp env' C0 x mid).sl[0]? = some (x, .ns C0) := rfl
  refine ih (c := c.comp env' C0 x mid) G' hd O' R hk fun r r' h1 n1 t1 hk1 hr R1 st1 => ?_
  obtain ⟨acc, e1, hz, hk1⟩ := rdList hk1
  · refine e23 (R1.listAt e1) fun us nn m1 r1 i1 => ?_
    have hlen := r1.length
    have := sizeLine_ge
    unfold small at hz
    refine append_at (R1.at m1) (fun hh hs hg => ?_) (by rw [List.size_toArray]; lia)
    rw [List.push_toArray] at hg
    refine e02 (R1.setList e1 m1 hs hg (r1.append (.one hr)) t1.toks) fun R2 st2 => ?_
    refine ⟨all.length - (i + 1), by lia, _, _, _, i + 1, rfl, hlt, R2, ?_, nsAt_of R2 h0', (st.trans st1).trans st2, by rw [hvs]; exact hk1⟩
    exact ItAt.stab (ls' := ls) (s' := t) R G' (st1.trans st2) hit
theorem comp_frame (O : EnvOk W c g) (K : CompC g x sc) (R : Rel W c ls h news s) {C0 : Addr} (hC0 : C0 = s.heap.objs.size) :
    (∀ y a, (y, Slot.cell a) ∈ c.sl → a ≠ C0) ∧ (∀ y C', (y, Slot.ns C') ∈ c.sl → C' ≠ C0) ∧ C0 ∉ c.ex ∧ (∀ y a, (y, Slot.cell a) ∈ (c.comp (compEnvC sc (clOf c.env.cells sc.names []) C0 c.env) C0 x (midOf c sc)).sl → a ≠ C0) ∧ (slotsOf ls ((freesOf sc.names).map fun y => place y g.sl)).length = (midOf c sc).length := by
  have hlt : ∀ {y o}, (y, o) ∈ news → y ≠ C0 := fun hm => Nat.ne_of_lt (hC0 ▸ R.lt hm)
  have hcC : ∀ y a, (y, Slot.cell a) ∈ c.sl → a ≠ C0 := fun y a hm => e11 (R.cl y a hm).2 fun o h => e11 h fun Z h => hlt h.1
  have hex : ∀ {C'}, C' ∈ c.ex → C' ≠ C0 := fun hm => e11 (R.ex _ hm).2 fun o h => hlt h
  refine ⟨hcC, fun y C' hm => hex (R.nx y C' hm), fun hm => hex hm rfl, fun y a hm => ?_, ?_⟩
  · rcases List.mem_cons.mp hm with e | hm
    · injection e with _ e; cases e
    · rcases List.mem_append.mp hm with hm | hm
      · refine e11 (List.mem_iff_getElem?.mp hm) fun j hj => e11 (mid_ok O K ls j y _ hj).2 fun i h => hcC y a (List.mem_of_getElem? h.1)
      · exact hcC y a hm
  · unfold slotsOf; rw [List.length_map]; exact slots_len
theorem folded_pure {iter : Expr} {n : Nat} {k : KE} {y : Value} (hk : den W.pr C n (cE g m iter) ls h k) : foldedSetIterable iter c.env y = pure y := by
  induction iter using PySem.Expr.casesOn <;> first | rfl | skip
  induction n using Nat.casesOn <;> induction m using Nat.casesOn <;> exact False.elim hk
theorem sListComp (ih : SE W C d m) (it : ST W C d m) (G : Good W c) (hd : c.d = d) (O : EnvOk W c g) {elt iter : Expr} {ifs : List Expr} {px pos : Pos} {n : Nat} {k : KE} {use : Option (Value → Sem Unit)} {Q : Value → Shared → Prop} (hc : compOk g x sc = true) (R : Rel W c ls h news s)
    (hk : den W.pr C (n + 1) (.lcomp (cE (compG g x sc) m elt) (cE g m iter) (ifs.map (cE (compG g x sc) m)) ((freesOf sc.names).map fun y => place y g.sl)) ls h k) (q : PostU W c ls h news k use Q E) :
    wpAny (model W.prog W.w) c.A (comprehension (.ListComp elt [⟨.Name x px, iter, ifs, 0⟩] sc pos) sc c.env iter.pos (newList []) false (eval iter c.env) use) Q E s := by
  have K := compC hc
  have hk : den W.pr C n (cE g m iter) ls h _ := hk
  refine sComp0 (gs := []) (iter := iter) (ifs := ifs) (px := px) G O K rfl (fun y => folded_pure hk) ?_
  refine ih G hd O R hk fun v v' h1 n1 s1 hk1 hv R1 st1 => ?_
  refine sIter R1 G hv hk1 fun src all I n2 s2 hk2 R2 st2 hI hsame Z hIn => ?_
  refine wpAny_newList ?_
  refine e02 (R2.newList (vs := []) G .nil) fun R3 st3 => ?_
  rintro C0 hh m₀ hC0 hkeep hN
  refine e13 (ns_only hN) fun oC hoC hiC hNs => ?_
  refine e05 (comp_frame O K R3 hC0) fun hcC hnC hexC hclC hsv => ?_
  refine e02 (R3.enterC (env' := compEnvC sc (clOf c.env.cells sc.names []) C0 c.env) (x := x) (mid := midOf c sc) (vals := slotsOf ls ((freesOf sc.names).map fun y => place y g.sl)) hC0 hkeep hoC s2.toks hsv (mid_ok O K ls)) fun R4 st4 => ?_
  have G' := G.comp (C := C0) (cl := clOf c.env.cells sc.names []) (mid := midOf c sc) K
  have O' := O.comp (C := C0) G K
  have hmid := fun j y sl hj => (mid_ok O K ls j y sl hj).1
  have inv0 : CInv W (c.comp (compEnvC sc (clOf c.env.cells sc.names []) C0 c.env) C0 x (midOf c sc)) (Fx W c h1 n1) (slotsOf ls ((freesOf sc.names).map fun y => place y g.sl) ++ ls) src all I C0
      (fun vs h => denC (den W.pr C n) (denT W.pr C n) (cE (compG g x sc) m elt) (ifs.map (cE (compG g x sc) m)) (slotsOf ls ((freesOf sc.names).map fun y => place y g.sl) ++ ls) src all s2.heap.objs.size vs h (fun h => k (.ref s2.heap.objs.size) h)) all.length { s2 with heap := hh } :=
    ⟨none, _, _, 0, rfl, Nat.zero_le _, R4, ItAt.stab (ls' := ls) (s' := s) R2 G (st3.trans st4) hI, ⟨oC, m₀, .head _, hNs⟩, (st2.trans st3).trans st4, (hk2.out.out _ R2.top_le).out⟩
  have loop : codeAny (model W.prog W.w) c.A (.compLoop (.ListComp elt [⟨.Name x px, iter, ifs, 0⟩] sc pos) 0 (.ref I) (.ref s2.heap.objs.size) (compEnvC sc (clOf c.env.cells sc.names []) C0 c.env)) (compPost (model W.prog W.w) c.A E use Q (.ref s2.heap.objs.size) C0) { s2 with heap := hh } := by
    refine codeAny_compLoop_tests (CInv W (c.comp (compEnvC sc (clOf c.env.cells sc.names []) C0 c.env) C0 x (midOf c sc)) (Fx W c h1 n1) (slotsOf ls ((freesOf sc.names).map fun y => place y g.sl) ++ ls) src all I C0
      (fun vs h => denC (den W.pr C n) (denT W.pr C n) (cE (compG g x sc) m elt) (ifs.map (cE (compG g x sc) m)) (slotsOf ls ((freesOf sc.names).map fun y => place y g.sl) ++ ls) src all s2.heap.objs.size vs h (fun h => k (.ref s2.heap.objs.size) h))) (fun j t inv => ?_) _ inv0
    refine cTurn (g := compG g x sc) G' O' ⟨_, rfl⟩ hsv hmid hclC hnC hIn (fun vs h hp => by induction vs using List.casesOn <;> exact And.left hp) inv (fun o h' news' t' R' hns' st' hp => ?_) fun v vs h' news' t' i hj hilt hvs R' hit' st' hp => ?_
    · refine e22 hns' fun oC' mC' hm' hN' => ?_
      clear hns'
      refine e02 (R'.leaveC (Heap.SameBut.refl _ _) hsv t'.toks hcC hnC hexC) fun R5 st5 => ?_
      have hnw := R'.nw _ hm'
      exact q C0 _ _ _ _ _ (And.right hp) (.ref _) R5 ((st1.trans st').trans st5) (fun o hm => by simpa using (List.mem_filter.mp hm).2) hnw.2.1 hnw.2.2 ⟨mC', hN' _ (R'.at hm')⟩
    · replace hp := And.right hp
      refine sIfs (c := c.comp (compEnvC sc (clOf c.env.cells sc.names []) C0 c.env) C0 x (midOf c sc)) it G' hd O' R' hp fun b h5 n5 t5 hk5 R5 st5 => ?_
      induction b using Bool.casesOn
      · exact ⟨all.length - (i + 1), by lia, _, _, _, i + 1, rfl, hilt, R5, ItAt.stab (ls' := ls) (s' := s) R' G' st5 hit', nsAt_of R5 rfl, st'.trans st5, by rw [hvs]; exact hk5.e rfl⟩
      · exact cEltL ih G' hd O' hj hilt hvs R5 (ItAt.stab (ls' := ls) (s' := s) R' G' st5 hit') (st'.trans st5) (hk5.t rfl)
  refine codeAny_compStart_list loop (sSelf (c := c.comp (compEnvC sc (clOf c.env.cells sc.names []) C0 c.env) C0 x (midOf c sc)) R4 G' G'.handled (ItAt.stab (ls' := ls) (s' := s) R2 G (st3.trans st4) hI) ?_ loop)
  have := (hk2.out.out _ R2.top_le).out
  induction all using List.casesOn <;> exact And.left this
end
end
section
open PySem PySem.W PyProof.Rows PySem.Calls
noncomputable abbrev emptyD : Obj := { cls := .type "dict", data := .dict #[] }
section
variable {W : Wd} {c : Cx} {g : Cc} {ls : Ls} {h : Hp} {news : News'} {s : Shared} {F : PF} {A : Around} {E : Value → Shared → Prop} {C : Calls} {d m : Nat} {D : Addr} {x : Str} {sc : Scope}
theorem Rel.newDict (R : Rel W c ls h news s) :
    Rel W c ls (h.add s.heap.objs.size (.dict 0 [])) ((s.heap.objs.size, emptyD) :: news) { s with heap := s.heap.push emptyD } ∧ Stab (Fx W c h news) (Fx W c (h.add s.heap.objs.size (.dict 0 [])) ((s.heap.objs.size, emptyD) :: news)) :=
  R.alloc emptyD (.dict 0 []) rfl rfl fun Z Z hm st => .dictI hm ⟨#[], 0, ⟨rfl, rfl, rfl⟩, rfl, fun Z he => by simp at he, Pairs.nil, List.nodup_nil⟩ rfl .nil
theorem cEltD (ih : SE W C d m) {env' : Env} {C0 I : Addr} {mid : List (Str × Slot)} {vals : List (Option V)} {h0 : Hp} {news0 : News'} {src : Src} {all : List V} {P : List V → Hp → Prop} {j i n : Nat} {t : Shared} {E' : Value → Shared → Prop} {kx vx : Expr} {v : V} {vs : List V} {a : Nat}
    (G' : Good W (c.comp env' C0 x mid)) (hd : c.d = d) (O' : EnvOk W (c.comp env' C0 x mid) g) (hj : all.length - i = j) (hlt : i < all.length) (hvs : all.drop (i + 1) = vs)
    (R : Rel W (c.comp env' C0 x mid) (some v :: (vals ++ ls)) h news t) (hit : ItAt (c.comp env' C0 x mid) src all (i + 1) I h news) (st : Stab (Fx W c h0 news0) (Fx W (c.comp env' C0 x mid) h news))
    (hk : den W.pr C n (cE g m kx) (some v :: (vals ++ ls)) h fun kv h => den W.pr C n (cE g m vx) (some v :: (vals ++ ls)) h fun b h => onStr (fun x => RdO h a (oDict fun acc => Need ((∀ i v r, acc ≠ (.int i, v) :: r) ∧ small acc.length) (∀ ep, P vs (h.set a (.dict ep (putS x b acc)))))) kv) :
    wpAny (model W.prog W.w) c.A (eval kx env') (fun kv s₄ => wpAny (model W.prog W.w) c.A (eval vx env') (fun vv s₅ => wpAny (model W.prog W.w) c.A (dictSet a kv vv) (fun Z s₅ => ∃ m, m < j ∧ CInv W (c.comp env' C0 x mid) (Fx W c h0 news0) (vals ++ ls) src all I C0 P m s₅) E' s₅) E' s₄) E' t := by
  have h0' : (c.comp env' C0 x mid).sl[0]? = some (x, .ns C0) := rfl
  refine ih (c := c.comp env' C0 x mid) G' hd O' R hk fun r r' h1 n1 t1 hk1 hr R1 st1 => ?_
  refine ih (c := c.comp env' C0 x mid) G' hd O' R1 hk1 fun u u' h2 n2 t2 hk2 hu R2 st2 => ?_
  have hr := hr.stab st2
  refine e12 (onStr_inv hk2) fun y ey hk2 => ?_
  subst ey
  obtain ⟨ep0, acc, e1, ⟨hn, hz⟩, hk3⟩ := rdDict hk2
  · refine e24 (R2.dictS e1 hn) fun ob kvs hm hdd hrr hD => ?_
    refine strE hr fun z tz hz' => ?_
    subst hz'
    have hlen := hrr.length
    have := sizeLine_ge
    unfold small at hz
    refine wpAny_dictSet_pairs (strKind_is _ _ _ _) hD (fun hh hg hs => ?_) (by lia)
    refine e22 (R2.setDictS e1 hm hs hg (kvs_put hrr hu (DictOf.nodup hD)) (t2.toks + 1)) fun o' ep' R3 st3 => ?_
    refine ⟨all.length - (i + 1), by lia, _, _, _, i + 1, rfl, hlt, R3, ?_, nsAt_of R3 h0', ((st.trans st1).trans st2).trans st3, by rw [hvs]; exact hk3 _⟩
    exact ItAt.stab (ls' := ls) (s' := t) R G' ((st1.trans st2).trans st3) hit
theorem sDictComp (ih : SE W C d m) (it : ST W C d m) (G : Good W c) (hd : c.d = d) (O : EnvOk W c g) {kx vx iter : Expr} {ifs : List Expr} {px pos : Pos} {n : Nat} {k : KE} {use : Option (Value → Sem Unit)} {Q : Value → Shared → Prop} (hc : compOk g x sc = true) (R : Rel W c ls h news s)
    (hk : den W.pr C (n + 1) (.dcomp (cE (compG g x sc) m kx) (cE (compG g x sc) m vx) (cE g m iter) (ifs.map (cE (compG g x sc) m)) ((freesOf sc.names).map fun y => place y g.sl)) ls h k) (q : PostU W c ls h news k use Q E) :
    wpAny (model W.prog W.w) c.A (comprehension (.DictComp kx vx [⟨.Name x px, iter, ifs, 0⟩] sc pos) sc c.env iter.pos newDict false (eval iter c.env) use) Q E s := by
  have K := compC hc
  have hk : den W.pr C n (cE g m iter) ls h _ := hk
  refine sComp0 (gs := []) (iter := iter) (ifs := ifs) (px := px) G O K rfl (fun y => folded_pure hk) ?_
  refine ih G hd O R hk fun v v' h1 n1 s1 hk1 hv R1 st1 => ?_
  refine sIter R1 G hv hk1 fun src all I n2 s2 hk2 R2 st2 hI hsame Z hIn => ?_
  refine wpAny_newObj_type ?_
  refine e02 (R2.newDict) fun R3 st3 => ?_
  rintro C0 hh m₀ hC0 hkeep hN
  refine e13 (ns_only hN) fun oC hoC hiC hNs => ?_
  refine e05 (comp_frame O K R3 hC0) fun hcC hnC hexC hclC hsv => ?_
  refine e02 (R3.enterC (env' := compEnvC sc (clOf c.env.cells sc.names []) C0 c.env) (x := x) (mid := midOf c sc) (vals := slotsOf ls ((freesOf sc.names).map fun y => place y g.sl)) hC0 hkeep hoC s2.toks hsv (mid_ok O K ls)) fun R4 st4 => ?_
  have G' := G.comp (C := C0) (cl := clOf c.env.cells sc.names []) (mid := midOf c sc) K
  have O' := O.comp (C := C0) G K
  have hmid := fun j y sl hj => (mid_ok O K ls j y sl hj).1
  have inv0 : CInv W (c.comp (compEnvC sc (clOf c.env.cells sc.names []) C0 c.env) C0 x (midOf c sc)) (Fx W c h1 n1) (slotsOf ls ((freesOf sc.names).map fun y => place y g.sl) ++ ls) src all I C0
      (fun vs h => denD (den W.pr C n) (denT W.pr C n) (cE (compG g x sc) m kx) (cE (compG g x sc) m vx) (ifs.map (cE (compG g x sc) m)) (slotsOf ls ((freesOf sc.names).map fun y => place y g.sl) ++ ls) src all s2.heap.objs.size vs h (fun h => k (.ref s2.heap.objs.size) h)) all.length { s2 with heap := hh } :=
    ⟨none, _, _, 0, rfl, Nat.zero_le _, R4, ItAt.stab (ls' := ls) (s' := s) R2 G (st3.trans st4) hI, ⟨oC, m₀, .head _, hNs⟩, (st2.trans st3).trans st4, (hk2.out.out _ R2.top_le 0).out⟩
  have loop : codeAny (model W.prog W.w) c.A (.compLoop (.DictComp kx vx [⟨.Name x px, iter, ifs, 0⟩] sc pos) 0 (.ref I) (.ref s2.heap.objs.size) (compEnvC sc (clOf c.env.cells sc.names []) C0 c.env)) (compPost (model W.prog W.w) c.A E use Q (.ref s2.heap.objs.size) C0) { s2 with heap := hh } := by
    refine codeAny_compLoop_testsD (CInv W (c.comp (compEnvC sc (clOf c.env.cells sc.names []) C0 c.env) C0 x (midOf c sc)) (Fx W c h1 n1) (slotsOf ls ((freesOf sc.names).map fun y => place y g.sl) ++ ls) src all I C0
      (fun vs h => denD (den W.pr C n) (denT W.pr C n) (cE (compG g x sc) m kx) (cE (compG g x sc) m vx) (ifs.map (cE (compG g x sc) m)) (slotsOf ls ((freesOf sc.names).map fun y => place y g.sl) ++ ls) src all s2.heap.objs.size vs h (fun h => k (.ref s2.heap.objs.size) h))) (fun j t inv => ?_) _ inv0
    refine cTurn (g := compG g x sc) G' O' ⟨_, rfl⟩ hsv hmid hclC hnC hIn (fun vs h hp => by induction vs using List.casesOn <;> exact And.left hp) inv (fun o h' news' t' R' hns' st' hp => ?_) fun v vs h' news' t' i hj hilt hvs R' hit' st' hp => ?_
    · refine e22 hns' fun oC' mC' hm' hN' => ?_
      clear hns'
      refine e02 (R'.leaveC (Heap.SameBut.refl _ _) hsv t'.toks hcC hnC hexC) fun R5 st5 => ?_
      have hnw := R'.nw _ hm'
      exact q C0 _ _ _ _ _ (And.right hp) (.ref _) R5 ((st1.trans st').trans st5) (fun o hm => by simpa using (List.mem_filter.mp hm).2) hnw.2.1 hnw.2.2 ⟨mC', hN' _ (R'.at hm')⟩
    · replace hp := And.right hp
      refine sIfs (c := c.comp (compEnvC sc (clOf c.env.cells sc.names []) C0 c.env) C0 x (midOf c sc)) it G' hd O' R' hp fun b h5 n5 t5 hk5 R5 st5 => ?_
      induction b using Bool.casesOn
      · exact ⟨all.length - (i + 1), by lia, _, _, _, i + 1, rfl, hilt, R5, ItAt.stab (ls' := ls) (s' := s) R' G' st5 hit', nsAt_of R5 rfl, st'.trans st5, by rw [hvs]; exact hk5.e rfl⟩
      · exact cEltD ih G' hd O' hj hilt hvs R5 (ItAt.stab (ls' := ls) (s' := s) R' G' st5 hit') (st'.trans st5) (hk5.t rfl)
  refine codeAny_compStart_dict loop (sSelf (c := c.comp (compEnvC sc (clOf c.env.cells sc.names []) C0 c.env) C0 x (midOf c sc)) R4 G' G'.handled (ItAt.stab (ls' := ls) (s' := s) R2 G (st3.trans st4) hI) ?_ loop)
  have := (hk2.out.out _ R2.top_le 0).out
  induction all using List.casesOn <;> exact And.left this
end
end
section
open PySem PySem.W PyProof.Rows PySem.Calls
structure MkOk (W : Wd) : Prop where
  init : ∀ c ci, W.pr.ci c = some ci → findIn W.K (.ref (W.tb.clA c)) "__init__" = some (some (.ref (W.tb.fnA ci.init))) ∧ typeIn W.K (.ref (W.tb.fnA ci.init)) = some (.type "function")
section
variable {W : Wd} {c : Cx} {g : Cc} {ls : Ls} {h : Hp} {news : News'} {s : Shared} {F : PF} {A : Around} {E : Value → Shared → Prop} {C : Calls} {d m : Nat} {D : Addr} {x : Str} {sc : Scope}
theorem Rel.inK (R : Rel W c ls h news s) (G : Good W c) : W.K.In s.heap := fun a o e => R.keep _ _ (G.X a o e)
theorem plain_args {env : Env} {pos : Pos} {es : List Expr} : plainArgs es = true → (backTo pos (starEach es env)).any (·.1) = false := by
  induction es with
  | nil => exact fun Z => rfl
  | cons e r ih =>
    intro hp
    refine e02 (plain_cons hp) fun hs hr => ?_
    rw [star_ok hs]
    show (false || (backTo pos (starEach r env)).any (·.1)) = false
    rw [ih hr]; rfl
theorem plain_all {env : Env} {pos : Pos} {es : List Expr} (h : plainArgs es = true) : (backTo pos (starEach es env)).all (fun x => !x.1) = true := by
  have := plain_args (env := env) (pos := pos) h
  rw [List.any_eq_false] at this
  rw [List.all_eq_true]
  intro x hx
  simpa using this x hx
theorem sEvalArgs {M : Model} {f : Value} {env : Env} {pos : Pos} {es : List Expr} {Q : List Value → Shared → Prop} (hp : plainArgs es = true) (h : wpAny M A (spliced (backTo pos (starEach es env))) Q E s) :
    wpAny M A (evalArgs f true (backTo pos (starEach es env)) []) (fun a s₁ => a.kw = [] ∧ Q a.pos s₁) E s := by
  induction es using List.casesOn with
  | nil =>
    unfold evalArgs
    show wpAny M A (spliced [] >>= _) _ E s
    refine wpAny_bind (wpAny_mono (show wpAny M A (spliced []) Q E s from h) (fun vs s' h' => wpAny_bind (wpAny_pure ?_)) fun Z Z e => e)
    refine wpAny_holding ?_
    exact wpAny_bind (wpAny_pure (wpAny_bind (wpAny_pure (wpAny_pure ⟨rfl, h'⟩))))
  | cons e r =>
    have hs := (plain_cons hp).1
    rw [star_ok hs] at h ⊢
    exact evalArgs_plain (wpAny_mono h (fun Z Z q => ⟨rfl, q⟩) fun Z Z e => e)
noncomputable def KeepAt (M : Model) (f : Value) (h : Heap) : Prop := ∃ k, (k = Keeper.frame ∨ k = Keeper.machine ∨ k = Keeper.boundFrame) ∧ Looks M h (keeperOf f) k
theorem keepAt_bi {M : Model} {f : Value} {h : Heap} (hf : ∀ a, f ≠ .ref a) : KeepAt M f h := by
  refine ⟨.machine, .inr (.inl rfl), Looks.of_pure ?_⟩
  unfold keeperOf
  induction f using PySem.Value.casesOn <;> first | rfl | exact absurd rfl (hf _)
theorem biVal_ne (b : BI) : ∀ a, biVal b ≠ .ref a := by induction b using BI.casesOn <;> (intro a e; cases e)
theorem callWith_gen {M : Model} {pos : Pos} {f : Value} {first : List Value} {env : Env} {es : List Expr} {Q : Value → Shared → Prop} (hp : plainArgs es = true)
    (h : wpAny M A (spliced (backTo pos (starEach es env))) (fun vs s₁ => KeepAt M f s₁.heap ∧ wpAny M A (call f (first ++ vs)) Q E s₁) E s) :
    wpAny M A (callWith pos f first (backTo pos (starEach es env)) []) Q E s := by
  refine callWith_of (P := KeepAt M f) ?_ (fun Z x => x) ?_
  · rw [plain_args hp]; rfl
  · refine wpAny_mono (sEvalArgs hp h) (fun a s₁ q => ?_) fun Z Z e => e
    refine e03 (q) fun hk q1 q2 => ?_
    rw [hk]; exact ⟨q1, q2⟩
theorem Rel.allocInst (R : Rel W c ls h news s) {cc : Nat} {ns : List Str} (hf : W.flds cc = some ns) :
    ∃ news', Rel W c ls ((h.add s.heap.objs.size (.hid (s.heap.objs.size + 1))).add (s.heap.objs.size + 1) (.inst cc [])) news' { s with heap := (s.heap.push emptyDict).push (instObj (W.tb.clA cc) s.heap.objs.size) } ∧
      Stab (Fx W c h news) (Fx W c ((h.add s.heap.objs.size (.hid (s.heap.objs.size + 1))).add (s.heap.objs.size + 1) (.inst cc [])) news') := by
  refine e12 (R.fr) fun m F L => ?_
  have hn := R.noneAt R.top_le
  have hn1 := R.noneAt (Nat.le_trans R.top_le (Nat.le_succ s.heap.objs.size))
  generalize hD : s.heap.objs.size = D at *
  have hlt : ∀ {b x}, (b, x) ∈ news → b < D := fun hm => hD ▸ R.lt hm
  have hget : ∀ b, ((h.add D (.hid (D + 1))).add (D + 1) (.inst cc [])).get b = if b = D + 1 then some (.inst cc []) else if b = D then some (.hid (D + 1)) else h.get b := fun b => rfl
  have old : ∀ b, b < D → ((h.add D (.hid (D + 1))).add (D + 1) (.inst cc [])).get b = h.get b := fun b hb => by rw [hget, if_neg (by lia), if_neg (by lia)]
  have hs : Stab (Fx W c h news) (Fx W c ((h.add D (.hid (D + 1))).add (D + 1) (.inst cc [])) ((D + 1, instObj (W.tb.clA cc) D) :: (D, emptyDict) :: news)) := fun b x hx => hx.imp (fun z => e03 z fun p q r => ⟨.tail _ (.tail _ p), by
    rw [old _ (hlt p)]; exact q, r⟩) id
  have hgg : ∀ x y, h.get x = some y → ((h.add D (.hid (D + 1))).add (D + 1) (.inst cc [])).get x = some y := fun x y e => by
    rw [hget, if_neg, if_neg]
    · exact e
    · intro q
      rw [q, hn] at e
      cases e
    · intro q
      rw [q] at e
      rw [hn1] at e
      cases e
  have hnn : ∀ a, (∃ o, (a, o) ∈ news) → h.get a = none → ((h.add D (.hid (D + 1))).add (D + 1) (.inst cc [])).get a = none := fun a z e => z.elim fun o' hm => by rw [old _ (hlt hm)]; exact e
  refine ⟨(D + 1, instObj (W.tb.clA cc) D) :: (D, emptyDict) :: news, ⟨⟨m, (F.push emptyDict).push _, L.grow (fun Z Z Z => hs _ _) fun Z hp => .tail _ (.tail _ hp)⟩, ?_, fun b x e => ?_, .inr ⟨D + 1, instObj (W.tb.clA cc) D, .head _, Nat.le_refl _, rfl, fun hC => ?_⟩, fun b x e => ?_, fun b hb => ?_, fun x b hb => ?_, R.nx, R.gens, R.drawn, R.os, fun b x e => ?_⟩, hs⟩
  · have := (R.nw.push F emptyDict).push (F.push _) (instObj (W.tb.clA cc) s.heap.objs.size)
    rw [Heap.size_push, hD] at this
    exact this
  · rw [hget] at e
    split at e
    · rename_i q; cases e; subst q
      exact .inst (dx := D) hf (.head _) (.tail _ (.head _)) (by rw [hget, if_neg (Nat.ne_of_lt (Nat.lt_succ_self D)), if_pos rfl]) (Nat.zero_le _) (es := []) (n := 0) (vs := []) .nil .nil
    · split at e
      · rename_i q; cases e; subst q; exact .hid _ ⟨_, .tail _ (.head _)⟩
      · exact (R.hp b x e).grow (fun Z Z Z => hs _ _) (fun Z hp => .tail _ (.tail _ hp)) (fun Z Z Z hp => .tail _ (.tail _ hp)) (fun x e => hgg x _ e)
  · obtain ⟨_, o', hm⟩ := R.ex _ hC
    exact absurd (hlt hm) (Nat.not_lt.mpr (Nat.le_succ D))
  · show b < D + 1 + 1
    rw [hget] at e
    split at e
    · lia
    · split at e
      · lia
      · have := R.dom _ _ e
        have := R.top_le
        lia
  · obtain ⟨e, o', hm⟩ := R.ex b hb
    exact ⟨hnn b ⟨o', hm⟩ e, o', .tail _ (.tail _ hm)⟩
  · obtain ⟨e, o', v, hm, hd⟩ := R.cl x b hb
    exact ⟨e, o', v, .tail _ (.tail _ hm), hd⟩
  · rw [hget] at e
    split at e
    · cases e
    · split at e
      · cases e
        rw [hget, if_pos rfl]
        simp
      · cases q : h.get x with
        | none => exact absurd q (R.hid b x e)
        | some y => rw [hgg x y q]; simp
theorem Rel.freeze {h' : Hp} (R₀ : Rel W c ls h news s) {news' : News'} {s' : Shared} (R : Rel W c ls h' news' s') {a d cc : Nat} {fs : List V} {ci : Ci} (hci : W.pr.ci cc = some ci) (ha : h.get a = none) (hd : h.get d = none) (e : h'.get a = some (.inst cc fs)) (hl : fs.length = ci.flds.length)
    (hsame : ∀ b, b ≠ a → b ≠ d → h'.get b = h.get b) (hst : Stab (Fx W c h news) (Fx W c h' news')) (hda : h'.get d = some (.hid a)) :
    Rel W c ls ⟨h.get, h'.top⟩ news' s' ∧ Stab (Fx W c h' news') (Fx W c ⟨h.get, h'.top⟩ news') ∧ VR W (Fx W c ⟨h.get, h'.top⟩ news') (.obj cc fs) (.ref a) := by
  refine e12 (R.fr) fun m F L => ?_
  have none_of : ∀ x, h'.get x = none → h.get x = none := fun x hx => by
    by_cases q : x = a
    · rw [q]; exact ha
    · by_cases q2 : x = d
      · rw [q2]; exact hd
      · rw [← hsame x q q2]; exact hx
  have hs : Stab (Fx W c h' news') (Fx W c ⟨h.get, h'.top⟩ news') := fun b y hy => hy.imp (fun z => e03 z fun p q r => ⟨p, none_of b q, r⟩) id
  have back : ∀ b y, h.get b = some y → h'.get b = some y := fun b y q => by
    rw [hsame b, q]
    · rintro rfl; rw [ha] at q; cases q
    · rintro rfl; rw [hd] at q; cases q
  have hidb : ∀ b x, x ≠ a → h'.get b = some (.hid x) → h.get b = some (.hid x) := fun b x hx q => by
    rw [← hsame b, q]
    · rintro rfl; rw [e] at q; cases q
    · rintro rfl; rw [hda] at q; cases q; exact hx rfl
  refine ⟨⟨⟨m, F, L.grow (fun Z Z Z => hs _ _) fun Z hp => hp⟩, R.nw, fun b y q => ?_, R.top, fun b y q => R.dom b y (back b y q), fun b hb => ?_, R.cl, R.nx, R.gens, R.drawn, R.os, R₀.hid⟩, hs, ?_⟩
  · refine (R.hp b y (back b y q)).grow (fun Z Z Z => hs _ _) (fun Z hp => hp) (fun Z Z Z hp => hp) fun x hx => hidb x b ?_ hx
    rintro rfl; rw [show h.get b = some y from q] at ha; cases ha
  · obtain ⟨e', o', hm⟩ := R.ex b hb
    exact ⟨none_of b e', o', hm⟩
  · cases R.hp _ _ e with
    | @inst _ _ dx es n ns vs hns h1 h2 h3 h4 h5 h6 =>
      have hns' := flds_eq hci hns
      have hdx : h.get dx = none := by
        cases q : h.get dx with
        | none => rfl
        | some y =>
          have := back dx y q
          rw [h3] at this; cases this
          exact absurd ha (R₀.hid dx a q)
      have notex : ∀ b o, (b, o) ∈ news' → (∃ y, h'.get b = some y) → b ∉ c.ex := fun b o hm z hb => z.elim fun y hy => by
        rw [(R.ex b hb).1] at hy; cases hy
      refine .obj hns (.inl ⟨h1, ha, notex _ _ h1 ⟨_, e⟩⟩) (.inl ⟨h2, hdx, notex _ _ h2 ⟨_, h3⟩⟩) (n := n) ?_ (h6.stab hs)
      rwa [List.take_of_length_le (by rw [hns', List.length_map]; lia)] at h5
end
end
section
open PySem PySem.W PyProof.Rows PySem.Calls
structure AllOk (W : Wd) : Prop where
  ok : WdOk W
  ik : IsiOk W
  init : MkOk W
section
variable {W : Wd} {c : Cx} {g : Cc} {ls : Ls} {h : Hp} {news : News'} {s : Shared} {F : PF} {A : Around} {E : Value → Shared → Prop} {C : Calls} {d m n : Nat} {D : Addr} {x : Str} {sc : Scope} {k : KE} {Q : Value → Shared → Prop}
noncomputable def HC (W : Wd) (C : Calls) (d : Nat) : Prop := (∀ c, Good W c → c.d = d → CallsOk W C c) ∧ ∀ f vs h k, C f vs h k → keepIn W.K (.ref (W.tb.fnA f)) = true
theorem CallsOk.call (hC : CallsOk W C c) (G : Good W c) {f : Nat} {vs : List V} {vs' : List Value} (hk : C f vs h k) (R : Rel W c ls h news s) (hv : VRs W (Fx W c h news) vs vs') (q : PostE W c ls h news k Q) :
    wpAny (model W.prog W.w) c.A (call (.ref (W.tb.fnA f)) vs') Q E s :=
  wpAny_call (hC rfl G.handled (by lia) (by lia) hk R hv fun v v' h' n' s' a1 a2 a3 a4 => q _ _ _ _ _ a1 a2 a3 a4)
theorem tc_frames (A : Around) (C : Addr) (rest : List Value) (kw : List (Str × Value)) : (A.under (.builtin "type.__call__" ⟨.ref C :: rest, kw⟩)).frames = A.frames := rfl
theorem tc_depth (A : Around) (C : Addr) (rest : List Value) (kw : List (Str × Value)) : (A.under (.builtin "type.__call__" ⟨.ref C :: rest, kw⟩)).depth = A.depth + 1 := rfl
theorem tc_aunits (A : Around) (C : Addr) (rest : List Value) (kw : List (Str × Value)) : (A.under (.builtin "type.__call__" ⟨.ref C :: rest, kw⟩)).units = A.units + 1 := rfl
theorem sMake (ao : AllOk W) (hC : CallsOk W C c) (G : Good W c) {cc : Nat} {ci : Ci} {vs : List V} {vs' : List Value} (hci : W.pr.ci cc = some ci) (R : Rel W c ls h news s) (hv : VRs W (Fx W c h news) vs vs')
    (hk : ∀ d a, h.top ≤ d → d < a → C ci.init (.ref a :: vs) ((h.add d (.hid a)).add a (.inst cc [])) (mkK ci cc d a h k))
    (q : PostE W c ls h news k Q) : wpAny (model W.prog W.w) c.A (call (.ref (W.tb.clA cc)) vs') Q E s := by
  have ck := ao.ok.cls _ _ hci
  refine e02 (ao.init.init _ _ hci) fun i1 i2 => ?_
  have X := R.inK G
  have hf : W.flds cc = some (ci.flds.map W.tb.nm) := by unfold Wd.flds; rw [hci]; rfl
  have hk' := hk s.heap.objs.size (s.heap.objs.size + 1) R.top_le (Nat.lt_succ_self _)
  have hn := R.noneAt R.top_le
  have hn1 := R.noneAt (Nat.le_trans R.top_le (Nat.le_succ s.heap.objs.size))
  refine e12 (R.allocInst hf) fun news1 R1 st1 => ?_
  refine wpAny_call ?_
  obtain ⟨hh, gg, dd, t, os⟩ := s
  refine make_core (makes_of X ck.makes) (looks_findIn X i1) (fun self => bind_fn X self i2) (.inl rfl) ?_
  refine hC (tc_frames _ _ _ _) G.handled (by rw [tc_depth]; lia) (by rw [tc_aunits]; lia) hk' R1 (.cons (.ref _) (hv.stab st1)) ?_
  · intro v v' h' n' s' hk2 hv2 R2 st2
    refine e02 (onNone_inv hk2) fun ev hk3 => ?_
    subst ev
    refine noneE hv2 ?_
    refine ⟨rfl, ?_⟩
    cases hfz : ci.frozen with
    | false =>
      rw [hfz] at hk3
      exact q _ _ _ _ _ hk3 (.ref _) R2 (st1.trans st2)
    | true =>
      rw [hfz] at hk3
      obtain ⟨c', fs, e, ⟨ec, hl, hda, hsame⟩, hk4⟩ := rdInst hk3
      rw [ec] at e
      refine e03 (Rel.freeze R R2 hci hn1 hn e hl hsame (st1.trans st2) hda) fun R3 st3 hv3 => ?_
      exact q _ _ _ _ _ hk4 hv3 R3 ((st1.trans st2).trans st3)
theorem sCallAny (ao : AllOk W) (hC : HC W C d) (G : Good W c) (hd : c.d = d) {gv : V} {f' : Value} {vs : List V} {vs' : List Value} (R : Rel W c ls h news s) (hv : VRs W (Fx W c h news) vs vs')
    (hk : dApp W.pr C gv vs h k)
    (hf : VR W (Fx W c h news) gv f') (q : PostE W c ls h news k Q) : KeepAt (model W.prog W.w) f' s.heap ∧ wpAny (model W.prog W.w) c.A (call f' ([] ++ vs')) Q E s := by
  have X := R.inK G
  induction gv using V.casesOn with
  | fn i =>
    cases hf
    exact ⟨keeps_K (hC.2 _ _ _ _ hk) _ X, CallsOk.call (hC.1 c G hd) G hk R hv q⟩
  | bi b =>
    cases hf
    exact ⟨keepAt_bi (biVal_ne b), sBi ao.ok ao.ik R G G.handled hv hk q⟩
  | cls cc =>
    cases hf
    refine e12 (onSome_inv hk.out) fun ci hci hk => ?_
    exact ⟨keeps_K (ao.ok.cls _ _ hci).keep _ X, sMake ao (hC.1 c G hd) G hci R hv hk q⟩
  | _ => exact False.elim hk
theorem sCall (ao : AllOk W) (hC : HC W C d) (ih : SE W C d m) (G : Good W c) (hd : c.d = d) (O : EnvOk W c g) {f : Expr} {args : List Expr} {p pos : Pos} (hp : plainArgs args = true) (R : Rel W c ls h news s)
    (hk : den W.pr C (n + 1) (.call (cE g m (.Name x p)) (args.map (cE g m))) ls h k) (q : PostE W c ls h news k Q) :
    wpAny (model W.prog W.w) c.A (eval (.Call (.Name x p) args [] pos) c.env) Q E s := by
  have hk : den W.pr C n (cE g m (.Name x p)) ls h _ := hk
  refine Call_Name rfl (ih G hd O R hk fun v v' h1 n1 s1 hk1 hv R1 st1 => ?_)
  refine callWith_gen hp (sArgs ih G hd O R1 hk1 fun vs vs' h2 n2 s2 Z hk2 hvs R2 st2 => ?_)
  exact sCallAny ao hC G hd R2 hvs hk2 (hv.stab st2) fun v v' h' n' s' a1 a2 a3 a4 => q _ _ _ _ _ a1 a2 a3 ((st1.trans st2).trans a4)
theorem base_attr {o : Expr} {name : Str} {env : Env} {t : Sem Value} (hb : baseOk o = true) : attributeBase o name env t = t := by
  induction o using PySem.Expr.casesOn <;> first | rfl | cases hb
theorem sMethod (ao : AllOk W) (hC : HC W C d) (ih : SE W C d m) (G : Good W c) (hd : c.d = d) (O : EnvOk W c g) {o : Expr} {args : List Expr} {apos pos : Pos} {name : Str} {f : Nat}
    (hp : plainArgs args = true) (hl : args.length < 30) (hb : baseOk o = true) (hline : Nat.beq apos.endLine pos.line = true) (hn : lookStr name g.nat = some f) (R : Rel W c ls h news s)
    (hk : den W.pr C (n + 1) (.meth (cE g m o) f (args.map (cE g m))) ls h k) (q : PostE W c ls h news k Q) :
    wpAny (model W.prog W.w) c.A (eval (.Call (.Attribute o name apos) args [] pos) c.env) Q E s := by
  have hk : den W.pr C n (cE g m o) ls h _ := hk
  have hnm := O.nat _ _ hn
  have hform : methodCallForm (args.length + ([] : List Keyword).length) (backTo pos (starEach args c.env)) (backToKw pos (keywordEach [] c.env)) = true := by
    unfold methodCallForm
    rw [plain_all hp]
    rw [show keywordEach [] c.env = [] from rfl]
    simp only [backToKw, List.map_nil, List.all_nil, Bool.and_true, List.isEmpty_nil, if_true, List.length_nil, Nat.add_zero, Bool.true_and, decide_eq_true_eq]
    exact hl
  have hpos : methodCallPos true o c.env apos pos = pure pos := by
    unfold methodCallPos
    have : (apos.endLine == pos.line) = true := by rw [Nat.eq_of_beq_eq_true hline]; simp
    simp [this]
  rw [arm_eval_Call, base_attr hb]
  refine wpAny_bind (ih G hd O R hk fun v v' h1 n1 s1 hk1 hv R1 st1 => ?_)
  refine wpAny_bind (wpAny_standAt ?_)
  unfold methodCall
  rw [hform]
  subst hnm
  refine wpAny_bind (wpAny_holding ?_)
  unfold calleeOf
  simp only [if_true]
  refine sMeth ao.ok R1 G hv hk1 fun r fv s2 hk2 hmr R2 => ?_
  dsimp only
  rw [hpos, pure_bind]
  have X2 := R2.inK G
  refine callWith_gen (es := args) hp (sArgs ih G hd O R2 hk2 fun vs vs' h3 n3 s3 Z hk3 hvs R3 st3 => ?_)
  have X3 := R3.inK G
  by_cases hown : ∃ i, r = .own i
  · refine e11 hown fun i eq1 => ?_
    clear hown
    subst eq1
    cases hmr with
    | own i x hkeep =>
      refine ⟨keeps_K hkeep _ X3, ?_⟩
      exact CallsOk.call (hC.1 c G hd) G hk3 R3 (.cons (hv.stab st3) hvs) fun v v' h' n' s' a1 a2 a3 a4 => q _ _ _ _ _ a1 a2 a3 ((st1.trans st3).trans a4)
  · refine ⟨?_, sMethCall R3 G hmr (hv.stab st3) hvs (fun i e => hown ⟨i, e⟩) hk3 fun v v' h' n' s' a1 a2 a3 a4 => q _ _ _ _ _ a1 a2 a3 ((st1.trans st3).trans a4)⟩
    cases hmr with
    | own i x hkeep => exact absurd ⟨_, rfl⟩ hown
    | _ => exact keepAt_bi (fun a e => by cases e)
end
end
section
open PySem PySem.W PyProof.Rows PySem.Calls
section
variable {W : Wd} {c : Cx} {g : Cc} {ls : Ls} {h : Hp} {news : News'} {s : Shared} {F : PF} {A : Around} {E : Value → Shared → Prop} {C : Calls} {d m n : Nat} {D : Addr} {x : Str} {sc : Scope} {k : KE} {Q : Value → Shared → Prop}
inductive PRs (W : Wd) (F : PF) : List (V × V) → List (Value × Value) → Prop
  | nil : PRs W F [] []
  | cons {a b a' b' l r} : VR W F a a' → VR W F b b' → PRs W F l r → PRs W F ((a, b) :: l) ((a', b') :: r)
theorem PRs.kvi {l : List (V × V)} {r : List (Value × Value)} (h : PRs W F l r) (hk : intKeys l ≠ none) : ∃ kvs, KVI W F l kvs ∧ Carries (intKind W.prog W.w) r kvs := by
  induction h with
  | nil => exact ⟨[], .nil, trivial⟩
  | @cons a b a' b' l r ha hb hr ih =>
    have hk : (match isI a with
      | some i => (intKeys l).map (i :: ·)
      | none => none) ≠ none := hk
    cases e : isI a with
    | none => rw [e] at hk; exact absurd rfl hk
    | some i =>
      rw [e] at hk
      refine e12 (ih (fun e => hk (by rw [e]; rfl))) fun kvs h1 h2 => ?_
      have := isI_inv e
      subst this
      refine intE ha fun t => ?_
      exact ⟨(i, b') :: kvs, .cons hb h1, beq_self_eq_true i, rfl, h2⟩
theorem PRs.kvs {l : List (V × V)} {r : List (Value × Value)} (h : PRs W F l r) (hk : strKeys l = true) : ∃ kvs, KVS W F l kvs ∧ Carries (strKind W.prog W.w) r kvs := by
  induction h with
  | nil => exact ⟨[], .nil, trivial⟩
  | @cons a b a' b' l r ha hb hr ih =>
    have hk : (match isS a with
      | some _ => strKeys l
      | none => false) = true := hk
    cases e : isS a with
    | none => rw [e] at hk; cases hk
    | some i =>
      rw [e] at hk
      refine e12 (ih hk) fun kvs h1 h2 => ?_
      have := isS_inv e
      subst this
      refine strE ha fun x t hx => ?_
      subst hx
      exact ⟨(x, b') :: kvs, .cons hb h1, beq_self_eq_true x, rfl, h2⟩
theorem kvs_putAll {fs : List (V × V)} {more : List (Str × Value)} (hm : KVS W F fs more) : ∀ {es es' : List (V × V)} {kvs : List (Str × Value)}, KVS W F es kvs → (kvs.map (·.1)).Nodup → putAll fs es = some es' → KVS W F es' (merged kvs more) := by
  induction hm with
  | nil => exact fun h Z e => Option.some.inj e ▸ h
  | cons hv hr ih => exact fun h nd e => ih (kvs_put h hv nd) (stored_keys nd) e
noncomputable def PostP (W : Wd) (c : Cx) (ls : Ls) (h : Hp) (news : News') (k : List (V × V) → Hp → Prop) (Q : List (Value × Value) → Shared → Prop) : Prop :=
  ∀ v v' h' news' s', k v h' → PRs W (Fx W c h' news') v v' → Rel W c ls h' news' s' → Stab (Fx W c h news) (Fx W c h' news') → Q v' s'
theorem PRs.stab {F F' : PF} {v v'} (h : PRs W F v v') (st : Stab F F') : PRs W F' v v' := by
  induction h with
  | nil => exact .nil
  | cons a b _ ih => exact .cons (a.stab st) (b.stab st) ih
noncomputable def pairTrees (pos : Pos) (env : Env) : List (Option Expr) → List Expr → List (Sem Value × Sem Value)
  | some k :: ks, v :: vs => (eval k env, do let x ← eval v env; standAt pos; pure x) :: pairTrees pos env ks vs
  | _, _ => []
theorem cPs_inv {f : Expr → Ex} {ks : List (Option Expr)} {vs : List Expr} {l : List (Ex × Ex)} (h : cPs f ks vs = some l) : (ks = [] ∧ vs = [] ∧ l = []) ∨ ∃ a ks' b vs' l', ks = some a :: ks' ∧ vs = b :: vs' ∧ cPs f ks' vs' = some l' ∧ (f a, f b) :: l' = l := by
  induction ks using List.casesOn with
  | nil => cases vs with
    | nil => exact .inl ⟨rfl, rfl, (Option.some.inj h).symm⟩
    | cons _ _ => exact none_ne h
  | cons k ks => induction k using Option.casesOn with
    | none => exact none_ne h
    | some a => induction vs using List.casesOn with
      | nil => exact none_ne h
      | cons b vs =>
        have h : (match cPs f ks vs with | some l => some ((f a, f b) :: l) | none => none) = some l := h
        cases hl : cPs f ks vs with
        | none => rw [hl] at h; exact none_ne h
        | some l' => rw [hl] at h; exact .inr ⟨a, ks, b, vs, l', rfl, rfl, hl, Option.some.inj h⟩
theorem sPairs (ih : SE W C d m) (G : Good W c) (hd : c.d = d) (O : EnvOk W c g) {pos : Pos} : ∀ {ks : List (Option Expr)} {vs : List Expr} {l : List (Ex × Ex)} {h : Hp} {news : News'} {s : Shared} {k : List (V × V) → Hp → Prop} {Q : List (Value × Value) → Shared → Prop},
    cPs (cE g m) ks vs = some l → Rel W c ls h news s → denPs (atLs (den W.pr C n) ls) l h k → PostP W c ls h news k Q → wpAny (model W.prog W.w) c.A (evalPairs (pairTrees pos c.env ks vs)) Q E s := by
  intro ks
  induction ks with
  | nil =>
    intro vs l h news s k Q hz R hk q
    rcases cPs_inv hz with ⟨_, rfl, rfl⟩ | ⟨_, _, _, _, _, e, _⟩
    · exact evalPairs_nil (q [] [] h news s hk .nil R .refl)
    · cases e
  | cons k0 ks ihk =>
    intro vs l h news s k Q hz R hk q
    rcases cPs_inv hz with ⟨e, _⟩ | ⟨a, ks', b, vs', l', e1, e2, hl, e3⟩
    · cases e
    cases e1
    subst e2 e3
    refine evalPairs_cons (ih G hd O R (show den W.pr C n (cE g m a) ls h (kP1 (atLs (den W.pr C n) ls) (cE g m b) (denPs (atLs (den W.pr C n) ls) l') k) from hk) fun v v' h1 n1 s1 hk1 hv R1 st1 => ?_)
    refine wpAny_bind (ih G hd O R1 (show den W.pr C n (cE g m b) ls h1 (kP2 (denPs (atLs (den W.pr C n) ls) l') v k) from hk1) fun w w' h2 n2 s2 hk2 hw R2 st2 => wpAny_bind (wpAny_standAt (wpAny_pure ?_)))
    exact ihk hl R2 hk2 fun ps ps' h3 n3 s3 hk3 hps R3 st3 => q _ _ _ _ _ hk3 (.cons ((hv.stab st2).stab st3) (hw.stab st3) hps) R3 ((st1.trans st2).trans st3)
theorem trees_zip {pos : Pos} {env : Env} : ∀ {ks : List (Option Expr)} {vs : List Expr} {l : List (Ex × Ex)}, cPs (cE g m) ks vs = some l →
    (evalEachOpt ks env).zip ((evalEach vs env).map fun v => do let x ← v; standAt pos; pure x) = (pairTrees pos env ks vs).map fun p => (some p.1, p.2) := by
  intro ks
  induction ks with
  | nil =>
    intro vs l hz
    rcases cPs_inv hz with ⟨_, rfl, rfl⟩ | ⟨_, _, _, _, _, e, _⟩
    · rfl
    · cases e
  | cons k0 ks ihk =>
    intro vs l hz
    rcases cPs_inv hz with ⟨e, _⟩ | ⟨a, ks', b, vs', l', e1, e2, hl, e3⟩
    · cases e
    cases e1
    subst e2
    show (some (eval a env) :: evalEachOpt ks env).zip (((eval b env) :: evalEach vs' env).map _) = _
    rw [List.map_cons, List.zip_cons_cons, ihk hl]; rfl
theorem trees_len {pos : Pos} {env : Env} : ∀ {ks : List (Option Expr)} {vs : List Expr} {l : List (Ex × Ex)}, cPs (cE g m) ks vs = some l → (pairTrees pos env ks vs).length = ks.length := by
  intro ks
  induction ks with
  | nil =>
    intro vs l hz
    rcases cPs_inv hz with ⟨_, rfl, rfl⟩ | ⟨_, _, _, _, _, e, _⟩
    · rfl
    · cases e
  | cons k0 ks ihk =>
    intro vs l hz
    rcases cPs_inv hz with ⟨e, _⟩ | ⟨a, ks', b, vs', l', e1, e2, hl, e3⟩
    · cases e
    cases e1
    subst e2
    show (pairTrees pos env ks vs').length + 1 = ks.length + 1
    rw [ihk hl]
theorem sDict (ih : SE W C d m) (G : Good W c) (hd : c.d = d) (O : EnvOk W c g) {ks : List (Option Expr)} {vs : List Expr} {l : List (Ex × Ex)} {pos : Pos} (hl : ks.length ≤ 15) (hz : cPs (cE g m) ks vs = some l) (R : Rel W c ls h news s)
    (hk : den W.pr C (n + 1) (.dict l) ls h k) (q : PostE W c ls h news k Q) : wpAny (model W.prog W.w) c.A (eval (.Dict ks vs pos) c.env) Q E s := by
  refine e02 (R.newDict) fun R1 st1 => ?_
  have tail : ∀ {ps ps' h1 n1 s1}, PRs W (Fx W c h1 n1) ps ps' → ps'.length = ks.length → Rel W c ls h1 n1 s1 → Stab (Fx W c (h.add s.heap.objs.size (.dict 0 [])) ((s.heap.objs.size, emptyD) :: news)) (Fx W c h1 n1) →
      kDic2 s.heap.objs.size k ps h1 → wpAny (model W.prog W.w) c.A (forIn ps' PUnit.unit fun (x : Value × Value) (_ : PUnit) => (do dictSet s.heap.objs.size x.1 x.2; pure (ForInStep.yield PUnit.unit) : Sem (ForInStep PUnit))) (fun Z s' => Q (.ref s.heap.objs.size) s') E s1 := by
    intro ps ps' h1 n1 s1 hps hlen R2 st2 hk2
    refine e22 (rdDict hk2) fun ep0 l0 e hk3 => ?_
    obtain ⟨e0, es, he, ⟨hsm, hkey⟩, hk4⟩ := onNil_inv hk3
    subst e0
    · have := sizeLine_ge
      rcases hkey with hkey | hkey
      · refine e12 (hps.kvi hkey) fun kvs h3 h4 => ?_
        refine e24 (R2.dictI e (fun q => none_ne q.symm)) fun ob kv0 hm hdd hrr hD => ?_
        cases hrr
        refine wpAny_storeAll ps' kvs [] s1 _ h4 hD (by have := h4.length; simp; lia) fun hh hm' hs' => ?_
        refine e22 (R2.setDictI e hm hs' hm' (kvi_putAll h3 .nil List.nodup_nil he) (s1.toks + ps'.length)) fun o' ep' R3 st3 => ?_
        exact q _ _ _ _ _ (hk4 _) (.ref _) R3 ((st1.trans st2).trans st3)
      · refine e12 (hps.kvs hkey) fun kvs h3 h4 => ?_
        refine e24 (R2.dictS e (by simp)) fun ob kv0 hm hdd hrr hD => ?_
        cases hrr
        refine wpAny_storeAll ps' kvs [] s1 _ h4 hD (by have := h4.length; simp; lia) fun hh hm' hs' => ?_
        refine e22 (R2.setDictS e hm hs' hm' (kvs_putAll h3 .nil List.nodup_nil he) (s1.toks + ps'.length)) fun o' ep' R3 st3 => ?_
        exact q _ _ _ _ _ (hk4 _) (.ref _) R3 ((st1.trans st2).trans st3)
  by_cases h0 : ks = []
  · subst h0
    induction vs using List.casesOn with
    | nil =>
      cases hz
      refine wpAny_Dict_empty ?_
      exact q _ _ _ _ _ ((show FrD h [] (kRef k) from hk).out.out _ R.top_le 0) (.ref _) R1 st1
    | cons _ _ => exact none_ne hz
  · rw [arm_eval_Dict, trees_zip hz, dictDisplay_pairs _ (by
      intro e
      have := trees_len (pos := pos) (env := c.env) hz
      rw [e] at this
      exact h0 (List.length_eq_zero_iff.mp this.symm)) (by rw [trees_len hz]; lia)]
    refine wpAny_bind (wpAny_standAt (wpAny_bind ?_))
    unfold subDict
    refine wpAny_bind (wpAny_alloc ?_)
    refine wpAny_bind (wpAny_holding ?_)
    rw [if_pos (by rw [trees_len hz]; exact hl)]
    have hk1 : denPs (atLs (den W.pr C n) ls) l (h.add s.heap.objs.size (.dict 0 [])) (kDic2 s.heap.objs.size k) := by
      induction l using List.casesOn with
      | nil =>
        rcases cPs_inv hz with ⟨e, _⟩ | ⟨_, _, _, _, _, _, _, _, e⟩
        · exact absurd e h0
        · cases e
      | cons p l => exact (show FrD h [] (kDic1 (dAll W.pr C n) (p :: l) ls k) from hk).out.out _ R.top_le 0
    refine wpAny_bind (wpAny_mono (wpAny_evalPairs_len (Q := fun ps' s1 => ps'.length = ks.length → wpAny (model W.prog W.w) c.A (forIn ps' PUnit.unit fun (x : Value × Value) (_ : PUnit) => (do dictSet s.heap.objs.size x.1 x.2; pure (ForInStep.yield PUnit.unit) : Sem (ForInStep PUnit))) (fun Z s' => Q (.ref s.heap.objs.size) s') E s1)
      (sPairs ih G hd O hz R1 hk1 fun ps ps' h1 n1 s1 hk1 hps R2 st2 => fun hlen => tail hps hlen R2 st2 hk1)) (fun ps' s₁ h₁ => ?_) fun Z Z e => e)
    refine wpAny_holding (wpAny_bind (wpAny_mono (h₁.2 (by rw [h₁.1, trees_len hz])) (fun Z s' hq => ?_) fun Z Z e => e))
    exact wpAny_pure (wpAny_pure (wpAny_pure hq))
theorem sPart (ih : SE W C d m) (G : Good W c) (hd : c.d = d) (O : EnvOk W c g) {o : Option Expr} (R : Rel W c ls h news s) (hk : den W.pr C n (cO (cE g m) o) ls h k) (q : PostE W c ls h news k Q) :
    wpAny (model W.prog W.w) c.A (evalPart o c.env) Q E s := by
  induction o using Option.casesOn with
  | none =>
    induction n using Nat.casesOn with
    | zero => exact False.elim hk
    | succ n =>
      exact wpAny_pure (q _ _ _ _ _ hk .none R .refl)
  | some e => exact ih G hd O R hk q
theorem sSlice (ih : SE W C d m) (G : Good W c) (hd : c.d = d) (O : EnvOk W c g) {v : Expr} {lo hi st : Option Expr} {p pos : Pos} (R : Rel W c ls h news s)
    (hk : den W.pr C (n + 1) (.slc (cE g m v) (cO (cE g m) lo) (cO (cE g m) hi) (cO (cE g m) st)) ls h k) (q : PostE W c ls h news k Q) :
    wpAny (model W.prog W.w) c.A (eval (.Subscript v (.Slice lo hi st p) pos) c.env) Q E s := by
  have hk : den W.pr C n (cE g m v) ls h (kSlc1 (dAll W.pr C n) (cO (cE g m) lo) (cO (cE g m) hi) (cO (cE g m) st) ls k) := hk
  refine Subscript_ (ih G hd O R hk fun v v' h1 n1 s1 hk1 hv R1 st1 => ?_)
  refine wpAny_Slice (sPart ih G hd O R1 (show den W.pr C n (cO (cE g m) lo) ls h1 _ from hk1) fun a a' h2 n2 s2 hk2 ha R2 st2 => sPart ih G hd O R2 (show den W.pr C n (cO (cE g m) hi) ls h2 _ from hk2) fun b b' h3 n3 s3 hk3 hb R3 st3 => sPart ih G hd O R3 (show den W.pr C n (cO (cE g m) st) ls h3 _ from hk3) fun e e' h4 n4 s4 hk4 he R4 st4 => ?_)
  refine e03 (R4.push { cls := .type "slice", data := .fields #[a', b', e'] }) fun R5 st5 Z => ?_
  refine sSlc R5 G ((((hv.stab st2).stab st3).stab st4).stab st5) (((ha.stab st3).stab st4).stab st5) ((hb.stab st4).stab st5) (he.stab st5) (Heap.IsSliceOf.new _ _ _ _) hk4 fun v v' h' n' s' a1 a2 a3 a4 => ?_
  exact q _ _ _ _ _ a1 a2 a3 (((((st1.trans st2).trans st3).trans st4).trans st5).trans a4)
theorem MIf.go {b : Bool} {p q r : Prop} (h : MIf b p q) (hp : b = true → p → r) (hq : b = false → q → r) : r := by
  induction b using Bool.casesOn
  · exact hq rfl (h.e rfl)
  · exact hp rfl (h.t rfl)
section
variable {P : Pr} {xx : Ex} {kb : KB}
theorem pl_den (hk : den P C (n + 1) (pl xx) ls h k) : den P C (n + 1) xx ls h k := by induction xx using Ex.casesOn <;> first | exact hk | exact False.elim hk
theorem pl_denT (hk : denT P C (n + 1) (pl xx) ls h kb) : den P C n (pl xx) ls h (kTru kb) := by induction xx using Ex.casesOn <;> exact hk
theorem optE_den {α : Type} {o : Option α} {f : α → Ex} (hk : den P C (n + 1) (optE o f) ls h k) : ∃ a, o = some a ∧ den P C (n + 1) (f a) ls h k := by
  induction o using Option.casesOn with
  | none => exact False.elim hk
  | some a => exact ⟨a, rfl, hk⟩
theorem ifE_den {b : Bool} (hk : den P C (n + 1) (ifE b xx) ls h k) : b = true ∧ den P C (n + 1) xx ls h k := by
  induction b using Bool.casesOn with
  | false => exact False.elim hk
  | true => exact ⟨rfl, hk⟩
end
theorem cmp_denT {P : Pr} {f : Expr → Ex} {l : Expr} {o : List CmpOp} {r : List Expr} {kb : KB} (hk : denT P C (n + 1) (cCmp f l o r) ls h kb) : den P C n (cCmp f l o r) ls h (kTru kb) := by
  have hk : denT P C (n + 1) (ifE (!lastMarks o r) (optE (zipC o (r.map f)) fun l' => .cmp (f l) l')) ls h kb := hk
  show den P C n (ifE (!lastMarks o r) (optE (zipC o (r.map f)) fun l' => .cmp (f l) l')) ls h (kTru kb)
  revert hk
  generalize (!lastMarks o r) = b
  intro hk
  induction b using Bool.casesOn with
  | false => exact hk
  | true =>
    revert hk
    generalize zipC o (r.map f) = z
    intro hk
    induction z using Option.casesOn with
    | none => exact hk
    | some l' => exact hk
theorem isTrue_other {e : Expr} {env : Env} {whole : Sem Value} {M : Model} {Q : Bool → Shared → Prop} (he : PySem.isTrue e env whole = (do let v ← whole; standAt e.pos; holding [v] (PySem.truthy v)))
    (h : wpAny M A whole (fun v s₁ => wpAny M A (PySem.truthy v) Q E s₁) E s) : wpAny M A (PySem.isTrue e env whole) Q E s := isTrue_plain h he
section
variable {l r v t a b : Expr} {pos : Pos} {es : List Expr} {kb : KB} {Qb : Bool → Shared → Prop}
theorem aBin (ih : SE W C d m) (G : Good W c) (hd : c.d = d) (O : EnvOk W c g) (R : Rel W c ls h news s) {op : Operator} (hk0 : den W.pr C (n + 1) (optE (opB? op) fun o => .bin o (cE g m l) (cE g m r)) ls h k) (q : PostE W c ls h news k Q) :
    wpAny (model W.prog W.w) c.A (eval (.BinOp l op r pos) c.env) Q E s := by
  refine e12 (optE_den hk0) fun o ho hk => ?_
  refine wpAny_BinOp (ih G hd O R (show den W.pr C n (cE g m l) ls h _ from hk) fun v v' h1 n1 s1 hk1 hv R1 st1 => ih G hd O R1 (show den W.pr C n (cE g m r) ls h1 _ from hk1) fun w w' h2 n2 s2 hk2 hw R2 st2 => ?_)
  have := sBin (A := c.A) (E := E) (QQ := Q) R2 G (hv.stab st2) hw hk2 fun u u' n3 s3 hk3 hu R3 st3 => q _ _ _ _ _ hk3 hu R3 ((st1.trans st2).trans st3)
  rwa [opB_opB ho] at this
theorem aUn (ih : SE W C d m) (G : Good W c) (hd : c.d = d) (O : EnvOk W c g) (R : Rel W c ls h news s) {op : UnaryOp} (hk : den W.pr C (n + 1) (cUn op (cE g m v)) ls h k) (q : PostE W c ls h news k Q) :
    wpAny (model W.prog W.w) c.A (eval (.UnaryOp op v pos) c.env) Q E s := by
  cases op with
  | Not => exact wpAny_UnaryOp (ih G hd O R (show den W.pr C n (cE g m v) ls h _ from hk) fun v v' h1 n1 s1 hk1 hv R1 st1 => not_of (sTruthy R1 hv hk1 fun b s2 hk2 R2 => q _ _ _ _ _ hk2 (.bool _) R2 st1))
  | USub =>
    refine wpAny_UnaryOp (ih G hd O R (show den W.pr C n (cE g m v) ls h _ from hk) fun v v' h1 n1 s1 hk1 hv R1 st1 => ?_)
    refine e12 (onInt_inv hk1) fun i ei hk2 => ?_
    subst ei
    refine intE hv fun t => ?_
    exact PyProof.Rows.neg_int (q _ _ _ _ _ hk2 (.int _ _) (R1.tok _) st1)
  | _ => exact False.elim hk
theorem aCmp (ih : SE W C d m) (G : Good W c) (hd : c.d = d) (O : EnvOk W c g) (R : Rel W c ls h news s) {ops : List CmpOp} (hk0 : den W.pr C (n + 1) (cCmp (cE g m) l ops es) ls h k) (q : PostE W c ls h news k Q) :
    wpAny (model W.prog W.w) c.A (eval (.Compare l ops es pos) c.env) Q E s := by
  refine e02 (ifE_den hk0) fun hm hk1 => ?_
  refine e12 (optE_den hk1) fun l' hz hk => ?_
  rw [arm_eval_Compare, markedEach_of_false _ _ _ ((Bool.not_eq_true' _).mp hm)]
  refine wpAny_bind (ih G hd O R (show den W.pr C n (cE g m l) ls h _ from hk) fun v v' h1 n1 s1 hk1 hv R1 st1 => ?_)
  exact sChain ih G hd O hz R1 hv hk1 fun v v' h' n' s' a1 a2 a3 a4 => q _ _ _ _ _ a1 a2 a3 (st1.trans a4)
theorem tCmp (ih : SE W C d m) (G : Good W c) (hd : c.d = d) (O : EnvOk W c g) (R : Rel W c ls h news s) {ops : List CmpOp} (hk0 : den W.pr C (n + 1) (cCmp (cE g m) l ops es) ls h (kTru kb)) (q : PostB W c ls h news kb Qb) :
    wpAny (model W.prog W.w) c.A (PySem.isTrue (.Compare l ops es pos) c.env (eval (.Compare l ops es pos) c.env)) Qb E s := by
  refine e02 (ifE_den hk0) fun hm hk1 => ?_
  refine e12 (optE_den hk1) fun l' hz hk => ?_
  rw [arm_isTrue_Compare, markedEach_of_false _ _ _ ((Bool.not_eq_true' _).mp hm)]
  refine wpAny_bind (ih G hd O R (show den W.pr C n (cE g m l) ls h _ from hk) fun v v' h1 n1 s1 hk1 hv R1 st1 => ?_)
  exact sTest ih G hd O hz R1 hv hk1 fun b h' n' s' a1 a3 a4 => q _ _ _ _ a1 a3 (st1.trans a4)
theorem aSub (ih : SE W C d m) (G : Good W c) (hd : c.d = d) (O : EnvOk W c g) (R : Rel W c ls h news s) (hk : den W.pr C (n + 1) (cSub (cE g m) v r) ls h k) (q : PostE W c ls h news k Q) :
    wpAny (model W.prog W.w) c.A (eval (.Subscript v r pos) c.env) Q E s := by
  have hk : den W.pr C (n + 1) (match sliceOf r with
    | some p => .slc (cE g m v) (cO (cE g m) p.1) (cO (cE g m) p.2.1) (cO (cE g m) p.2.2)
    | none => .idx (cE g m v) (cE g m r)) ls h k := hk
  cases hs : sliceOf r with
  | some p =>
    rw [hs] at hk
    refine e11 (soms_at (f := fun q => ∃ p, r = .Slice q.1 q.2.1 q.2.2 p) (sliceOf_all r) hs) fun p' e => ?_
    subst e
    exact sSlice ih G hd O R hk q
  | none =>
    rw [hs] at hk
    refine Subscript_ (ih G hd O R (show den W.pr C n (cE g m v) ls h _ from hk) fun v v' h1 n1 s1 hk1 hv R1 st1 => ih G hd O R1 (show den W.pr C n (cE g m r) ls h1 _ from hk1) fun w w' h2 n2 s2 hk2 hw R2 st2 => ?_)
    exact sIdx R2 G (hv.stab st2) hw hk2 fun u u' s3 hk3 hu R3 => q _ _ _ _ _ hk3 hu R3 (st1.trans st2)
theorem aCall (ao : AllOk W) (hC : HC W C d) (ih : SE W C d m) (G : Good W c) (hd : c.d = d) (O : EnvOk W c g) (R : Rel W c ls h news s) {kws : List Keyword} (hk0 : den W.pr C (n + 1) (ifE (noKw kws && plainArgs es) (cCall (cE g m) g v es pos)) ls h k) (q : PostE W c ls h news k Q) :
    wpAny (model W.prog W.w) c.A (eval (.Call v es kws pos) c.env) Q E s := by
  refine e02 (ifE_den hk0) fun hp hk1 => ?_
  refine e02 (Bool.and_eq_true_iff.mp hp) fun hw hp => ?_
  induction kws using List.casesOn with
  | cons _ _ => cases hw
  | nil =>
  have hk1 : den W.pr C (n + 1) (match attrOf v with
    | some p => cMeth (cE g m) g es pos p
    | none => optE (nameOf v) fun Z => .call (cE g m v) (es.map (cE g m))) ls h k := hk1
  cases ha : attrOf v with
  | some p =>
    rw [ha] at hk1
    refine e02 (ifE_den hk1) fun hb hk2 => ?_
    refine e12 (optE_den hk2) fun f hf hk => ?_
    refine e02 (Bool.and_eq_true_iff.mp hb) fun hb1 hb2 => ?_
    refine e02 (Bool.and_eq_true_iff.mp hb2) fun hb2 hb3 => ?_
    have e := soms_at (f := fun q => v = .Attribute q.1 q.2.1 q.2.2) (attrOf_all v) ha
    subst e
    exact sMethod ao hC ih G hd O hp (of_decide_eq_true hb2) hb1 hb3 hf R hk q
  | none =>
    rw [ha] at hk1
    refine e12 (optE_den hk1) fun x hx hk => ?_
    refine e11 (nameOf_inv hx) fun p e => ?_
    subst e
    exact sCall (f := .Constant .none 0 pos) ao hC ih G hd O hp R hk q
theorem aTup (ih : SE W C d m) (G : Good W c) (hd : c.d = d) (O : EnvOk W c g) (R : Rel W c ls h news s) {kd : Nat} (hk0 : den W.pr C (n + 1) (ifE (decide (es.length ≤ 1000)) (.tup (es.map (cE g m)))) ls h k) (q : PostE W c ls h news k Q) :
    wpAny (model W.prog W.w) c.A (eval (.Tuple es kd pos) c.env) Q E s := by
  refine e02 (ifE_den hk0) fun hl hk => ?_
  refine Tuple_ (sArgs ih G hd O R (show denL (atLs (den W.pr C n) ls) (es.map (cE g m)) h _ from hk) fun vs vs' h1 n1 s1 hlen hk1 hvs R1 st1 => ?_)
  refine e03 (R1.push (tupO vs' 0)) fun R2 st2 f2 => ?_
  have := sizeLine_ge
  have hl := of_decide_eq_true hl
  have := hvs.length
  exact wpAny_newTuple (q _ _ _ _ _ hk1 (.tup f2 (hvs.stab st2)) R2 (st1.trans st2)) (by lia)
theorem aLst (ih : SE W C d m) (G : Good W c) (hd : c.d = d) (O : EnvOk W c g) (R : Rel W c ls h news s) (hk0 : den W.pr C (n + 1) (ifE (decide (es.length ≤ 1000)) (.list (es.map (cE g m)))) ls h k) (q : PostE W c ls h news k Q) :
    wpAny (model W.prog W.w) c.A (eval (.List es pos) c.env) Q E s := by
  refine e02 (ifE_den hk0) fun hl hk => ?_
  refine List_ (sArgs ih G hd O R (show denL (atLs (den W.pr C n) ls) (es.map (cE g m)) h _ from hk) fun vs vs' h1 n1 s1 hlen hk1 hvs R1 st1 => ?_)
  refine e02 (R1.newList G hvs) fun R2 st2 => ?_
  have := sizeLine_ge
  have hl := of_decide_eq_true hl
  have := hvs.length
  exact wpAny_newList (q _ _ _ _ _ (hk1.out.out _ R1.top_le) (.ref _) R2 (st1.trans st2)) (by lia)
end
theorem sExpr (ao : AllOk W) (hC : HC W C d) : ∀ m, SE W C d m ∧ ST W C d m := by
  intro m
  induction m with
  | zero =>
    refine ⟨?_, ?_⟩
    · intro g c e n ls h news s k Q E G hd O R hk q
      induction n using Nat.casesOn <;> exact False.elim hk
    · intro g c e n ls h news s k Q E G hd O R hk q
      induction n using Nat.casesOn with
      | zero => exact False.elim hk
      | succ n => induction n using Nat.casesOn <;> exact False.elim hk
  | succ m ih =>
    refine e02 (ih) fun ih it => ?_
    have se : SE W C d (m + 1) := by
      intro g c e n ls h news s k Q E G hd O R hk q
      induction n using Nat.casesOn with
      | zero => exact False.elim hk
      | succ n =>
      induction e using PySem.Expr.casesOn with
      | Constant cc kd pos => exact sConst R (pl_den hk) q
      | Name x pos => exact sName G O R (pl_den hk) q
      | BoolOp op vs pos =>
        rw [arm_eval_BoolOp]
        cases op with
        | And => exact sAnd ih G hd O R (show denAnd (atLs (den W.pr C n) ls) (vs.map (cE g m)) h k from hk) q
        | Or => exact sOr ih G hd O R (show denOr (atLs (den W.pr C n) ls) (vs.map (cE g m)) h k from hk) q
      | BinOp l op r pos => exact aBin ih G hd O R (pl_den hk) q
      | UnaryOp op x pos => exact aUn ih G hd O R hk q
      | IfExp t a b pos =>
        refine wpAny_IfExp (it G hd O R (show denT W.pr C n (cE g m t) ls h (kIte (dAll W.pr C n) (cE g m a) (cE g m b) ls k) from hk) fun b h1 n1 s1 hk1 R1 st1 => ?_)
        induction b using Bool.casesOn
        · exact ih G hd O R1 (MIf.e hk1 rfl) fun v v' h' n' s' a1 a2 a3 a4 => q _ _ _ _ _ a1 a2 a3 (st1.trans a4)
        · exact ih G hd O R1 (MIf.t hk1 rfl) fun v v' h' n' s' a1 a2 a3 a4 => q _ _ _ _ _ a1 a2 a3 (st1.trans a4)
      | Compare l ops rs pos => exact aCmp ih G hd O R hk q
      | Attribute v a pos =>
        refine e02 (ifE_den (pl_den hk)) fun hb hk1 => ?_
        refine e12 (optE_den hk1) fun f hf hk2 => ?_
        refine Attribute_any_ (ih G hd O R (show den W.pr C n (cE g m v) ls h _ from hk2) fun v v' h1 n1 s1 hk1 hv R1 st1 => ?_) (by rw [arm_eval_Attribute, base_attr hb])
        rw [← O.nat _ _ hf]
        exact sAttr ao.ok R1 G hv hk1 fun u u' s2 hk2 hu R2 => q _ _ _ _ _ hk2 hu R2 st1
      | Subscript v s pos => exact aSub ih G hd O R (pl_den hk) q
      | Call f args kws pos => exact aCall ao hC ih G hd O R (pl_den hk) q
      | Tuple es kd pos => exact aTup ih G hd O R (pl_den hk) q
      | List es pos => exact aLst ih G hd O R (pl_den hk) q
      | Dict ks vs pos =>
        refine e02 (ifE_den (pl_den hk)) fun hl hk1 => ?_
        refine e12 (optE_den hk1) fun l hz hk2 => ?_
        exact sDict ih G hd O (of_decide_eq_true hl) hz R hk2 q
      | ListComp elt gens sc pos =>
        refine e12 (optE_den (pl_den hk)) fun p hg hk1 => ?_
        refine e02 (ifE_den hk1) fun hcomp hk2 => ?_
        refine e11 (oneGen_inv hg) fun px e => ?_
        subst e
        exact sListComp ih it G hd O hcomp R hk2 q.toU
      | DictComp kx vx gens sc pos =>
        refine e12 (optE_den (pl_den hk)) fun p hg hk1 => ?_
        refine e02 (ifE_den hk1) fun hcomp hk2 => ?_
        refine e11 (oneGen_inv hg) fun px e => ?_
        subst e
        exact sDictComp ih it G hd O hcomp R hk2 q.toU
      | _ => exact False.elim hk
    refine ⟨se, ?_⟩
    intro g c e n ls h news s k Q E G hd O R hk q
    induction n using Nat.casesOn with
    | zero => exact False.elim hk
    | succ n =>
    have oth : PySem.isTrue e c.env (eval e c.env) = (do let v ← eval e c.env; standAt e.pos; holding [v] (PySem.truthy v)) → den W.pr C n (cE g (m + 1) e) ls h (kTru k) → wpAny (model W.prog W.w) c.A (PySem.isTrue e c.env (eval e c.env)) Q E s := fun he hk =>
      isTrue_other he (se G hd O R hk fun v v' h1 n1 s1 hk1 hv R1 st1 => sTruthy (k := fun b => k b h1) R1 hv hk1 fun b s2 hk2 R2 => q _ _ _ _ hk2 R2 st1)
    have otp : PySem.isTrue e c.env (eval e c.env) = (do let v ← eval e c.env; standAt e.pos; holding [v] (PySem.truthy v)) → cE g (m + 1) e = pl (cX (cAll m) g e) → wpAny (model W.prog W.w) c.A (PySem.isTrue e c.env (eval e c.env)) Q E s := fun he hx =>
      oth he (hx ▸ pl_denT (hx ▸ hk))
    induction e using PySem.Expr.casesOn with
    | BoolOp op vs p =>
      rw [arm_isTrue_BoolOp]
      cases op with
      | And => exact sAllT it G hd O R (show goA W.pr C n (vs.map (cE g m)) ls h k from hk) q
      | Or => exact sAnyT it G hd O R (show goO W.pr C n (vs.map (cE g m)) ls h k from hk) q
    | UnaryOp op x p =>
      cases op with
      | Not => exact wpAny_isTrue_Not (it G hd O R (show denT W.pr C n (cE g m x) ls h (kNotT k) from hk) fun b h1 n1 s1 hk1 R1 st1 => q _ _ _ _ hk1 R1 st1)
      | _ => exact oth rfl hk
    | IfExp t a b p =>
      refine isTrue_IfExp (it G hd O R (show denT W.pr C n (cE g m t) ls h (kIteT (dAll W.pr C n) (cE g m a) (cE g m b) ls k) from hk) fun v h1 n1 s1 hk1 R1 st1 => ?_)
      induction v using Bool.casesOn
      · exact it G hd O R1 (MIf.e hk1 rfl) fun b h' n' s' a1 a3 a4 => q _ _ _ _ a1 a3 (st1.trans a4)
      · exact it G hd O R1 (MIf.t hk1 rfl) fun b h' n' s' a1 a3 a4 => q _ _ _ _ a1 a3 (st1.trans a4)
    | Compare l o r p =>
      have hk := cmp_denT hk
      induction n using Nat.casesOn with
      | zero => exact False.elim hk
      | succ n => exact tCmp ih G hd O R hk q
    | _ => exact otp rfl rfl
end
end
section
open PySem PySem.W PyProof.Rows PySem.Calls
structure FrOk (W : Wd) (c : Cx) : Prop where
  nd : (c.sl.map (·.1)).Nodup
  ns : ∀ x C, (x, Slot.ns C) ∉ c.sl
  cl : ∀ x a, (x, Slot.cell a) ∈ c.sl → c.env.kindOf x = some .cell
  inj : ∀ x y a, (x, Slot.cell a) ∈ c.sl → (y, Slot.cell a) ∈ c.sl → x = y
section
variable {W : Wd} {c : Cx} {g : Cc} {ls : Ls} {h : Hp} {news : News'} {s : Shared} {F : PF} {A : Around} {E : Value → Shared → Prop} {C : Calls} {d m n : Nat} {D : Addr} {x : Str} {sc : Scope} {k : KE} {Q : Value → Shared → Prop}
theorem nodup_get {α : Type} {l : List α} (nd : l.Nodup) {i j : Nat} {x : α} (h1 : l[i]? = some x) (h2 : l[j]? = some x) : i = j := by
  have p := List.pairwise_iff_getElem.mp nd
  obtain ⟨a, ha⟩ := List.getElem?_eq_some_iff.mp h1
  obtain ⟨b, hb⟩ := List.getElem?_eq_some_iff.mp h2
  rcases Nat.lt_trichotomy i j with q | q | q
  · exact absurd (ha.trans hb.symm) (p i j a b q)
  · exact q
  · exact absurd (hb.trans ha.symm) (p j i b a q)
theorem nodup_ix {l : List (Str × Slot)} (nd : (l.map (·.1)).Nodup) {i j : Nat} {x : Str} {a b : Slot} (h1 : l[i]? = some (x, a)) (h2 : l[j]? = some (x, b)) : i = j := by
  have e1 : (l.map (·.1))[i]? = some x := by rw [List.getElem?_map, h1]; rfl
  have e2 : (l.map (·.1))[j]? = some x := by rw [List.getElem?_map, h2]; rfl
  exact nodup_get nd e1 e2
theorem Rel.setLoc (R : Rel W c ls h news s) (FO : FrOk W c) {i : Nat} {v : V} {v' : Value} {m : Str → Option Value} {hh : Heap} (F : Fr c.h₀ c.L s.heap m) (L : LocR W c (Fx W c h news) news m ls) (hi : c.sl[i]? = some (x, .loc)) (hv : VR W (Fx W c h news) v v')
    (hN : hh.Ns c.L (fun y => if y = x then some v' else m y)) (hs : Heap.SameBut c.L s.heap hh) (tk : Nat) : Rel W c (setL ls i v) h news { s with heap := hh, toks := tk } := by
  refine ⟨(i12 (F.set hN hs) (fun j y sl u h1 h2 => ?_)), R.nw.set hs, R.hp, R.top, R.dom, R.ex, R.cl, R.nx, R.gens, R.drawn, R.os, R.hid⟩
  unfold setL at h2
  by_cases e : j = i
  · subst e
    rw [hi] at h1; cases h1
    rw [List.getElem?_set_self'] at h2
    cases hq : ls[j]? with
    | none => rw [hq] at h2; cases h2
    | some _ => rw [hq] at h2; cases h2; exact ⟨v', hv, if_pos rfl⟩
  · rw [List.getElem?_set_ne (Ne.symm e)] at h2
    refine e12 (L j y sl u h1 h2) fun u' q r => ?_
    refine ⟨u', q, ?_⟩
    induction sl using Slot.casesOn with
    | loc =>
      have : y ≠ x := by rintro rfl; exact e (nodup_ix FO.nd h1 hi)
      show (if y = x then some v' else m y) = some u'
      rw [if_neg this]; exact r
    | cell a => exact r
    | ns C => exact absurd (List.mem_of_getElem? h1) (FO.ns _ _)
theorem Rel.setCell (R : Rel W c ls h news s) (FO : FrOk W c) {i : Nat} {v : V} {v' : Value} {a : Addr} {hh : Heap} {o' : Obj} (hi : c.sl[i]? = some (x, .cell a)) (hv : VR W (Fx W c h news) v v') (hg : hh.get? a = some o') (ho : o'.data = .cell (some v'))
    (hs : Heap.SameBut a s.heap hh) (tk : Nat) : Rel W c (setL ls i v) h (updN news a o') { s with heap := hh, toks := tk } ∧ Stab (Fx W c h news) (Fx W c h (updN news a o')) := by
  refine e12 (R.fr) fun m F L => ?_
  obtain ⟨hex, o, v₀, hm, hd⟩ := R.cl x a (List.mem_of_getElem? hi)
  have hna := (R.ex a hex).1
  have hio : iterO o' = false := by unfold iterO; rw [ho]
  have hst : Stab (Fx W c h news) (Fx W c h (updN news a o')) := fun b y hy => hy.imp (fun z => e03 z fun p q r => ⟨updN_ne p (fun e => r (by rw [e]; exact hex)), q, r⟩) id
  refine ⟨⟨⟨m, F.change hs (R.nw _ hm).2.1 (R.nw _ hm).2.2, fun j y sl u h1 h2 => ?_⟩, News.update R.nw hm hs hg, fun b y e => ?_, ?_, R.dom, fun b hb => ?_, fun y b hb => ?_, R.nx, R.gens, R.drawn, R.os, R.hid⟩, hst⟩
  · unfold setL at h2
    by_cases e : j = i
    · subst e
      rw [hi] at h1; cases h1
      rw [List.getElem?_set_self'] at h2
      cases hq : ls[j]? with
      | none => rw [hq] at h2; cases h2
      | some _ => rw [hq] at h2; cases h2; exact ⟨v', hv.stab hst, o', updN_self hm, ho⟩
    · rw [List.getElem?_set_ne (Ne.symm e)] at h2
      refine e12 (L j y sl u h1 h2) fun u' q r => ?_
      refine ⟨u', q.stab hst, ?_⟩
      induction sl using Slot.casesOn with
      | loc => exact r
      | cell b =>
        refine e12 (r) fun ob r1 r2 => ?_
        refine ⟨ob, updN_ne r1 ?_, r2⟩
        rintro rfl
        have := FO.inj y x b (List.mem_of_getElem? h1) (List.mem_of_getElem? hi)
        subst this
        exact e (nodup_ix FO.nd h1 hi)
      | ns C => exact absurd (List.mem_of_getElem? h1) (FO.ns _ _)
  · have hbd : b ≠ a := fun q => by rw [q, hna] at e; cases e
    exact (R.hp b y e).grow (fun Z Z Z => hst _ _) (fun Z hp => updN_ne hp hbd) (fun z oz hz hp => updN_ne hp fun q => by rw [q, hna] at hz; cases hz) (fun Z hz => hz)
  · rcases R.top with e | ⟨t, ot, e, l, i, q⟩
    · exact .inl e
    · by_cases ht : t = a
      · subst ht
        exact .inr ⟨t, o', updN_self hm, l, hio, q⟩
      · exact .inr ⟨t, ot, updN_ne e ht, l, i, q⟩
  · obtain ⟨e, ob, hm'⟩ := R.ex b hb
    refine e11 (updN_any (d := a) (o' := o') hm') fun z hz => ?_
    exact ⟨e, z, hz⟩
  · obtain ⟨e, ob, u, hm', hu⟩ := R.cl y b hb
    by_cases q : b = a
    · subst q
      exact ⟨e, o', _, updN_self hm, ho⟩
    · exact ⟨e, ob, u, updN_ne hm' q, hu⟩
theorem sStore {i : Nat} {v : V} {v' : Value} {Q : Unit → Shared → Prop} (G : Good W c) (O : EnvOk W c g) (FO : FrOk W c) (hi : place x g.sl = some i) (R : Rel W c ls h news s) (hv : VR W (Fx W c h news) v v')
    (q : ∀ news' s', Rel W c (setL ls i v) h news' s' → Stab (Fx W c h news) (Fx W c h news') → (∀ C, (∀ o, (C, o) ∉ news) → (∀ o, (C, o) ∉ news')) → (∀ C o, s.heap.get? C = some o → C ≠ c.L → (∀ o, (C, o) ∉ news) → s'.heap.get? C = some o) → Q () s') : wpAny (model W.prog W.w) A (storeName c.env x v') Q E s := by
  refine e12 (R.fr) fun m F L => ?_
  have hx := place_get hi
  refine e11 (O.pre) fun t ht => ?_
  have hlt : i < g.sl.length := (List.getElem?_eq_some_iff.mp hx).1
  have : (c.sl.map (·.1))[i]? = some x := by rw [ht, List.getElem?_append_left hlt]; exact hx
  rw [List.getElem?_map] at this
  cases hsl : c.sl[i]? with
  | none => rw [hsl] at this; cases this
  | some p =>
    obtain ⟨y, sl⟩ := p
    rw [hsl] at this; cases this
    have hl := O.ld i _ _ hlt hsl
    induction sl using Slot.casesOn with
    | loc =>
      refine wpAny_storeName_local hl.1 (hl.2 ▸ F.ns) (fun hh hN hs => ?_) ?_
      · rw [hl.2] at hN hs
        exact q _ _ (R.setLoc FO F L hsl hv hN hs (s.toks + 1)) .refl (fun Z h => h) fun C o e hC Z => (hs.2 C hC).trans e
      · rw [G.kind]; rfl
    | cell a =>
      obtain ⟨hex, o, v₀, hm, hd⟩ := R.cl _ a (List.mem_of_getElem? hsl)
      refine wpAny_storeName_cell G.kind (FO.cl _ a (List.mem_of_getElem? hsl)) hl.2 ⟨o, R.at hm, hd⟩ fun hh hc hs => ?_
      refine e12 (hc) fun o' g1 g2 => ?_
      clear hc
      refine e02 (R.setCell FO hsl hv g1 g2 hs s.toks) fun R' st => ?_
      refine q _ _ R' st (fun C hC o hp => ?_) fun C o e Z hC => (hs.2 C (by rintro rfl; exact hC _ hm)).trans e
      refine e12 (List.mem_map.mp hp) fun p hp1 hp2 => ?_
      split at hp2
      · rename_i e
        cases hp2
        exact hC _ hm
      · cases hp2
        exact hC _ hp1
    | ns C => exact absurd (List.mem_of_getElem? hsl) (FO.ns _ _)
theorem EntR.put {P : Params} {ns : List Str} {es : List DictEntry} {vs : List Value} {nm : Str} {v : Value} {t : Tok} (hE : EntR P ns es vs) : ∀ {i : Nat}, i ≤ ns.length → (∀ y, ns[i]? = some y → y = nm) → nm ∉ ns.take i →
    EntR P (ns.take i ++ nm :: ns.drop (i + 1)) (putL nm (PyData.keyHash P nm) (.str nm t) v es) (vs.take i ++ v :: vs.drop (i + 1)) := by
  induction hE with
  | nil =>
    intro i hi _ _
    have : i = 0 := by simpa using hi
    subst this
    exact .cons t .nil
  | @cons y ns es u vs t' hr ih =>
    intro i hi h1 h2
    induction i using Nat.casesOn with
    | zero =>
      have := h1 y rfl
      subst this
      have e : (Value.str y t').isStr y = true := beq_self_eq_true y
      simp only [List.take_zero, List.nil_append, putL, e, if_true]
      exact .cons t' hr
    | succ i =>
      simp only [List.take_succ_cons, List.mem_cons, not_or] at h2
      have e : (Value.str y t').isStr nm = false := (str_beq ..).trans (decide_eq_false (Ne.symm h2.1))
      simp only [List.take_succ_cons, List.drop_succ_cons, List.cons_append, putL, e]
      exact .cons t' (ih (by simpa using hi) (fun z hz => h1 z (by simpa using hz)) h2.2)
theorem putAt_length (fs : List V) (i : Nat) (v : V) (h : i ≤ fs.length) : (putAt fs i v).length = if i < fs.length then fs.length else fs.length + 1 := by
  unfold putAt
  simp only [List.length_append, List.length_take, List.length_cons, List.length_drop]
  split <;> lia
theorem take_put {α : Type} {ns : List α} {k i : Nat} {nm : α} (hk : k ≤ ns.length) (hi : i ≤ k) (h : ns[i]? = some nm) : (ns.take k).take i ++ nm :: (ns.take k).drop (i + 1) = ns.take (if i < k then k else k + 1) := by
  have hlt := (List.getElem?_eq_some_iff.mp h).1
  apply List.ext_getElem?
  intro j
  rw [List.getElem?_append, List.getElem?_take, List.getElem?_take]
  have e1 : ((ns.take k).take i).length = i := by simp; lia
  rw [e1]
  by_cases h1 : j < i
  · rw [if_pos h1, if_pos h1, if_pos (by lia), List.getElem?_take, if_pos (by split <;> lia)]
  · rw [if_neg h1]
    by_cases h2 : j = i
    · subst h2
      simp only [Nat.sub_self, List.getElem?_cons_zero]
      rw [List.getElem?_take, if_pos (by split <;> lia), h]
    · obtain ⟨r, hr⟩ : ∃ r, j - i = r + 1 := ⟨j - i - 1, by lia⟩
      rw [hr, List.getElem?_cons_succ, List.getElem?_drop, List.getElem?_take, List.getElem?_take]
      have : i + 1 + r = j := by lia
      rw [this]
      by_cases h3 : j < k
      · rw [if_pos h3, if_pos (by split <;> lia)]
      · rw [if_neg h3, if_neg (by split <;> lia)]
theorem sSetAttr {i cc f : Nat} {ci : Ci} {v : V} {v' : Value} {a : Addr} {fs : List V} {Q : Unit → Shared → Prop} (ok : WdOk W) (G : Good W c) (R : Rel W c ls h news s) (hv : VR W (Fx W c h news) v v') (e : h.get a = some (.inst cc fs)) (hci : W.pr.ci cc = some ci) (hi : ixOf f ci.flds = some i) (hil : i ≤ fs.length)
    (q : ∀ news' s', Rel W c ls (h.set a (.inst cc (putAt fs i v))) news' s' → Stab (Fx W c h news) (Fx W c (h.set a (.inst cc (putAt fs i v))) news') → Q () s') : wpAny (model W.prog W.w) A (setAttr (.ref a) (W.tb.nm f) v') Q E s := by
  refine e12 (R.fr) fun m F L => ?_
  have ck := ok.cls _ _ hci
  cases R.hp _ _ e with
  | @inst _ _ dx es n ns vs hns h1 h2 h3 h4 h5 h6 =>
    have hns' := flds_eq hci hns
    have hlen := h5.length
    have hfl := h6.length
    have hnm : ns[i]? = some (W.tb.nm f) := by rw [hns', List.getElem?_map, ixOf_some hi]; rfl
    have hlt := (List.getElem?_eq_some_iff.mp hnm).1
    have nd : ns.Nodup := hns' ▸ ck.nodup
    have hnot : W.tb.nm f ∉ (ns.take fs.length).take i := by
      intro hm
      rw [List.take_take] at hm
      refine e11 (List.mem_iff_getElem?.mp hm) fun j hj => ?_
      rw [List.getElem?_take] at hj
      split at hj
      · rename_i hji
        have l1 := (List.getElem?_eq_some_iff.mp hj).1
        have : j = i := nodup_get nd hj hnm
        lia
      · cases hj
    have hput := h5.put (nm := W.tb.nm f) (v := v') (t := s.toks + 1) (i := i) (by rw [List.length_take]; lia) (fun y hy => by
      rw [List.getElem?_take] at hy
      split at hy
      · rw [hnm] at hy; cases hy; rfl
      · cases hy) hnot
    have htl : (ns.take fs.length).length = fs.length := by rw [List.length_take]; lia
    have hw := hput
    rw [take_put h4 hil hnm, ← putAt_length fs i v hil] at hput
    have hel := hw.length
    have hl : (getL (W.tb.nm f) es).isSome = true := by
      by_cases hin : W.tb.nm f ∈ ns.take fs.length
      · refine e11 (List.mem_iff_getElem?.mp hin) fun j hj => ?_
        have hjl := (List.getElem?_eq_some_iff.mp hj).1
        obtain ⟨w, hw⟩ : ∃ w, vs[j]? = some w := ⟨vs[j]'(by lia), by rw [List.getElem?_eq_getElem (by lia)]⟩
        rw [h5.get (nd.sublist (List.take_sublist _ _)) hj hw]; rfl
      · rw [h5.getNone hin]; rfl
    let news1 : News' := news.filter (fun p => p.1 != dx)
    have N1 : News c.h₀ c.L s.heap ((dx, dictOf es n) :: news1) := fun p hp => by
      rcases List.mem_cons.mp hp with rfl | hp
      · exact R.nw _ h2
      · exact R.nw _ (List.mem_filter.mp hp).1
    have hz : (putL (W.tb.nm f) (PyData.keyHash W.w.params (W.tb.nm f)) (.str (W.tb.nm f) (s.toks + 1)) v' es).length ≤ 1000 := by
      have hf := ck.few
      have : ns.length = ci.flds.length := by rw [hns', List.length_map]
      rw [← hel.1]
      simp only [List.length_append, List.length_take, List.length_cons, List.length_drop]
      lia
    refine set_dict F G.X N1 (I := ⟨R.at h1, rfl, rfl, R.at h2⟩) rfl ck.setA ck.over (ck.fld f (List.mem_of_getElem? (ixOf_some hi))).2 ck.dict hl rfl (Upd.head fun p hp => by simpa using (List.mem_filter.mp hp).2) hz fun hh F' N' => ?_
    have N2 : News c.h₀ c.L hh (updN news dx (dictOf (putL (W.tb.nm f) (PyData.keyHash W.w.params (W.tb.nm f)) (.str (W.tb.nm f) (s.toks + 1)) v' es) (putN (W.tb.nm f) es n))) := fun p hp => by
      refine e12 (List.mem_map.mp hp) fun p0 hp0 eq1 => ?_
      subst eq1
      by_cases hpd : p0.1 = dx
      · rw [if_pos hpd]; exact N' _ (.head _)
      · rw [if_neg hpd]; exact N' _ (.tail _ (List.mem_filter.mpr ⟨hp0, by simpa using hpd⟩))
    have had : a ≠ dx := by rintro rfl; rw [h3] at e; cases e
    obtain ⟨R', st⟩ := R.change' (a := a) (o' := .inst cc (putAt fs i v)) h2 h3 e L F' N2 rfl (.inr rfl) (fun Z q => by cases q) (fun Z q => by cases q) (fun F'' st => .inst hns (updN_ne h1 had) (updN_self h2) (by rw [Hp.set_get, if_neg (Ne.symm had)]; exact h3) (by
        rw [putAt_length fs i v hil]; split <;> lia) hput (by
        unfold putAt
        exact ((h6.stab st).take i).append (.cons (hv.stab st) ((h6.stab st).drop (i + 1))))) (s.toks + 2)
    exact q _ _ R' st
end
end
section
open PySem PySem.W PyProof.Rows PySem.Calls
section
variable {W : Wd} {c : Cx} {g : Cc} {ls : Ls} {h : Hp} {news : News'} {s : Shared} {F : PF} {A : Around} {E : Value → Shared → Prop} {C : Calls} {d m n : Nat} {D : Addr} {x : Str} {sc : Scope} {k : Ls → Hp → Prop} {Q : Unit → Shared → Prop}
noncomputable def PostT (W : Wd) (c : Cx) (h : Hp) (news : News') (k : Ls → Hp → Prop) (Q : Unit → Shared → Prop) : Prop :=
  ∀ ls' h' news' s', k ls' h' → Rel W c ls' h' news' s' → Stab (Fx W c h news) (Fx W c h' news') → Q () s'
theorem sNameT {v : V} {v' : Value} {i : Nat} {p : Pos} (G : Good W c) (O : EnvOk W c g) (FO : FrOk W c) (hi : place x g.sl = some i) (R : Rel W c ls h news s) (hv : VR W (Fx W c h news) v v') (hk : k (setL ls i v) h) (q : PostT W c h news k Q) :
    wpAny (model W.prog W.w) A (assign (.Name x p) c.env v') Q E s := by
  rw [arm_assign_Name]
  exact wpAny_bind (wpAny_standAt (wpAny_bindName (sStore G O FO hi R hv fun n1 s1 R1 st1 Z Z => q _ _ _ _ hk R1 st1)))
theorem place1_inv {e : Expr} {i : Nat} (h : place1 g e = some i) : ∃ x p, e = .Name x p ∧ place x g.sl = some i := by
  refine e12 (Option.bind_eq_some_iff.mp h) fun x h1 h2 => ?_
  refine e11 (nameOf_inv h1) fun p h3 => ?_
  exact ⟨x, p, h3, h2⟩
theorem places_inv {t : Expr} {r : List Expr} {l : List Nat} (h : places g (t :: r) = some l) : ∃ x p i l', t = .Name x p ∧ place x g.sl = some i ∧ places g r = some l' ∧ l = i :: l' := by
  refine e12 (Option.bind_eq_some_iff.mp h) fun i h1 h2 => ?_
  refine e12 (Option.map_eq_some_iff.mp h2) fun l' h3 h4 => ?_
  refine e22 (place1_inv h1) fun x p h5 h6 => ?_
  exact ⟨x, p, i, l', h5, h6, h3, h4.symm⟩
theorem places_each {env : Env} {es : List Expr} : ∀ {l : List Nat}, places g es = some l → (assignEach es env).length = es.length ∧ (assignEach es env).findIdx? (·.1) = none ∧ l.length = es.length := by
  induction es with
  | nil => intro l e; cases e; exact ⟨rfl, rfl, rfl⟩
  | cons t r ih =>
    intro l e
    refine e44 (places_inv e) fun x p i l' e1 Z hl e2 => ?_
    subst e1 e2
    refine e03 (ih hl) fun h1 h2 h3 => ?_
    have e2 : assignEach (.Name x p :: r) env = (false, assign (.Name x p) env) :: assignEach r env := rfl
    rw [e2]
    exact ⟨by simp [h1], by simp [List.findIdx?_cons, h2], by simp [h3]⟩
theorem storeTup_len {l : List Nat} : ∀ {vs : List V} {ls ls' : Ls}, storeTup l vs ls = some ls' → vs.length = l.length := by
  induction l with
  | nil => intro vs ls ls' h; induction vs using List.casesOn with
    | nil => rfl
    | cons _ _ => exact none_ne h
  | cons i r ih => intro vs ls ls' h; induction vs using List.casesOn with
    | nil => exact none_ne h
    | cons v vs => exact congrArg (· + 1) (ih h)
theorem sTupT (G : Good W c) (O : EnvOk W c g) (FO : FrOk W c) {es : List Expr} : ∀ {l : List Nat} {vs : List V} {vs' : List Value} {ls ls' : Ls} {news : News'} {s : Shared} {Q : Unit → Shared → Prop}, places g es = some l → storeTup l vs ls = some ls' → Rel W c ls h news s → VRs W (Fx W c h news) vs vs' →
    (∀ news' s', Rel W c ls' h news' s' → Stab (Fx W c h news) (Fx W c h news') → Q () s') → wpAny (model W.prog W.w) A (assignInOrder ((assignEach es c.env).map (·.2)) vs') Q E s := by
  induction es with
  | nil =>
    intro l vs vs' ls ls' news s Q e hs R hv q
    cases e
    induction hv using VRs.casesOn with
    | nil => cases hs; exact wpAny_pure (q _ _ R .refl)
    | cons _ _ => exact none_ne hs
  | cons t r ih =>
    intro l vs vs' ls ls' news s Q e hs R hv q
    refine e44 (places_inv e) fun x p i l' e1 hi hl e2 => ?_
    subst e1 e2
    induction hv using VRs.casesOn with
    | nil => exact none_ne hs
    | cons h1 h2 =>
      show wpAny _ _ (do holding _ (assign (.Name x p) c.env _); assignInOrder ((assignEach r c.env).map (·.2)) _) Q E s
      refine wpAny_bind (wpAny_holding ?_)
      rw [arm_assign_Name]
      refine wpAny_bind (wpAny_standAt (wpAny_bindName (sStore G O FO hi R h1 fun n1 s1 R1 st1 Z Z => ?_)))
      exact ih hl hs R1 (h2.stab st1) fun n2 s2 R2 st2 => q _ _ R2 (st1.trans st2)
theorem sTupA {es : List Expr} {kd : Nat} {p : Pos} {l : List Nat} {v : V} {v' : Value} {ls ls' : Ls} {vs : List V} (G : Good W c) (O : EnvOk W c g) (FO : FrOk W c) (hl : places g es = some l) (he : v = .tup vs) (hs : storeTup l vs ls = some ls') (R : Rel W c ls h news s) (hv : VR W (Fx W c h news) v v')
    (hA : A.handled = none) (q : ∀ news' s', Rel W c ls' h news' s' → Stab (Fx W c h news) (Fx W c h news') → Q () s') : wpAny (model W.prog W.w) A (assign (.Tuple es kd p) c.env v') Q E s := by
  subst he
  refine tupE hv fun a ws n ha hr => ?_
  refine e03 (places_each (env := c.env) hl) fun h1 h2 h3 => ?_
  have hlen : vs.length = l.length := storeTup_len hs
  have hw := hr.length
  rw [arm_assign_Tuple]
  refine wpAny_bind (wpAny_standAt ?_)
  unfold unpack
  rw [h2, h1]
  have hT : IsTup s.heap a ws.toArray := ⟨_, R.fact G ha, rfl, _, rfl⟩
  have e : es.length = ws.toArray.size := by rw [List.size_toArray]; lia
  rw [e]
  refine wpAny_bind (wpAny_holding (unpackItems_tuple hA hT fun hh he => ?_))
  have R1 := R.kept (hh := hh) (fun b o ho => he b o (Nat.ne_of_lt (Heap.lt_size ho)) ho) s.toks
  exact sTupT G O FO hl hs R1 hr q
theorem sSetItem {a : Nat} {w v : V} {ob : O} {w' v' : Value} {kk : Hp → Prop} (G : Good W c) (R : Rel W c ls h news s) (e1 : h.get a = some ob) (hk : tgS a v w h kk ob) (hw : VR W (Fx W c h news) w w') (hv : VR W (Fx W c h news) v v')
    (q : ∀ h' news' s', kk h' → Rel W c ls h' news' s' → Stab (Fx W c h news) (Fx W c h' news') → Q () s') : wpAny (model W.prog W.w) A (setItem (.ref a) w' v') Q E s := by
  have := sizeLine_ge
  induction ob using O.casesOn with
  | list l =>
    refine e12 (onInt_inv (show onInt (fun j => Need (0 ≤ j ∧ j < l.length ∧ small l.length) (kk (h.set a (.list (l.set j.toNat v))))) w from hk)) fun j ej hk1 => ?_
    subst ej
    refine intE hw fun t => ?_
    obtain ⟨⟨h0, h1, hz⟩, hk2⟩ := hk1
    refine e23 (R.listAt e1) fun vs n m1 r1 i1 => ?_
    have hlen := r1.length
    unfold small at hz
    refine ki_setAt (R.at m1) h0 (by lia) (by rw [List.size_toArray]; lia) ?_
    have hob : Obj.mapSeq (·.setIfInBounds j.toNat v') (lstO vs n) = lstO (vs.set j.toNat v') n := by
      simp only [Obj.mapSeq]
      simp
    have hg : (s.heap.update a (Obj.mapSeq (·.setIfInBounds j.toNat v'))).get? a = some (lstO (vs.set j.toNat v') n) := by
      exact hob ▸ Heap.get?_update_self _ (R.at m1) (by rw [hob]; rfl)
    refine e02 (R.setList e1 m1 (Heap.SameBut.update ..) hg (r1.set hv) s.toks) fun R' st => ?_
    exact q _ _ _ hk2 R' st
  | dict ep es =>
    induction w using V.casesOn with
    | int j =>
      refine intE hw fun t => ?_
      obtain ⟨⟨hn, hz⟩, hk2⟩ := (show Need (intKeys es ≠ none ∧ small es.length) (∀ ep, kk (h.set a (.dict ep (putI j v es)))) from hk)
      refine e24 (R.dictI e1 hn) fun ob kvs hm hdd hrr hD => ?_
      have hlen := hrr.length
      unfold small at hz
      refine wpAny_setItem_pairs (intKind_is _ _ _ _) hD (fun hh hg hs => ?_) (by lia)
      refine e22 (R.setDictI e1 hm hs hg (kvi_put hrr hv (DictOf.nodup hD)) (s.toks + 1)) fun o' ep' R' st => ?_
      exact q _ _ _ (hk2 _) R' st
    | str y =>
      refine strE hw fun z t hz' => ?_
      subst hz'
      obtain ⟨⟨hn, hz⟩, hk2⟩ := (show Need ((∀ i v r, es ≠ (.int i, v) :: r) ∧ small es.length) (∀ ep, kk (h.set a (.dict ep (putS _ v es)))) from hk)
      refine e24 (R.dictS e1 hn) fun ob kvs hm hdd hrr hD => ?_
      have hlen := hrr.length
      unfold small at hz
      refine wpAny_setItem_pairs (strKind_is _ _ _ _) hD (fun hh hg hs => ?_) (by lia)
      refine e22 (R.setDictS e1 hm hs hg (kvs_put hrr hv (DictOf.nodup hD)) (s.toks + 1)) fun o' ep' R' st => ?_
      exact q _ _ _ (hk2 _) R' st
    | _ => exact False.elim hk
  | _ => exact False.elim hk
theorem optT_inv {P : Pr} {DD : D4} {α : Type} {o : Option α} {f : α → Tg} {v : V} {k : Ls → Hp → Prop} (hk : denTg P DD (optT o f) v ls h k) : ∃ a, o = some a ∧ denTg P DD (f a) v ls h k := by
  induction o using Option.casesOn with
  | none => exact False.elim hk
  | some a => exact ⟨a, rfl, hk⟩
theorem ifT_inv {P : Pr} {DD : D4} {b : Bool} {x : Tg} {v : V} {k : Ls → Hp → Prop} (hk : denTg P DD (ifT b x) v ls h k) : denTg P DD x v ls h k := by
  induction b using Bool.casesOn with
  | true => exact False.elim hk
  | false => exact hk
theorem sTarget (ao : AllOk W) (ih : SE W C d m) (G : Good W c) (hd : c.d = d) (O : EnvOk W c g) (FO : FrOk W c) {t : Expr} {v : V} {v' : Value} (R : Rel W c ls h news s) (hv : VR W (Fx W c h news) v v') (hk : denTg W.pr (dAll W.pr C n) (cT g m t) v ls h k) (q : PostT W c h news k Q) :
    wpAny (model W.prog W.w) c.A (assign t c.env v') Q E s := by
  induction t using PySem.Expr.casesOn with
  | Name x p =>
    refine e12 (optT_inv hk) fun i hi hk1 => ?_
    exact sNameT G O FO hi R hv hk1 q
  | Attribute o a p =>
    refine e12 (optT_inv hk) fun f hf hk1 => ?_
    rw [arm_assign_Attribute]
    refine wpAny_bind (wpAny_holding (ih G hd O R (show den W.pr C n (cE g m o) ls h (kTgA W.pr f v (k ls)) from hk1) fun u u' h1 n1 s1 hk2 hu R1 st1 => ?_))
    refine wpAny_bind (wpAny_standAt (wpAny_bind (wpAny_holding ?_)))
    refine e12 (onRef_inv hk2) fun b eb hk3 => ?_
    subst eb
    refine refE hu ?_
    refine e22 (rdInst hk3) fun cc fs e1 hk4 => ?_
    obtain ⟨i, hi, hil, hk5⟩ := onSome_inv hk4
    refine e12 (fldIx_inv hi) fun ci hci hi => ?_
    rw [← O.nat _ _ hf]
    exact sSetAttr ao.ok G R1 (hv.stab st1) e1 hci hi hil fun n2 s2 R2 st2 => wpAny_release' (q _ _ _ _ hk5 R2 (st1.trans st2))
  | Subscript o i p =>
    have hk1 := ifT_inv hk
    rw [arm_assign_Subscript]
    refine wpAny_bind (wpAny_holding (ih G hd O R (show den W.pr C n (cE g m o) ls h (kTgS1 (dAll W.pr C n) (cE g m i) ls v (k ls)) from hk1) fun u u' h1 n1 s1 hk1 hu R1 st1 => ?_))
    refine wpAny_bind (wpAny_holding (ih G hd O R1 (show den W.pr C n (cE g m i) ls h1 (kTgS2 u v (k ls)) from hk1) fun w w' h2 n2 s2 hk2 hw R2 st2 => ?_))
    refine wpAny_bind (wpAny_standAt (wpAny_bind (wpAny_holding ?_)))
    obtain ⟨a, ea, ob, e1, hk3⟩ := onRef_inv hk2
    subst ea
    refine refE hu ?_
    exact sSetItem G R2 e1 hk3 hw ((hv.stab st1).stab st2) fun h' n' s' a1 a2 a3 => wpAny_release' (q _ _ _ _ a1 a2 ((st1.trans st2).trans a3))
  | Tuple es kd p =>
    refine e12 (optT_inv hk) fun l hl hk1 => ?_
    refine e12 (onTup_inv hk1) fun vs ev hk2 => ?_
    refine e12 (onSome_inv hk2) fun ls' hs hk3 => ?_
    exact sTupA G O FO hl ev hs R hv G.handled fun n1 s1 R1 st1 => q _ _ _ _ hk3 R1 st1
  | _ => exact False.elim hk
end
end
section
open PySem PySem.W PyProof.Rows PySem.Calls
inductive FlR (W : Wd) (F : PF) : Fl → Flow → Prop
  | next : FlR W F .next .next
  | cont : FlR W F .cont .cont
  | brk : FlR W F .brk .brk
  | ret {v : V} {v' : Value} : VR W F v v' → FlR W F (.ret v) (.ret v')
theorem FlR.stab {W : Wd} {F F' : PF} {f : Fl} {f' : Flow} (h : FlR W F f f') (st : Stab F F') : FlR W F' f f' := by
  induction h using FlR.casesOn with
  | ret h => exact .ret (h.stab st)
  | _ => constructor
section
variable {W : Wd} {c : Cx} {g : Cc} {ls : Ls} {h : Hp} {news : News'} {s : Shared} {F : PF} {A : Around} {E : Value → Shared → Prop} {C : Calls} {d m n : Nat} {D : Addr} {x : Str} {sc : Scope} {k : KS} {Q : Flow → Shared → Prop}
noncomputable def PostS (W : Wd) (c : Cx) (h : Hp) (news : News') (k : KS) (Q : Flow → Shared → Prop) : Prop :=
  ∀ f f' ls' h' news' s', k f ls' h' → FlR W (Fx W c h' news') f f' → Rel W c ls' h' news' s' → Stab (Fx W c h news) (Fx W c h' news') → Q f' s'
theorem PostS.trans {h' : Hp} {news' : News'} (q : PostS W c h news k Q) (st : Stab (Fx W c h news) (Fx W c h' news')) : PostS W c h' news' k Q :=
  fun f f' ls' h'' n'' s'' a1 a2 a3 a4 => q _ _ _ _ _ _ a1 a2 a3 (st.trans a4)
noncomputable def SS (W : Wd) (C : Calls) (d m : Nat) : Prop :=
  ∀ {g c st n ls h news s k Q E}, Good W c → c.d = d → EnvOk W c g → FrOk W c → Rel W c ls h news s → denS W.pr C n (cS g m st) ls h k → PostS W c h news k Q → wpAny (model W.prog W.w) c.A (exec st c.env) Q E s
theorem sStmts (is : SS W C d m) (G : Good W c) (hd : c.d = d) (O : EnvOk W c g) (FO : FrOk W c) {sts : List Stmt} : ∀ {ls : Ls} {h : Hp} {news : News'} {s : Shared} {k : KS} {Q : Flow → Shared → Prop} {E : Value → Shared → Prop}, Rel W c ls h news s →
    denSs (denS W.pr C n) (sts.map (cS g m)) ls h k → PostS W c h news k Q → wpAny (model W.prog W.w) c.A (execs sts c.env) Q E s := by
  induction sts with
  | nil => intro ls h news s k Q E R hk q; exact wpAny_execs_nil (q _ _ _ _ _ _ hk .next R .refl)
  | cons st r ih =>
    intro ls h news s k Q E R hk q
    have hk1 : denS W.pr C n (cS g m st) ls h (nxt (denSs (denS W.pr C n) (r.map (cS g m))) k) ∨ (r = [] ∧ denS W.pr C n (cS g m st) ls h k) := by
      induction r using List.casesOn with
      | nil => exact .inr ⟨rfl, hk⟩
      | cons _ _ => exact .inl hk
    rcases hk1 with hk1 | ⟨e, hk1⟩
    · refine wpAny_execs_cons (is G hd O FO R hk1 fun f f' ls1 h1 n1 s1 hk2 hf R1 st1 => ?_)
      induction hf using FlR.casesOn with
      | next => exact ih R1 hk2 (q.trans st1)
      | cont => exact q _ _ _ _ _ _ hk2 .cont R1 st1
      | brk => exact q _ _ _ _ _ _ hk2 .brk R1 st1
      | ret hv => exact q _ _ _ _ _ _ hk2 (.ret hv) R1 st1
    · subst e
      refine wpAny_execs_cons (is G hd O FO R hk1 fun f f' ls1 h1 n1 s1 hk2 hf R1 st1 => ?_)
      induction hf using FlR.casesOn with
      | next => exact wpAny_execs_nil (q _ _ _ _ _ _ hk2 .next R1 st1)
      | cont => exact q _ _ _ _ _ _ hk2 .cont R1 st1
      | brk => exact q _ _ _ _ _ _ hk2 .brk R1 st1
      | ret hv => exact q _ _ _ _ _ _ hk2 (.ret hv) R1 st1
theorem assign_one {t : Expr} {env : Env} (h : ∀ x p, t ≠ .Starred x p) (v : Value) : assignAll v ((assignEach [t] env).map (·.2)) = assign t env v := by
  have : assignEach [t] env = [(false, assign t env)] := by induction t using PySem.Expr.casesOn <;> first | rfl | exact absurd rfl (h _ _)
  rw [this]; rfl
theorem stored_none {t v : Expr} {env : Env} (h : tupOk t v = true) : swappedStores [t] v env = pure none := by
  unfold swappedStores
  induction t using PySem.Expr.casesOn <;> first | rfl | (induction v using PySem.Expr.casesOn <;> first | rfl | exact Bool.noConfusion h)
theorem sAssignPlain (ao : AllOk W) (hC : HC W C d) (G : Good W c) (hd : c.d = d) (O : EnvOk W c g) (FO : FrOk W c) {t v : Expr} {pos : Pos} (ht : tupOk t v = true) (hs : swapsWithSole [t] v pos.line c.env = pure false) (R : Rel W c ls h news s)
    (hk : den W.pr C n (cE g m v) ls h (kAsg W.pr (dAll W.pr C n) (cT g m t) ls k)) (q : PostS W c h news k Q) : wpAny (model W.prog W.w) c.A (exec (.Assign [t] v pos) c.env) Q E s := by
  rw [arm_exec_Assign]
  refine wpAny_bind (wpAny_standAt ?_)
  rw [hs]
  refine wpAny_bind (wpAny_pure ?_)
  simp only [Bool.false_eq_true, if_false]
  refine wpAny_bind ((sExpr ao hC m).1 G hd O R hk fun u u' h1 n1 s1 hk1 hu R1 st1 => ?_)
  rw [stored_none ht]
  refine wpAny_bind (wpAny_pure ?_)
  have hst : ∀ x p, t ≠ .Starred x p := by rintro x p rfl; exact hk1.elim
  unfold assignStores
  rw [assign_one hst]
  exact wpAny_bind (sTarget ao (sExpr ao hC m).1 G hd O FO R1 hu hk1 fun ls' h' n' s' a1 a2 a3 => wpAny_pure (q _ _ _ _ _ _ a1 .next a2 (st1.trans a3)))
theorem useU {P : Shared → Prop} {nn mm : Nat} (G : Good W c) (O : EnvOk W c g) (FO : FrOk W c) {p : Pos} (q : ∀ ls' h' news' s', k .next ls' h' → Rel W c ls' h' news' s' → Stab (Fx W c h news) (Fx W c h' news') → P s') :
    PostU W c ls h news (kAsg W.pr (dAll W.pr C nn) (cT g mm (.Name x p)) ls k) (some fun v => assignAll v ((assignEach [.Name x p] c.env).map (·.2))) (fun Z s => P s) E := by
  intro C0 v v' h' n' t' hk hv R st h1 h2 h3 ⟨mC, hN⟩
  refine e12 (optT_inv hk) fun i hi hk1 => ?_
  show wpAny _ _ (assignAll v' ((assignEach [.Name x p] c.env).map (·.2))) _ _ _
  rw [assign_one (by intro _ _ e; cases e), arm_assign_Name]
  refine wpAny_bind (wpAny_standAt (wpAny_bindName (sStore G O FO hi R hv fun n1 s1 R1 st1 hno hkeep => ?_)))
  have hN' : s1.heap.Ns C0 mC := by
    refine e13 (ns_only hN) fun o ho1 ho2 ho3 => ?_
    exact ho3 _ (hkeep C0 o ho1 h2 h1)
  exact ⟨mC, hN', fun hh hs => q _ _ _ _ hk1 (R1.other (hno C0 h1) h2 h3 hs) (st.trans st1)⟩
theorem sw_plain {t v : Expr} {n : Nat} {env : Env} (h : isComp v = false) : swapsWithSole [t] v n env = pure false := by
  induction v using PySem.Expr.casesOn <;> first | rfl | exact Bool.noConfusion (show true = false from h)
theorem sw_other {t v : Expr} {n : Nat} {env : Env} (h : isComp v = true) (ht : Nat.beq (xk t) 0 = false) : swapsWithSole [t] v n env = pure false := by
  induction v using PySem.Expr.casesOn <;> first | exact Bool.noConfusion (show false = true from h) | skip
  all_goals (induction t using PySem.Expr.casesOn <;> first | rfl | exact Bool.noConfusion (show true = false from ht))
theorem sw_name {v : Expr} {x : Str} {p : Pos} {n : Nat} {env : Env} (h : isComp v = true) : ∃ b, swapsWithSole [.Name x p] v n env = pure b := by
  induction v using PySem.Expr.casesOn <;> first | exact ⟨_, rfl⟩ | exact Bool.noConfusion (show false = true from h)
theorem name_inv {t : Expr} (h : Nat.beq (xk t) 0 = true) : ∃ x p, t = .Name x p := by
  induction t using PySem.Expr.casesOn <;> first | exact (i21 rfl) | exact Bool.noConfusion (show false = true from h)
theorem sAssign (ao : AllOk W) (hC : HC W C d) (G : Good W c) (hd : c.d = d) (O : EnvOk W c g) (FO : FrOk W c) {t v : Expr} {pos : Pos} (ht : tupOk t v = true) (R : Rel W c ls h news s)
    (hk : den W.pr C n (cE g m v) ls h (kAsg W.pr (dAll W.pr C n) (cT g m t) ls k)) (q : PostS W c h news k Q) : wpAny (model W.prog W.w) c.A (exec (.Assign [t] v pos) c.env) Q E s := by
  cases hcv : isComp v with
  | false => exact sAssignPlain ao hC G hd O FO ht (sw_plain hcv) R hk q
  | true =>
    cases hname : Nat.beq (xk t) 0 with
    | false => exact sAssignPlain ao hC G hd O FO ht (sw_other hcv hname) R hk q
    | true =>
      refine e21 (name_inv hname) fun x p eq1 => ?_
      subst eq1
      refine e11 (sw_name (x := x) (p := p) (n := pos.line) (env := c.env) hcv) fun b hb => ?_
      induction b using Bool.casesOn with
      | false => exact sAssignPlain ao hC G hd O FO ht hb R hk q
      | true =>
        rw [arm_exec_Assign]
        refine wpAny_bind (wpAny_standAt ?_)
        rw [hb]
        refine wpAny_bind (wpAny_pure ?_)
        simp only [if_true]
        induction n using Nat.casesOn with
        | zero => exact hk.elim
        | succ n =>
        induction m using Nat.casesOn with
        | zero => exact hk.elim
        | succ m =>
        refine e02 (sExpr ao hC m) fun ih it => ?_
        have fin : PostU W c ls h news (kAsg W.pr (dAll W.pr C (n + 1)) (cT g (m + 1) (.Name x p)) ls k) (some fun v => assignAll v ((assignEach [.Name x p] c.env).map (·.2))) (fun Z s => wpAny (model W.prog W.w) c.A (pure PUnit.unit) (fun Z s'' => wpAny (model W.prog W.w) c.A (pure Flow.next) Q E s'') E s) E :=
          useU (P := fun s' => wpAny (model W.prog W.w) c.A (pure PUnit.unit) (fun Z s'' => wpAny (model W.prog W.w) c.A (pure Flow.next) Q E s'') E s') G O FO fun ls' h' n' s' a1 a2 a3 => wpAny_pure (wpAny_pure (q _ _ _ _ _ _ a1 .next a2 a3))
        induction v using PySem.Expr.casesOn with
        | ListComp elt gens sc pos' =>
          refine e12 (optE_den (pl_den hk)) fun p hg hk1 => ?_
          refine e02 (ifE_den hk1) fun hcomp hk2 => ?_
          refine e11 (oneGen_inv hg) fun px e => ?_
          subst e
          rw [arm_evalThenUse_ListComp]
          exact wpAny_bind (wpAny_bind (sListComp ih it G hd O hcomp R hk2 fin))
        | DictComp kx vx gens sc pos' =>
          refine e12 (optE_den (pl_den hk)) fun p hg hk1 => ?_
          refine e02 (ifE_den hk1) fun hcomp hk2 => ?_
          refine e11 (oneGen_inv hg) fun px e => ?_
          subst e
          rw [arm_evalThenUse_DictComp]
          exact wpAny_bind (wpAny_bind (sDictComp ih it G hd O hcomp R hk2 fin))
        | SetComp elt gens sc pos' => exact hk.elim
        | _ => exact Bool.noConfusion (show false = true from hcv)
end
end
section
open PySem PySem.W PyProof.Rows PySem.Calls
section
variable {W : Wd} {c : Cx} {g : Cc} {ls : Ls} {h : Hp} {news : News'} {s : Shared} {F : PF} {A : Around} {E : Value → Shared → Prop} {C : Calls} {d m n : Nat} {D : Addr} {x : Str} {sc : Scope} {k : KS} {Q : Flow → Shared → Prop}
theorem go_no {o : Obj} {target : Expr} {I : Addr} {v : Value} {src : Src} {all : List V} {i : Nat} {Q : Unit → Shared → Prop} (hat : s.heap.get? I = some o) (ho : ItOb src all i o) (q : Q () s) : wpAny (model W.prog W.w) A (letOwnedTupleGo target (.ref I) v) Q E s := by
  have body : ∀ a, v = .ref a → wpAny (model W.prog W.w) A (load I >>= fun o => match o.cls, o.data with
    | .type n, .fields vs =>
      if ["enumerate", "zip", "dict_itemiterator", "dict_reverseitemiterator", "odict_iterator", "itertools.zip_longest", "itertools.pairwise"].contains n && vs[0]? == some (rawInt a) then (do
        rule "for.unpacks-the-owned-tuple"
        updateField I 0 .none : Sem Unit) else pure ()
    | _, _ => pure ()) Q E s := by
    intro a _
    refine wpAny_bind (wpAny_load hat ?_)
    induction ho using ItOb.casesOn with
    | rng _ e => subst e; exact wpAny_pure q
    | bytes h1 h2 => rw [h1, h2]; exact wpAny_pure q
    | list h1 h2 => rw [h1, h2]; exact wpAny_pure q
    | dict h1 h2 => rw [h1, h2]; exact wpAny_pure q
  induction target using PySem.Expr.casesOn with
  | Tuple es kd p =>
    induction v using PySem.Value.casesOn with
    | ref a => exact body a rfl
    | _ => exact wpAny_pure q
  | List es p =>
    induction v using PySem.Value.casesOn with
    | ref a => exact body a rfl
    | _ => exact wpAny_pure q
  | _ => exact wpAny_pure q
theorem ForL.same {tg : V → Ls → Hp → (Ls → Hp → Prop) → Prop} {body : Ls → Hp → KS → Prop} {src : Src} {all vs : List V} (hf : ForL tg body src all vs ls h k) : src.same all h := by
  induction vs using List.casesOn <;> exact hf.1
structure ForJ (W : Wd) (c : Cx) (tg : V → Ls → Hp → (Ls → Hp → Prop) → Prop) (body : Ls → Hp → KS → Prop) (src : Src) (all : List V) (I : Addr) (F : PF) (k : KS) (j : Nat) (t' : Shared) (ls' : Ls) (h' : Hp) (n' : News') (i : Nat) : Prop where
  j : all.length + 1 - i = j
  le : i ≤ all.length
  R : Rel W c ls' h' n' t'
  it : ItAt c src all i I h' n'
  st : Stab F (Fx W c h' n')
  f : ForL tg body src all (all.drop i) ls' h' k
noncomputable def ForI (W : Wd) (c : Cx) (tg : V → Ls → Hp → (Ls → Hp → Prop) → Prop) (body : Ls → Hp → KS → Prop) (src : Src) (all : List V) (I : Addr) (F : PF) (k : KS) (j : Nat) (t' : Shared) : Prop := ∃ ls' h' n' i, ForJ W c tg body src all I F k j t' ls' h' n' i
noncomputable def DoesT (W : Wd) (c : Cx) (tg : V → Ls → Hp → (Ls → Hp → Prop) → Prop) (x : Value → Sem Unit) : Prop :=
  ∀ {ls h news s v v' k Q E}, Rel W c ls h news s → VR W (Fx W c h news) v v' → tg v ls h k → PostT W c h news k Q → wpAny (model W.prog W.w) c.A (x v') Q E s
noncomputable def DoesS (W : Wd) (c : Cx) (body : Ls → Hp → KS → Prop) (x : Sem Flow) : Prop :=
  ∀ {ls h news s k Q E}, Rel W c ls h news s → body ls h k → PostS W c h news k Q → wpAny (model W.prog W.w) c.A x Q E s
theorem drop_at {α : Type} {l : List α} {i : Nat} {v : α} (e : l[i]? = some v) : i < l.length ∧ l.drop i = v :: l.drop (i + 1) := by
  refine e11 (List.getElem?_eq_some_iff.mp e) fun h e => ?_
  exact ⟨h, by rw [List.drop_eq_getElem_cons h, e]⟩
theorem ForJ.go {tg : V → Ls → Hp → (Ls → Hp → Prop) → Prop} {body : Ls → Hp → KS → Prop} {src : Src} {all : List V} {I : Addr} {F : PF} {k : KS} {j i : Nat} {t' : Shared} {ls' : Ls} {h' : Hp} {n' : News'} (hi : i < all.length) (hj : all.length + 1 - i = j) (R : Rel W c ls' h' n' t')
    (it : ItAt c src all (i + 1) I h' n') (st : Stab F (Fx W c h' n')) (f : ForL tg body src all (all.drop (i + 1)) ls' h' k) : ∃ m, m < j ∧ ForI W c tg body src all I F k m t' :=
  ⟨all.length - i, by rw [← hj, Nat.succ_sub (Nat.le_of_lt hi)]; exact Nat.lt_succ_self _, _, _, _, i + 1, ⟨Nat.succ_sub_succ _ _, hi, R, it, st, f⟩⟩
theorem not_set {P : Pr} {it : Expr} {k : KE} (hk : den P C n (cE g m it) ls h k) : isSet it = false := by
  induction it using PySem.Expr.casesOn <;> first | rfl | (induction n using Nat.casesOn <;> induction m using Nat.casesOn <;> exact False.elim hk)
theorem no_set {it : Expr} {env : Env} (h : isSet it = false) (y : Value) : foldedSetIterable it env y = pure y := by
  induction it using PySem.Expr.casesOn <;> first | rfl | exact Bool.noConfusion (show true = false from h)
theorem sFor (ao : AllOk W) (hC : HC W C d) (is : SS W C d m) (G : Good W c) (hd : c.d = d) (O : EnvOk W c g) (FO : FrOk W c) {t it : Expr} {b : List Stmt} {pos : Pos} (R : Rel W c ls h news s)
    (hk : den W.pr C n (cE g m it) ls h (kFor (denTg W.pr (dAll W.pr C n) (cT g m t)) (denSs (denS W.pr C n) (b.map (cS g m))) ls k)) (q : PostS W c h news k Q) :
    wpAny (model W.prog W.w) c.A (exec (.For t it b [] pos) c.env) Q E s := by
  have hns0 : ∀ y, foldedSetIterable it c.env y = pure y := no_set (not_set hk)
  have T : DoesT W c (denTg W.pr (dAll W.pr C n) (cT g m t)) (fun v => assign t c.env v) := fun R hv hk q => sTarget ao (sExpr ao hC m).1 G hd O FO R hv hk q
  have S : DoesS W c (denSs (denS W.pr C n) (b.map (cS g m))) (execs b c.env) := fun R hk q => sStmts is G hd O FO R hk q
  refine wpAny_For ((sExpr ao hC m).1 G hd O R hk fun v v' h1 n1 s1 hk1 hv R1 st1 => ?_) hns0
  clear hk
  revert hk1 T S
  generalize denTg W.pr (dAll W.pr C n) (cT g m t) = tg
  generalize denSs (denS W.pr C n) (b.map (cS g m)) = body
  intro T S hk1
  refine sIter R1 G hv hk1 fun src all I n2 s2 hk2 R2 st2 hI hsame Z hIn => ?_
  refine codeAny_forLoop_any (ForI W c tg body src all I (Fx W c h1 n1) k) (fun j t' hz => e41 hz fun ls' h' n' i z => ?_) (all.length + 1) ⟨ls, h1, n2, 0, rfl, Nat.zero_le _, R2, hI, st2, hk2.out⟩
  refine sNext (A := c.A) z.R G G.handled z.it z.f.same (fun n3 t3 he R3 sb mm => ?_) fun v v' n3 t3 he hv R3 sb hit3 mm => ?_
  · have hf := z.f
    rw [List.drop_eq_nil_of_le (List.getElem?_eq_none_iff.mp he)] at hf
    exact wpAny_execs_nil (q _ _ _ _ _ _ hf.2 .next R3 (st1.trans (z.st.but hIn sb fun a o hk => .inr hk)))
  · refine e02 (drop_at he) fun hlt hdrop => ?_
    have hf := z.f
    rw [hdrop] at hf
    have st3 := z.st.but hIn sb (fun a o hk => .inr hk)
    refine e12 (hit3.2.2) fun ob ho1 ho2 => ?_
    refine go_no (R3.at ho1) ho2 (T R3 hv hf.2 fun ls4 h4 n4 t4 hk4 R4 st4 => S R4 hk4 fun f f' ls5 h5 n5 t5 hk5 hf5 R5 st5 => ?_)
    have st := (st3.trans st4).trans st5
    have hit := ItAt.stab (ls' := ls') (s' := t') R3 G (st4.trans st5) hit3
    induction hf5 using FlR.casesOn with
    | next => exact ForJ.go hlt z.j R5 hit st hk5
    | cont => exact ForJ.go hlt z.j R5 hit st hk5
    | brk => exact q _ _ _ _ _ _ hk5 .next R5 (st1.trans st)
    | ret hv => exact q _ _ _ _ _ _ hk5 (.ret hv) R5 (st1.trans st)
theorem sWhile (ao : AllOk W) (hC : HC W C d) (is : SS W C d m) (G : Good W c) (hd : c.d = d) (O : EnvOk W c g) (FO : FrOk W c) {t : Expr} {b : List Stmt} {pos : Pos} (R : Rel W c ls h news s)
    (hk : While (denT W.pr C n (cE g m t)) (denSs (denS W.pr C n) (b.map (cS g m))) ls h k) (q : PostS W c h news k Q) :
    wpAny (model W.prog W.w) c.A (exec (.While t b [] pos) c.env) Q E s := by
  refine e22 (hk.out) fun I j h0 hinv => ?_
  refine wpAny_While (codeAny_whileLoop (fun j t' => ∃ ls' h' news', I j ls' h' ∧ Rel W c ls' h' news' t' ∧ Stab (Fx W c h news) (Fx W c h' news')) ?_ j ⟨ls, h, news, h0, R, .refl⟩)
  intro j t' hI
  refine e33 hI fun ls' h' n' hI R' st' => ?_
  refine (sExpr ao hC m).2 G hd O R' (hinv j ls' h' hI) fun b h1 n1 s1 hk1 R1 st1 => ?_
  induction b using Bool.casesOn
  · exact wpAny_execs_nil (q _ _ _ _ _ _ (hk1.e rfl) .next R1 (st'.trans st1))
  · refine sStmts is G hd O FO R1 (hk1.t rfl) fun f f' ls2 h2 n2 s2 hk2 hf R2 st2 => ?_
    induction hf using FlR.casesOn with
    | next =>
      refine e12 hk2 fun m' hm hI' => ?_
      clear hk2
      exact ⟨m', hm, ls2, h2, n2, hI', R2, (st'.trans st1).trans st2⟩
    | cont =>
      refine e12 hk2 fun m' hm hI' => ?_
      clear hk2
      exact ⟨m', hm, ls2, h2, n2, hI', R2, (st'.trans st1).trans st2⟩
    | brk => exact q _ _ _ _ _ _ hk2 .next R2 ((st'.trans st1).trans st2)
    | ret hv => exact q _ _ _ _ _ _ hk2 (.ret hv) R2 ((st'.trans st1).trans st2)
theorem isCall_inv {e : Expr} (h : isCall e = true) : ∃ f a k p, e = .Call f a k p := by
  induction e using PySem.Expr.casesOn <;> first | exact (i41 rfl) | exact Bool.noConfusion (show false = true from h)
theorem sDrop {f : Expr} {a : List Expr} {kw : List Keyword} {p pos : Pos} {v : Value} (h : Q .next s) : wpAny (model W.prog W.w) A (dropValue (.Call f a kw p) pos v) Q E s := by
  have run : wpAny (model W.prog W.w) A (do standAt pos; let _ ← runValue (.builtin "proto.let_go" {}); pure Flow.next) Q E s := by
    refine wpAny_bind (wpAny_standAt (wpAny_bind ?_))
    exact wpAny_runValue (codeAny_builtin entry_let_go (show wpAny _ _ (ret .none) _ _ s from wpAny_pure (wpAny_pure h)))
  induction v using PySem.Value.casesOn <;> first | exact wpAny_pure h | exact run
theorem ifS_den {P : Pr} {b : Bool} {x : St} (hk : denS P C (n + 1) (ifS b x) ls h k) : b = true ∧ denS P C (n + 1) x ls h k := by
  induction b using Bool.casesOn with
  | false => exact hk.elim
  | true => exact ⟨rfl, hk⟩
theorem nilS_den {P : Pr} {α : Type} {l : List α} {x : St} (hk : denS P C (n + 1) (nilS l x) ls h k) : l = [] ∧ denS P C (n + 1) x ls h k := by
  induction l using List.casesOn with
  | nil => exact ⟨rfl, hk⟩
  | cons _ _ => exact hk.elim
theorem oneS_den {P : Pr} {α : Type} {l : List α} {f : α → St} (hk : denS P C (n + 1) (oneS l f) ls h k) : ∃ t, l = [t] ∧ denS P C (n + 1) (f t) ls h k := by
  induction l using List.casesOn with
  | nil => exact hk.elim
  | cons t r =>
    obtain ⟨e, hk1⟩ := nilS_den (show denS P C (n + 1) (nilS r (f t)) ls h k from hk)
    exact ⟨t, by rw [e], hk1⟩
theorem sStmt (ao : AllOk W) (hC : HC W C d) : ∀ m, SS W C d m := by
  intro m
  induction m with
  | zero =>
    intro g c st n ls h news s k Q E G hd O FO R hk q
    induction n using Nat.casesOn <;> exact hk.elim
  | succ m is =>
    intro g c st n ls h news s k Q E G hd O FO R hk q
    induction n using Nat.casesOn with
    | zero => exact hk.elim
    | succ n =>
    refine e02 (sExpr ao hC m) fun se te => ?_
    induction st using PySem.Stmt.casesOn with
    | Return v pos =>
      induction v using Option.casesOn with
      | none =>
        induction n using Nat.casesOn with
        | zero => exact False.elim hk
        | succ n => exact wpAny_Return_none (q _ _ _ _ _ _ (show k (.ret .none) ls h from hk) (.ret .none) R .refl)
      | some e =>
        exact wpAny_Return_some (se G hd O R (show den W.pr C n (cE g m e) ls h (kRet ls k) from hk) fun v v' h1 n1 s1 hk1 hv R1 st1 => q _ _ _ _ _ _ hk1 (.ret hv) R1 st1)
    | Assign ts v pos =>
      refine e12 (oneS_den hk) fun t e hk1 => ?_
      subst e
      refine e02 (ifS_den hk1) fun ht hk2 => ?_
      exact sAssign ao hC G hd O FO ht R hk2 q
    | For t it b el pos =>
      refine e02 (nilS_den hk) fun e hk1 => ?_
      subst e
      exact sFor ao hC is G hd O FO R hk1 q
    | While t b el pos =>
      refine e02 (nilS_den hk) fun e hk1 => ?_
      subst e
      exact sWhile ao hC is G hd O FO R hk1 q
    | If t a b pos =>
      refine wpAny_If (te G hd O R (show denT W.pr C n (cE g m t) ls h (kIf (denSs (denS W.pr C n) (a.map (cS g m))) (denSs (denS W.pr C n) (b.map (cS g m))) ls k) from hk) fun v h1 n1 s1 hk1 R1 st1 => ?_)
      induction v using Bool.casesOn
      · exact sStmts is G hd O FO R1 (MIf.e hk1 rfl) (q.trans st1)
      · exact sStmts is G hd O FO R1 (MIf.t hk1 rfl) (q.trans st1)
    | Expr e pos =>
      refine e02 (ifS_den hk) fun he hk1 => ?_
      refine e41 (isCall_inv he) fun f a kw p ee => ?_
      subst ee
      rw [arm_exec_Expr]
      refine wpAny_bind (wpAny_standAt ?_)
      have hi : interactive c.env = false := by unfold interactive; rw [G.kind]; rfl
      rw [hi]
      simp only [Bool.false_eq_true, if_false]
      have hsw : swapsWith (.Call f a kw p) none pos.line c.env = pure false := rfl
      rw [hsw]
      refine wpAny_bind (wpAny_pure ?_)
      simp only [Bool.false_eq_true, if_false]
      exact wpAny_bind (se G hd O R (show den W.pr C n (cE g m (.Call f a kw p)) ls h (kExpr ls k) from hk1) fun v v' h1 n1 s1 hk1 hv R1 st1 => sDrop (q _ _ _ _ _ _ hk1 .next R1 st1))
    | Break pos => exact wpAny_Break (q _ _ _ _ _ _ (show k .brk ls h from hk) .brk R .refl)
    | Continue pos => exact wpAny_Continue (q _ _ _ _ _ _ (show k .cont ls h from hk) .cont R .refl)
    | _ => exact hk.elim
end
end
section
open PySem PySem.W PyProof.Rows PySem.Calls
noncomputable def slotStep (slots : List (Str × Value)) (p : Str × Value) : List (Str × Value) := if (slots.lookup p.1).isNone then slots ++ [p] else slots
theorem look_append {l r : List (Str × Value)} {x : Str} : (l ++ r).lookup x = (l.lookup x).or (r.lookup x) := List.lookup_append
theorem look_one {x y : Str} {v : Value} : [(y, v)].lookup x = if x = y then some v else none := by
  rw [List.lookup_cons]
  by_cases h : x = y
  · subst h
    simp
  · have : (x == y) = false := by simpa using h
    rw [this]; simp [h]
theorem look_fold {x : Str} : ∀ (l slots : List (Str × Value)), (l.foldl slotStep slots).lookup x = (slots.lookup x).or (l.lookup x) := by
  intro L0
  induction L0 with
  | nil => exact fun slots => by simp
  | cons P l ih =>
    obtain ⟨y, v⟩ := P
    intro slots
    rw [List.foldl_cons, ih]
    unfold slotStep
    by_cases h : x = y
    · subst h
      rw [List.lookup_cons_self]
      cases e : slots.lookup x with
      | none => simp [look_append, e, look_one]
      | some w => simp [e]
    · have : (x == y) = false := by simpa using h
      rw [List.lookup_cons, this]
      split
      · rw [look_append, look_one, if_neg h]; simp
      · rfl
theorem forIn_slots : ∀ (l slots : List (Str × Value)), (forIn l slots fun (x : Str × Value) (__s : List (Str × Value)) =>
      if (List.lookup x.1 __s).isNone = true then (pure (ForInStep.yield (__s ++ [(x.1, x.2)])) : Sem (ForInStep (List (Str × Value)))) else pure (ForInStep.yield __s)) = pure (l.foldl slotStep slots) := by
  intro L0
  induction L0 with
  | nil => exact fun slots => rfl
  | cons P l ih =>
    obtain ⟨y, v⟩ := P
    intro slots
    rw [List.forIn_cons, List.foldl_cons]
    unfold slotStep
    by_cases h : (slots.lookup y).isNone = true
    · simp only [h, if_true, pure_bind]
      exact ih _
    · have h : (slots.lookup y).isNone = false := by simpa using h
      simp only [h, pure_bind]
      exact ih _
theorem zip_look {names : List Str} (nd : names.Nodup) : ∀ {vs : List Value} {i : Nat} {x : Str}, names[i]? = some x → (names.zip vs).lookup x = vs[i]? := by
  induction names with
  | nil => intro vs i x h; simp at h
  | cons y r ih =>
    intro vs i x h
    have nd' := List.nodup_cons.mp nd
    induction vs using List.casesOn with
    | nil => simp
    | cons v vs =>
      rw [List.zip_cons_cons, List.lookup_cons]
      induction i using Nat.casesOn with
      | zero => simp at h; subst h; simp
      | succ i =>
        simp only [List.getElem?_cons_succ] at h ⊢
        have : x ≠ y := by rintro rfl; exact nd'.1 (List.mem_of_getElem? h)
        have : (x == y) = false := by simpa using this
        rw [this]
        exact ih nd'.2 h
theorem drop_look {names : List Str} (nd : names.Nodup) {dv : List Value} {k i : Nat} {x : Str} (h : names[i]? = some x) : ((names.drop k).zip dv).lookup x = if k ≤ i then dv[i - k]? else none := by
  by_cases hk : k ≤ i
  · rw [if_pos hk]
    refine zip_look (nd.sublist (List.drop_sublist _ _)) ?_
    rw [List.getElem?_drop]
    have : k + (i - k) = i := by omega
    rw [this]; exact h
  · rw [if_neg hk]
    have hnot : x ∉ names.drop k := by
      intro hm
      obtain ⟨j, hj⟩ := List.mem_iff_getElem?.mp hm
      rw [List.getElem?_drop] at hj
      have p := List.pairwise_iff_getElem.mp nd
      obtain ⟨a, ha⟩ := List.getElem?_eq_some_iff.mp h
      obtain ⟨b, hb⟩ := List.getElem?_eq_some_iff.mp hj
      exact p i (k + j) a b (by omega) (ha.trans hb.symm)
    rw [List.lookup_eq_none_iff]
    intro p hp
    have := (List.of_mem_zip hp).1
    simp
    rintro rfl; exact hnot this
theorem filter_zip {names : List Str} {f : Str → Option Value} : ∀ {ns : List Str} {vals : List Value}, ns.length = vals.length → (∀ (i : Nat) (x : Str), ns[i]? = some x → f x = vals[i]?) → ns.filterMap (fun n => (f n).map (n, ·)) = ns.zip vals := by
  intro ns
  induction ns with
  | nil => exact fun Z Z => rfl
  | cons x ns ih =>
    intro vals h hf
    induction vals using List.casesOn with
    | nil => exact Nat.noConfusion h
    | cons v vals =>
      rw [List.filterMap_cons, show f x = some v from hf 0 x rfl]
      exact congrArg (_ :: ·) (ih (Nat.succ.inj h) fun i y hi => hf (i + 1) y hi)
theorem sub4 {a b n i : Nat} (h1 : a ≤ i) (h2 : n ≤ a + b) (h3 : b ≤ n) : i - (n - b) = a + b - n + (i - a) := by
  obtain ⟨j, rfl⟩ := Nat.exists_eq_add_of_le h1
  obtain ⟨m, rfl⟩ := Nat.exists_eq_add_of_le h3
  have h : m ≤ a := Nat.le_of_add_le_add_left (Nat.add_comm a b ▸ h2)
  obtain ⟨t, rfl⟩ := Nat.exists_eq_add_of_le h
  rw [Nat.add_sub_cancel_left, Nat.add_sub_cancel_left, Nat.add_assoc m t j, Nat.add_sub_cancel_left, Nat.add_comm b m, Nat.add_right_comm, Nat.add_sub_cancel_left]
theorem sub5 {v n d : Nat} (h1 : v ≤ n) (h2 : n ≤ v + d) : n = v + (d - (v + d - n)) := by omega
theorem params_plain (p : Arguments) (h1 : p.posonlyargs = []) (h2 : p.kwonlyargs = []) (h3 : p.vararg = none) (h4 : p.kwarg = none) : p = ⟨[], p.args, none, [], p.kw_defaults, none, p.defaults⟩ := by
  cases p; cases h1; cases h2; cases h3; cases h4; rfl
theorem bindsTo_plain {s : Shared} {fd : FuncData} {names : List Str} {vs dv : List Value} (h1 : fd.params.posonlyargs = []) (h2 : fd.params.kwonlyargs = []) (h3 : fd.params.vararg = none) (h4 : fd.params.kwarg = none) (hn : fd.params.args.map (·.arg) = names) (nd : names.Nodup)
    (hd : ∀ (M : Model) (A : Around) (E : Value → Shared → Prop) (Q : Option (Array Value) → Shared → Prop), (∀ r, (r.getD #[]).toList = dv → Q r s) → wpAny M A (seqItems? fd.defaults) Q E s)
    (hl1 : vs.length ≤ names.length) (hl2 : names.length ≤ vs.length + dv.length) (hl3 : dv.length ≤ names.length) :
    BindsTo s fd ⟨vs, []⟩ (names.zip (vs ++ dv.drop (vs.length + dv.length - names.length))) := by
  intro M A E Q hq
  have hmiss : (List.take (names.length - dv.length) names).filter (fun n => (List.lookup n (names.zip vs)).isNone) = [] := by
    rw [List.filter_eq_nil_iff]
    intro x hx
    obtain ⟨i, hi⟩ := List.mem_iff_getElem?.mp hx
    rw [List.getElem?_take] at hi
    split at hi
    · rw [zip_look nd hi, List.getElem?_eq_getElem (by omega)]; simp
    · cases hi
  have hfin : names.filterMap (fun n => Option.map (fun x => (n, x)) (List.lookup n (List.foldl slotStep (names.zip vs) ((names.drop (names.length - dv.length)).zip dv)))) = names.zip (vs ++ dv.drop (vs.length + dv.length - names.length)) := by
    refine filter_zip (names := names) (f := fun n => List.lookup n (List.foldl slotStep (names.zip vs) ((names.drop (names.length - dv.length)).zip dv))) (by rw [List.length_append, List.length_drop]; exact sub5 hl1 hl2) fun i x hi => ?_
    have hil := (List.getElem?_eq_some_iff.mp hi).1
    simp only [look_fold, zip_look nd hi, drop_look nd hi]
    by_cases hv : i < vs.length
    · rw [List.getElem?_append_left hv, List.getElem?_eq_getElem hv]; rfl
    · have hv := Nat.le_of_not_lt hv
      rw [List.getElem?_append_right hv, List.getElem?_eq_none hv, Option.none_or, if_pos (Nat.le_trans (Nat.sub_le_of_le_add hl2) hv), List.getElem?_drop, sub4 hv hl2 hl3]
  have hp : fd.params = ⟨[], fd.params.args, none, [], fd.params.kw_defaults, none, fd.params.defaults⟩ := params_plain _ h1 h2 h3 h4
  have e0 : dv.length - names.length = 0 := Nat.sub_eq_zero_of_le hl3
  clear nd hl2
  subst hn
  revert hmiss hfin e0 hl1 hq
  unfold bindArgs
  rw [hp]
  generalize fd.params.args = ar
  generalize fd.params.kw_defaults = kd
  generalize fd.params.defaults = df
  intro hl1 hq hmiss hfin e0
  clear hp h1 h2 h3 h4
  refine wpAny_bind (wpAny_of_eq (a := _) rfl (wpAny_bind (hd _ _ _ _ fun r hr => ?_)))
  rw [hr]
  refine bm_if_false (by show (decide (vs.length > (ar.map (·.arg)).length) && true) = false; rw [decide_eq_false (Nat.not_lt.mpr hl1)]; rfl) ?_
  refine bm_if_false (c := !List.isEmpty ((List.take ((ar.map (·.arg)).length - (dv.drop (dv.length - (ar.map (·.arg)).length)).length) (ar.map (·.arg))).filter (fun n => (List.lookup n ((ar.map (·.arg)).zip vs)).isNone))) (by rw [e0, List.drop_zero, hmiss]; rfl) ?_
  refine wpAny_bind (wpAny_of_eq (forIn_slots _ _) (wpAny_bind (wpAny_of_eq (a := _) rfl ?_)))
  refine bm_if_false rfl (wpAny_pure ?_)
  show Q (List.filterMap (fun n => Option.map (fun x => (n, x)) (List.lookup n (List.foldl slotStep ((ar.map (·.arg)).zip vs) (((ar.map (·.arg)).drop ((ar.map (·.arg)).length - (dv.drop (dv.length - (ar.map (·.arg)).length)).length)).zip (dv.drop (dv.length - (ar.map (·.arg)).length)))))) (ar.map (·.arg) ++ [])) s
  rw [List.append_nil, e0, List.drop_zero, hfin]
  exact hq
end
section
open PySem PySem.W PyProof.Rows PySem.Calls
structure FD where
  name : Str
  qual : Str
  params : Arguments
  body : List Stmt
  scope : Scope
  dV : Value
  kV : Value
  doc : Value
  pm : Value
  cdv : Value
  ct : Value
  oc : Value
  an : Option Addr
  od : Option Addr
  osl : Array (Option Value)
  locs : List Str
  dv : List Value
noncomputable def cellNames (names : List (Str × NameKind)) : List Str := (cellsFrom 0 names []).map (·.1)
noncomputable def seqOf (o : Obj) : Option (List Value) := match o.data with
  | .seq xs _ => some xs.toList
  | _ => none
noncomputable def dfltIn (K : Frag) (v : Value) : Option (List Value) := match v with
  | .none => some []
  | .ref T => (K.lookup T).bind seqOf
  | _ => none
theorem seqOf_inv {o : Obj} {l : List Value} (h : seqOf o = some l) : ∃ xs n, o.data = .seq xs n ∧ xs.toList = l := by
  obtain ⟨c, d, dt, sl⟩ := o
  cases dt <;> first | exact none_ne h | exact (i22 rfl (Option.some.inj h))
structure FnOk (W : Wd) (glob : List (Str × V)) (nat : List (Str × Nat)) (f : Nat) (fn : Fn) (D : FD) : Prop where
  at' : W.K.lookup (W.tb.fnA f) = some ⟨D.oc, D.od, .func (fnX D.name D.qual D.params D.body D.scope [] D.dV D.kV D.doc D.pm D.an D.cdv D.ct), D.osl⟩
  code : codeIn W.K D.cdv D.qual = true
  pos : D.params.posonlyargs = []
  kwo : D.params.kwonlyargs = []
  var : D.params.vararg = none
  kwa : D.params.kwarg = none
  names : D.params.args.map (·.arg) = D.locs.take fn.np
  np : fn.np ≤ D.locs.length
  nl : fn.nl = D.locs.length
  dflt : dfltIn W.K D.dV = some D.dv
  dvr : VRs W (KF W) fn.dfl D.dv
  dlen : D.dv.length ≤ fn.np
  nd : D.locs.Nodup
  loc : ∀ x ∈ D.locs, (D.scope.names.lookup x = some .local ∧ x ∉ cellNames D.scope.names) ∨ (D.scope.names.lookup x = some .cell ∧ x ∈ cellNames D.scope.names)
  dbg : ∀ x ∈ D.locs, (x == Mi.dbg) = false
  cnd : (cellNames D.scope.names).Nodup
  co : D.scope.isCoroutine = false
  gen : D.scope.isGenerator = false
  kind : D.scope.kind = .function
  body : fn.body = D.body.map (cS ⟨D.locs, D.scope.names, glob, nat⟩ 30)
structure FnsOk (W : Wd) (glob : List (Str × V)) (nat : List (Str × Nat)) : Prop where
  fns : ∀ f fn, W.pr.fn f = some fn → ∃ D, FnOk W glob nat f fn D
  glob : ∀ x v, lookStr x glob = some v → GlobOk W x v
  nat : ∀ x n, lookStr x nat = some n → W.tb.nm n = x
theorem cells_inj : ∀ (names : List (Str × NameKind)) (n : Nat) (acc : List (Str × Addr)), (∀ p ∈ acc, p.2 < n) → (∀ p ∈ acc, ∀ q ∈ acc, p.2 = q.2 → p = q) → ∀ p ∈ cellsFrom n names acc, ∀ q ∈ cellsFrom n names acc, p.2 = q.2 → p = q := by
  intro L0
  induction L0 with
  | nil => exact fun n acc Z h2 => h2
  | cons P r ih =>
    obtain ⟨x, k⟩ := P
    intro n acc h1 h2
    unfold cellsFrom
    split
    · refine ih (n + 1) _ (fun p hp => ?_) fun p hp q hq e => ?_
      · rcases List.mem_cons.mp hp with rfl | hp
        · exact Nat.lt_succ_self n
        · exact Nat.lt_succ_of_lt (h1 p hp)
      · rcases List.mem_cons.mp hp with rfl | hp <;> rcases List.mem_cons.mp hq with rfl | hq
        · rfl
        · exact absurd (h1 q hq) (by rw [← e]; exact Nat.lt_irrefl _)
        · exact absurd (h1 p hp) (by rw [e]; exact Nat.lt_irrefl _)
        · exact h2 p hp q hq e
    · exact ih n acc h1 h2
theorem cells_low : ∀ (names : List (Str × NameKind)) (n lo : Nat) (acc : List (Str × Addr)), lo ≤ n → (∀ p ∈ acc, lo ≤ p.2) → ∀ p ∈ cellsFrom n names acc, lo ≤ p.2 := by
  intro L0
  induction L0 with
  | nil => exact fun n lo acc Z h => h
  | cons P r ih =>
    obtain ⟨x, k⟩ := P
    intro n lo acc hn h
    unfold cellsFrom
    split
    · refine ih (n + 1) lo _ (Nat.le_succ_of_le hn) fun p hp => ?_
      rcases List.mem_cons.mp hp with rfl | hp
      · exact hn
      · exact h p hp
    · exact ih n lo acc hn h
theorem cells_names (n : Nat) (names : List (Str × NameKind)) : (cellsFrom n names []).map (·.1) = cellNames names := cellsFrom_names names n 0 [] [] rfl
theorem look_some {x : Str} : ∀ {l : List (Str × Addr)}, x ∈ l.map (·.1) → ∃ a, l.lookup x = some a ∧ (x, a) ∈ l := by
  intro L0
  induction L0 with
  | nil => exact fun h => absurd h List.not_mem_nil
  | cons P r ih =>
    obtain ⟨y, b⟩ := P
    intro h
    rw [List.lookup_cons]
    cases e : (x == y) with
    | true => rw [eq_of_beq e]; exact ⟨b, rfl, .head _⟩
    | false =>
      have hx : x ≠ y := by simpa using e
      rcases List.mem_cons.mp h with q | q
      · exact absurd q hx
      · refine e12 (ih q) fun a h1 h2 => ?_
        exact ⟨a, h1, .tail _ h2⟩
theorem look_mem {x : Str} {a : Addr} : ∀ {l : List (Str × Addr)}, l.lookup x = some a → (x, a) ∈ l := by
  intro L0
  induction L0 with
  | nil => exact fun h => none_ne h
  | cons P r ih =>
    obtain ⟨y, b⟩ := P
    intro h
    rw [List.lookup_cons] at h
    cases e : (x == y) with
    | true => rw [e] at h; cases h; rw [eq_of_beq e]; exact .head _
    | false => rw [e] at h; exact .tail _ (ih h)
theorem look_none {x : Str} {l : List (Str × Addr)} (h : x ∉ l.map (·.1)) : l.lookup x = none := by
  rw [List.lookup_eq_none_iff]
  intro p hp
  simp only [bne_iff_ne, ne_eq]
  rintro rfl; exact h (List.mem_map_of_mem hp)
theorem cellsAre_mem {cm : Str → Option Value} {cs : List (Str × Addr)} {cells : News'} (h : CellsAre cm cs cells) : (∀ x a, (x, a) ∈ cs → ∃ o, (a, o) ∈ cells ∧ o.data = .cell (cm x)) ∧ ∀ p ∈ cells, ∃ x, (x, p.1) ∈ cs := by
  induction h with
  | nil => exact ⟨fun Z Z h => by simp at h, fun Z h => by simp at h⟩
  | @cons n c o cs cells hd _ ih =>
    refine ⟨fun x a hm => ?_, fun p hp => ?_⟩
    · rcases List.mem_cons.mp hm with e | hm
      · cases e
        exact ⟨o, .head _, hd⟩
      · refine e12 (ih.1 x a hm) fun o' h1 h2 => ?_
        exact ⟨o', .tail _ h1, h2⟩
    · rcases List.mem_cons.mp hp with rfl | hp
      · exact ⟨n, .head _⟩
      · refine e11 (ih.2 p hp) fun x hx => ?_
        exact ⟨x, .tail _ hx⟩
theorem bindL_not {kindOf : Str → Option NameKind} {x : Str} : ∀ {binds : List (Str × Value)} {m : Str → Option Value}, x ∉ binds.map (·.1) → bindL kindOf binds m x = m x := by
  intro L0
  induction L0 with
  | nil => exact fun Z => rfl
  | cons P r ih =>
    obtain ⟨n, v⟩ := P
    intro m h
    simp only [List.map_cons, List.mem_cons, not_or] at h
    unfold bindL
    rw [ih h.2]
    split
    · exact if_neg h.1
    · rfl
theorem bindC_not {kindOf : Str → Option NameKind} {x : Str} : ∀ {binds : List (Str × Value)} {m : Str → Option Value}, x ∉ binds.map (·.1) → bindC kindOf binds m x = m x := by
  intro L0
  induction L0 with
  | nil => exact fun Z => rfl
  | cons P r ih =>
    obtain ⟨n, v⟩ := P
    intro m h
    simp only [List.map_cons, List.mem_cons, not_or] at h
    unfold bindC
    rw [ih h.2]
    split
    · rfl
    · exact if_neg h.1
theorem bindL_at {kindOf : Str → Option NameKind} {x : Str} {v : Value} (hk : kindOf x = some .local) : ∀ {binds : List (Str × Value)} {m : Str → Option Value}, (binds.map (·.1)).Nodup → (x, v) ∈ binds → bindL kindOf binds m x = some v := by
  intro L0
  induction L0 with
  | nil => exact fun Z h => absurd h List.not_mem_nil
  | cons P r ih =>
    obtain ⟨n, u⟩ := P
    intro m nd h
    have nd' := List.nodup_cons.mp nd
    unfold bindL
    rcases List.mem_cons.mp h with e | h
    · cases e
      rw [bindL_not nd'.1, if_pos hk, if_pos rfl]
    · exact ih nd'.2 h
theorem bindC_at {kindOf : Str → Option NameKind} {x : Str} {v : Value} (hk : kindOf x = some .cell) : ∀ {binds : List (Str × Value)} {m : Str → Option Value}, (binds.map (·.1)).Nodup → (x, v) ∈ binds → bindC kindOf binds m x = some v := by
  intro L0
  induction L0 with
  | nil => exact fun Z h => absurd h List.not_mem_nil
  | cons P r ih =>
    obtain ⟨n, u⟩ := P
    intro m nd h
    have nd' := List.nodup_cons.mp nd
    unfold bindC
    rcases List.mem_cons.mp h with e | h
    · cases e
      rw [bindC_not nd'.1, if_neg (by rw [hk]; simp), if_pos rfl]
    · exact ih nd'.2 h
section
variable {W : Wd} {c : Cx} {g : Cc} {ls : Ls} {h : Hp} {news : News'} {s : Shared} {F : PF} {A : Around} {E : Value → Shared → Prop} {C : Calls} {d m n : Nat} {x : Str} {sc : Scope} {k : KE}
noncomputable def slotOf (cells : List (Str × Addr)) (x : Str) : Slot := match cells.lookup x with
  | some a => .cell a
  | none => .loc
noncomputable def Cx.call (c : Cx) (A' : Around) (env : Env) (g : Heap) (L : Addr) (locs : List Str) (ex : List Addr) (d : Nat) : Cx :=
  { c with A := A'.deeper env, A₀ := A', outer := c.top :: c.outer, top := env, h₀ := g, L := L, env := env, sl := locs.map (fun x => (x, slotOf env.cells x)), ex := ex, d := d }
theorem slot_cases {locs : List Str} {cells : List (Str × Addr)} {i : Nat} {y : Str} {sl : Slot} (h : (locs.map fun x => (x, slotOf cells x))[i]? = some (y, sl)) : locs[i]? = some y ∧ ((sl = .loc ∧ cells.lookup y = none) ∨ ∃ a, sl = .cell a ∧ cells.lookup y = some a) := by
  rw [List.getElem?_map] at h
  cases e : locs[i]? with
  | none => rw [e] at h; cases h
  | some z =>
    rw [e] at h
    simp only [Option.map_some, Option.some.injEq, Prod.mk.injEq] at h
    refine e02 h fun eq1 => ?_
    clear h
    subst eq1
    intro eq2
    subst eq2
    refine ⟨rfl, ?_⟩
    unfold slotOf
    cases q : cells.lookup z with
    | none => exact .inl ⟨rfl, rfl⟩
    | some a => exact .inr ⟨a, rfl, rfl⟩
theorem slot_mem {locs : List Str} {cells : List (Str × Addr)} {y : Str} {sl : Slot} (h : (y, sl) ∈ (locs.map fun x => (x, slotOf cells x))) : y ∈ locs ∧ ((sl = .loc ∧ cells.lookup y = none) ∨ ∃ a, sl = .cell a ∧ cells.lookup y = some a) := by
  refine e11 (List.mem_iff_getElem?.mp h) fun i hi => ?_
  refine e02 (slot_cases hi) fun h1 h2 => ?_
  exact ⟨List.mem_of_getElem? h1, h2⟩
noncomputable def seen (c : Cx) (news : News') : News' := news.filter fun p => !c.ex.contains p.1
theorem seen_mem {p : Addr × Obj} : p ∈ seen c news ↔ p ∈ news ∧ p.1 ∉ c.ex := by
  unfold seen; rw [List.mem_filter]; simp
theorem Rel.enter (R : Rel W c ls h news s) {A' : Around} {D : FD} {f : Addr} {gh h₁ : Heap} {L' tk d' : Nat} {cells : News'} {m' : Str → Option Value} {ls' : Ls} {cm : Str → Option Value} (hro : ∀ b vs n, W.ro b = some (vs, n) → gh.get? b = some n) (F' : Fr gh L' h₁ m') (N' : News gh L' h₁ (cells ++ seen c news)) (hca : CellsAre cm (cellsFrom (L' + 1) D.scope.names []) cells)
    (hlt : ∀ p ∈ seen c news, p.1 < L') (hslot : ∀ (i : Nat) y sl v, (D.locs.map fun x => (x, slotOf (cellsFrom (L' + 1) D.scope.names []) x))[i]? = some (y, sl) → ls'[i]? = some (some v) → ∃ v', VR W (Fx W c h news) v v' ∧ match sl with | .loc => m' y = some v' | .cell a => cm y = some v' | .ns _ => False) :
    Rel W (c.call A' (envOfC D.qual D.scope L' f D.cdv) gh L' D.locs (cells.map (·.1)) d') ls' h (cells ++ seen c news) { s with heap := h₁, toks := tk } ∧ Stab (Fx W c h news) (Fx W (c.call A' (envOfC D.qual D.scope L' f D.cdv) gh L' D.locs (cells.map (·.1)) d') h (cells ++ seen c news)) := by
  refine e02 (cellsAre_mem hca) fun ca1 ca2 => ?_
  have named : ∀ b y, h.get b = some y → ∀ o, (b, o) ∈ news → (b, o) ∈ cells ++ seen c news := fun b y hb o hm => List.mem_append_right _ (seen_mem.mpr ⟨hm, fun hex => by rw [(R.ex b hex).1] at hb; cases hb⟩)
  have cellhi : ∀ b, b ∈ cells.map (·.1) → L' < b := fun b hb => by
    refine e12 (List.mem_map.mp hb) fun p hp eq1 => ?_
    subst eq1
    refine e11 (ca2 p hp) fun x hx => ?_
    exact Nat.lt_of_succ_le (cells_low D.scope.names (L' + 1) (L' + 1) [] (Nat.le_refl _) (by simp) _ hx)
  have topL : h.top ≤ L' := by
    rcases R.top with ⟨b, vs, n, e1, _, l⟩ | ⟨t, o, hm, hl, _, hns⟩
    · exact Nat.le_trans l (Nat.lt_of_lt_of_le (Heap.lt_size (hro _ _ _ e1)) F'.above)
    · exact Nat.le_trans hl (hlt _ (seen_mem.mpr ⟨hm, hns⟩))
  have hst : Stab (Fx W c h news) (Fx W (c.call A' (envOfC D.qual D.scope L' f D.cdv) gh L' D.locs (cells.map (·.1)) d') h (cells ++ seen c news)) := fun b y hy => hy.imp (fun z => e03 z fun p q r =>
    ⟨List.mem_append_right _ (seen_mem.mpr ⟨p, r⟩), q, fun hb => by have h1 := hlt _ (seen_mem.mpr ⟨p, r⟩); have h2 := cellhi b hb; exact absurd h1 (Nat.not_lt.mpr (Nat.le_of_lt h2))⟩) id
  refine ⟨⟨⟨m', F', fun i y sl v h1 h2 => ?_⟩, N', fun b y e => ?_, ?_, R.dom, fun b hb => ?_, fun y b hb => ?_, fun y b hb => ?_, R.gens, R.drawn, R.os, R.hid⟩, hst⟩
  · refine e12 (hslot i y sl v h1 h2) fun v' hv hs => ?_
    refine ⟨v', hv.stab hst, ?_⟩
    refine e02 (slot_cases h1) fun Z h3 => ?_
    rcases h3 with ⟨rfl, hl⟩ | ⟨a, rfl, hl⟩
    · exact hs
    · refine e12 (ca1 y a (look_mem hl)) fun o ho1 ho2 => ?_
      exact ⟨o, List.mem_append_left _ ho1, by rw [ho2]; exact congrArg _ hs⟩
  · exact (R.hp b y e).grow (fun Z Z Z => hst _ _) (fun o hp => named b y e o hp) (fun z o hz hp => named z _ hz o hp) fun Z hz => hz
  · refine R.top.imp (fun z => e33 z fun b vs n e1 Z l => ⟨b, vs, n, e1, hro _ _ _ e1, l⟩) fun z => e24 z fun t o hm hl hi hns => ⟨t, o, List.mem_append_right _ (seen_mem.mpr ⟨hm, hns⟩), hl, hi, fun hb => ?_⟩
    exact absurd (hlt _ (seen_mem.mpr ⟨hm, hns⟩)) (Nat.not_lt.mpr (Nat.le_of_lt (cellhi _ hb)))
  · refine e12 (List.mem_map.mp hb) fun p hp eq1 => ?_
    subst eq1
    refine ⟨R.noneAt (Nat.le_trans topL (Nat.le_of_lt (cellhi _ hb))), p.2, List.mem_append_left _ hp⟩
  · refine e02 (slot_mem hb) fun Z h3 => ?_
    rcases h3 with ⟨h4, _⟩ | ⟨a, h4, hl⟩
    · cases h4
    · cases h4
      refine e12 (ca1 y b (look_mem hl)) fun o ho1 ho2 => ?_
      exact ⟨List.mem_map_of_mem ho1, o, _, List.mem_append_left _ ho1, ho2⟩
  · refine e02 (slot_mem hb) fun Z h3 => ?_
    rcases h3 with ⟨h4, _⟩ | ⟨a, h4, hl⟩ <;> cases h4
theorem Rel.leave (R : Rel W c ls h news s) (X : W.K.In c.h₀) (hro : ∀ b vs n, W.ro b = some (vs, n) → c.h₀.get? b = some n) {A' : Around} {env : Env} {locs : List Str} {ex : List Addr} {gh : Heap} {L' d' : Nat} {m : Str → Option Value} {ls' : Ls} {h₂ : Hp} {n₁ n₂ : News'} {s₂ : Shared} (L : LocR W c (Fx W c h news) news m ls)
    (hst : Stab (Fx W c h news) (Fx W (c.call A' env gh L' locs ex d') h n₁)) (R₂ : Rel W (c.call A' env gh L' locs ex d') ls' h₂ n₂ s₂) (st₂ : Stab (Fx W (c.call A' env gh L' locs ex d') h n₁) (Fx W (c.call A' env gh L' locs ex d') h₂ n₂))
    (hg : ∀ b o, (b, o) ∈ news → b ∈ c.ex → gh.get? b = some o) (F : Fr c.h₀ c.L s₂.heap m) (N : News c.h₀ c.L s₂.heap n₂) :
    Rel W c ls h₂ (news.filter (fun p => c.ex.contains p.1) ++ n₂) s₂ ∧ Stab (Fx W (c.call A' env gh L' locs ex d') h₂ n₂) (Fx W c h₂ (news.filter (fun p => c.ex.contains p.1) ++ n₂)) ∧ Stab (Fx W c h news) (Fx W c h₂ (news.filter (fun p => c.ex.contains p.1) ++ n₂)) := by
  have kept : ∀ b o, (b, o) ∈ news → b ∈ c.ex → (b, o) ∈ news.filter (fun p => c.ex.contains p.1) ++ n₂ := fun b o hm hb => List.mem_append_left _ (List.mem_filter.mpr ⟨hm, by simpa using hb⟩)
  have notex : ∀ b o, (b, o) ∈ n₂ → b ∉ c.ex := fun b o hm hb => by
    obtain ⟨_, o', hm'⟩ := R.ex b hb
    have h1 : gh.get? b = some o' := hg b o' hm' hb
    have h2 : gh.get? b = none := (R₂.nw _ hm).2.2
    rw [h1] at h2; cases h2
  have hst2 : Stab (Fx W (c.call A' env gh L' locs ex d') h₂ n₂) (Fx W c h₂ (news.filter (fun p => c.ex.contains p.1) ++ n₂)) := fun b y hy => hy.imp (fun z => e03 z fun p q Z => ⟨List.mem_append_right _ p, q, notex _ _ p⟩) id
  have hall : Stab (Fx W c h news) (Fx W c h₂ (news.filter (fun p => c.ex.contains p.1) ++ n₂)) := (hst.trans st₂).trans hst2
  refine ⟨⟨⟨m, F, fun i y sl v h1 h2 => ?_⟩, fun p hp => ?_, fun b y e => ?_, ?_, R₂.dom, fun b hb => ?_, fun y b hb => ?_, R.nx, R₂.gens, R₂.drawn, R₂.os, R₂.hid⟩, hst2, hall⟩
  · refine e12 (L i y sl v h1 h2) fun v' hv hs => ?_
    refine ⟨v', hv.stab hall, ?_⟩
    induction sl using Slot.casesOn with
    | loc => exact hs
    | cell a =>
      refine e12 (hs) fun o ho hd => ?_
      exact ⟨o, kept _ _ ho (R.cl y a (List.mem_of_getElem? h1)).1, hd⟩
    | ns C =>
      refine e23 (hs) fun m' o ho hN hx => ?_
      exact ⟨m', o, kept _ _ ho (R.nx y C (List.mem_of_getElem? h1)), hN, hx⟩
  · rcases List.mem_append.mp hp with hp | hp
    · refine e02 (List.mem_filter.mp hp) fun hp1 hp2 => ?_
      have hp2 : p.1 ∈ c.ex := by simpa using hp2
      have := hg p.1 p.2 hp1 hp2
      refine e12 (R₂.fr) fun m2 F2 Z => ?_
      exact ⟨F2.keep _ _ this, (R.nw p hp1).2⟩
    · exact N p hp
  · exact (R₂.hp b y e).grow (fun Z Z Z => hst2 _ _) (fun Z hp => List.mem_append_right _ hp) (fun Z Z Z hp => List.mem_append_right _ hp) fun Z hz => hz
  · exact R₂.top.imp (fun z => e33 z fun b vs n e1 Z l => ⟨b, vs, n, e1, hro _ _ _ e1, l⟩) fun z => e24 z fun t o hm hl hi Z => ⟨t, o, List.mem_append_right _ hm, hl, hi, notex _ _ hm⟩
  · obtain ⟨_, o, hm⟩ := R.ex b hb
    refine ⟨?_, o, kept _ _ hm hb⟩
    cases q : h₂.get b with
    | none => rfl
    | some y =>
      have : ∃ o, (b, o) ∈ n₂ := by
        cases R₂.hp b y q with
        | ro hr _ _ => have h1 := (R.nw _ hm).2.2; rw [hro _ _ _ hr] at h1; cases h1
        | list hm _ => exact ⟨_, hm⟩
        | dictI hm _ _ _ => exact ⟨_, hm⟩
        | dictS hm _ _ _ => exact ⟨_, hm⟩
        | inst _ hm _ _ _ _ _ => exact ⟨_, hm⟩
        | hid _ hm => exact hm
      refine e11 (this) fun o' hm' => ?_
      exact absurd hb (notex _ _ hm')
  · obtain ⟨e, o, v, hm, hd⟩ := R.cl y b hb
    exact ⟨e, o, v, kept _ _ hm e, hd⟩
noncomputable def hcut (h : Heap) (L : Nat) (l : List Addr) : Heap := hideAll ⟨h.objs.extract 0 L, h.life⟩ l
theorem cut_get {h : Heap} {L b : Nat} : (Heap.mk (h.objs.extract 0 L) h.life).get? b = if b < L then h.get? b else none := by
  unfold Heap.get?
  by_cases hb : b < L
  · rw [if_pos hb]
    have : (h.objs.extract 0 L)[b]? = h.objs[b]? := by
      rw [Array.getElem?_extract]
      simp
      intro hx
      lia
    rw [this]
  · rw [if_neg hb]
    have : (h.objs.extract 0 L)[b]? = none := by
      rw [Array.getElem?_eq_none_iff, Array.size_extract]
      lia
    rw [this]
theorem hcut_of {h : Heap} {L b : Nat} {l : List Addr} {o : Obj} (e : (hcut h L l).get? b = some o) : h.get? b = some o ∧ b < L := by
  have := of_hideAll l e
  rw [cut_get] at this
  split at this
  · exact ⟨this, by assumption⟩
  · cases this
theorem hcut_get {h : Heap} {L b : Nat} {l : List Addr} {o : Obj} (e : h.get? b = some o) (hb : b < L) (hl : b ∉ l) : (hcut h L l).get? b = some o := by
  refine hideAll_get l ?_ hl
  rw [cut_get, if_pos hb]; exact e
theorem hcut_size (h : Heap) (L : Nat) (l : List Addr) : (hcut h L l).objs.size ≤ L := by
  unfold hcut
  rw [hideAll_size, Array.size_extract]
  lia
noncomputable def LocsOk' (names : List (Str × NameKind)) (locs : List Str) : Prop := ∀ x ∈ locs, (names.lookup x = some .local ∧ x ∉ cellNames names) ∨ (names.lookup x = some .cell ∧ x ∈ cellNames names)
theorem kinds {names : List (Str × NameKind)} {locs : List Str} (O : LocsOk' names locs) (n : Nat) {y : Str} (hy : y ∈ locs) :
    ((cellsFrom n names []).lookup y = none → names.lookup y = some .local) ∧ (∀ a, (cellsFrom n names []).lookup y = some a → names.lookup y = some .cell) := by
  rcases O y hy with ⟨e1, e2⟩ | ⟨e1, e2⟩
  · exact ⟨fun Z => e1, fun a ha => none_ne ((look_none (cells_names n names ▸ e2)).symm.trans ha)⟩
  · exact ⟨fun hn => e12 (look_some (cells_names n names ▸ e2)) fun a ha Z => none_ne (hn.symm.trans ha), fun Z Z => e1⟩
theorem env_ok {W : Wd} {c : Cx} {names : List (Str × NameKind)} {locs : List Str} {n : Nat} {glob : List (Str × V)} {nat : List (Str × Nat)} (hs : c.sl = locs.map fun x => (x, slotOf (cellsFrom n names []) x)) (hn : c.env.scope.names = names) (hk : ∀ y, c.env.kindOf y = names.lookup y)
    (hc : c.env.cells = cellsFrom n names []) (hl : c.env.locals = c.L) (O : LocsOk' names locs) (dbg : ∀ x ∈ locs, (x == Mi.dbg) = false) (hg : ∀ x v, lookStr x glob = some v → GlobOk W x v) (hnat : ∀ x n, lookStr x nat = some n → W.tb.nm n = x) : EnvOk W c ⟨locs, names, glob, nat⟩ := by
  refine ⟨⟨[], ?_⟩, hn, fun i y sl Z h => ?_, dbg, hg, hnat⟩
  · rw [hs, List.map_map, List.append_nil]; exact List.map_id _
  · rw [hs] at h
    refine e02 (slot_cases h) fun hyi hsl => ?_
    have K := kinds O n (List.mem_of_getElem? hyi)
    rcases hsl with ⟨rfl, hl'⟩ | ⟨a, rfl, hl'⟩
    · exact ⟨(hk y).trans (K.1 hl'), hl⟩
    · exact ⟨.inl ((hk y).trans (K.2 a hl')), hc ▸ hl'⟩
theorem fr_ok {W : Wd} {c : Cx} {names : List (Str × NameKind)} {locs : List Str} {n : Nat} (hs : c.sl = locs.map fun x => (x, slotOf (cellsFrom n names []) x)) (hk : ∀ y, c.env.kindOf y = names.lookup y) (O : LocsOk' names locs) (nd : locs.Nodup) : FrOk W c := by
  refine ⟨?_, fun y C hm => ?_, fun y a hm => ?_, fun y z a h1 h2 => ?_⟩
  · rw [hs, List.map_map]
    exact (List.map_id locs).symm ▸ nd
  · rw [hs] at hm
    rcases (slot_mem hm).2 with ⟨h4, _⟩ | ⟨a, h4, _⟩ <;> cases h4
  · rw [hs] at hm
    rcases (slot_mem hm).2 with ⟨h4, _⟩ | ⟨b, h4, hl⟩
    · cases h4
    · exact (hk y).trans ((kinds O n (slot_mem hm).1).2 b hl)
  · rw [hs] at h1 h2
    rcases (slot_mem h1).2 with ⟨h5, _⟩ | ⟨a1, h5, l1⟩
    · cases h5
    · rcases (slot_mem h2).2 with ⟨h6, _⟩ | ⟨a2, h6, l2⟩
      · cases h6
      · cases h5
        cases h6
        exact congrArg Prod.fst (cells_inj names n [] (by simp) (by simp) _ (look_mem l1) _ (look_mem l2) rfl)
theorem sub_dfl {a b n : Nat} (h1 : a ≤ n) (h2 : n ≤ a + b) : a + (b - (a + b - n)) = n := by
  refine e11 (Nat.exists_eq_add_of_le h1) fun c e => ?_
  rw [e] at h2 ⊢
  rw [Nat.add_sub_add_left, Nat.sub_sub_self (Nat.le_of_add_le_add_left h2)]
theorem zip_nodup {l : List Str} {ws : List Value} (nd : l.Nodup) (h : l.length ≤ ws.length) : ((l.zip ws).map (·.1)).Nodup := by
  rw [List.map_fst_zip h]; exact nd
theorem bound_local {W : Wd} {F : PF} {locs : List Str} {dfl vs : List V} {dv vs' : List Value} {np nl i : Nat} {v : V} {y : Str} (hn : np ≤ locs.length) (hl1 : vs.length ≤ np) (hl2 : np ≤ vs.length + dfl.length) (hv : VRs W F vs vs') (hd : VRs W F dfl dv)
    (hy : locs[i]? = some y) (h2 : ((vs ++ dfl.drop (vs.length + dfl.length - np)).map some ++ List.replicate (nl - np) none)[i]? = some (some v)) :
    ∃ v', VR W F v v' ∧ (y, v') ∈ (locs.take np).zip (vs' ++ dv.drop (vs'.length + dv.length - (locs.take np).length)) := by
  have hvr := hv.append (hd.drop (vs.length + dfl.length - np))
  have hnl : (locs.take np).length = np := List.length_take_of_le hn
  rw [hnl, ← hv.length, ← hd.length]
  have hlen : (vs ++ dfl.drop (vs.length + dfl.length - np)).length = np := by rw [List.length_append, List.length_drop, sub_dfl hl1 hl2]
  clear hv hd
  revert h2 hvr
  generalize vs ++ dfl.drop (vs.length + dfl.length - np) = us at hlen
  intro h2 hvr
  have hlt : i < np := by
    rcases Nat.lt_or_ge i np with q | q
    · exact q
    · rw [List.getElem?_append_right (by rw [List.length_map, hlen]; exact q), List.getElem?_replicate] at h2
      split at h2 <;> cases h2
  rw [List.getElem?_append_left (by rw [List.length_map, hlen]; exact hlt), List.getElem?_map] at h2
  refine e12 (Option.map_eq_some_iff.mp h2) fun u hq e => ?_
  refine e12 (hvr.get hq) fun v' hv' hr => ⟨v', Option.some.inj e ▸ hr, List.mem_of_getElem? (i := i) ?_⟩
  rw [List.getElem?_zip_eq_some]
  exact ⟨by rw [List.getElem?_take, if_pos hlt]; exact hy, hv'⟩
structure CallOk (W : Wd) (glob : List (Str × V)) (nat : List (Str × Nat)) : Prop where
  ao : AllOk W
  fo : FnsOk W glob nat
noncomputable def Cd (W : Wd) (d : Nat) : Calls := wrapC (callD W.pr d)
theorem dflt_reads {K : Frag} {h : Heap} (X : K.In h) {dV : Value} {dv : List Value} (e : dfltIn K dV = some dv) (M : Model) (A : Around) (E : Value → Shared → Prop) (Q : Option (Array Value) → Shared → Prop) {s : Shared} (hs : s.heap = h) (q : ∀ r, (r.getD #[]).toList = dv → Q r s) :
    wpAny M A (seqItems? dV) Q E s := by
  subst hs
  induction dV using PySem.Value.casesOn with
  | none =>
    cases e
    show wpAny M A (do notAStandIn Value.none; pure none) Q E s
    exact wpAny_bind (wpAny_of_eq (a := ()) rfl (wpAny_pure (q none rfl)))
  | ref T =>
    refine e12 (Option.bind_eq_some_iff.mp (show (K.lookup T).bind seqOf = some dv from e)) fun o hT h2 => ?_
    refine e22 (seqOf_inv h2) fun xs n h3 h4 => ?_
    exact wpAny_seqItems (X _ _ hT) h3 (q _ h4)
  | _ => exact none_ne e
theorem sEnter {glob : List (Str × V)} {nat : List (Str × Nat)} (ok : CallOk W glob nat) {d : Nat} (hC : HC W (Cd W d) d) : ∀ c, Good W c → c.d = d + 1 → CallsOk W (Cd W (d + 1)) c := by
  intro c G hd A' f vs h k ls news s vs' R' hfr hha hde hun hk R hv q
  refine e12 (onSome_inv hk.out) fun fn hfn hk => ?_
  refine e12 (onSome_inv hk) fun ls0 hbind hk => ?_
  refine e11 (ok.fo.fns f fn hfn) fun D O => ?_
  refine e12 (R.fr) fun m F L => ?_
  have X := R.inK G
  unfold bindA at hbind
  split at hbind
  · rename_i hlen
    cases hbind
    refine e03 (hlen) fun hl1 hl2 hl3 => ?_
    have hvl := hv.length
    have hdl := O.dvr.length
    have hnl : (D.locs.take fn.np).length = fn.np := List.length_take_of_le O.np
    have hnd : (D.locs.take fn.np).Nodup := O.nd.sublist (List.take_sublist _ _)
    have hzl : (D.locs.take fn.np).length ≤ (vs' ++ D.dv.drop (vs'.length + D.dv.length - (D.locs.take fn.np).length)).length := by
      rw [hnl, List.length_append, List.length_drop, ← hvl, ← hdl, sub_dfl hl1 hl2]; exact Nat.le_refl _
    have hb := bindsTo_plain (s := s) (fd := fnX D.name D.qual D.params D.body D.scope [] D.dV D.kV D.doc D.pm D.an D.cdv D.ct) (names := D.locs.take fn.np) (vs := vs') (dv := D.dv) O.pos O.kwo O.var O.kwa O.names hnd
      (fun M A E Q hq => dflt_reads X O.dflt M A E Q rfl hq) (by rw [hnl, ← hvl]; exact hl1) (by rw [hnl, ← hvl, ← hdl]; exact hl2) (by rw [hnl]; exact O.dlen)
    have N1 : News c.h₀ c.L s.heap (seen c news) := fun p hp => R.nw p (seen_mem.mp hp).1
    have hmem : ∀ y ∈ (D.locs.take fn.np).zip (vs' ++ D.dv.drop (vs'.length + D.dv.length - (D.locs.take fn.np).length)), y.1 ∈ D.locs := fun y hy => List.mem_of_mem_take (List.of_mem_zip hy).1
    refine callX_cells (A₀ := c.A₀) (base := c.base) (outer := c.outer) (h₀ := c.h₀) (L := c.L) (m := m) (env := c.top) (news := news) (qual := D.qual) (scope := D.scope) (body := D.body) (cdv := D.cdv) G.B F R.nw G.T.nolimit (hfr.trans G.frames) G.frame G.kindT (X _ _ O.at') rfl (codeRec_of X O.code) (by have := G.depth; omega) hb (fun n y hy => ?_) O.cnd (fun g0 L' h₁ tk cells Fg F0 N0 hca B0 hstay0 hlt0 => ?_) O.co O.gen O.kind
    · rcases O.loc _ (hmem y hy) with ⟨e, _⟩ | ⟨e, e2⟩
      · exact .inl e
      · refine .inr ⟨e, ?_⟩
        rw [← cells_names n] at e2
        refine e12 (look_some e2) fun a ha Z => ?_
        rw [ha]; rfl
    · have hsub : ∀ b o, g0.get? b = some o → (hcut h₁ L' ((seen c news).map (·.1))).get? b = some o := fun b o e => by
        refine hcut_get (F0.keep _ _ e) (Nat.lt_of_lt_of_le (Heap.lt_size e) F0.above) fun hm => ?_
        refine e12 (List.mem_map.mp hm) fun p hp eq1 => ?_
        subst eq1
        have := (N0 p (List.mem_append_right _ (seen_mem.mp hp).1)).2.2
        rw [e] at this; cases this
      generalize hgh : hcut h₁ L' ((seen c news).map (·.1)) = gh at hsub
      have hghof : ∀ {b o}, gh.get? b = some o → h₁.get? b = some o ∧ b < L' := fun e => hcut_of (by rw [hgh]; exact e)
      have F' : Fr gh L' h₁ (bindL (envOfC D.qual D.scope L' (W.tb.fnA f) D.cdv).kindOf ((D.locs.take fn.np).zip (vs' ++ D.dv.drop (vs'.length + D.dv.length - (D.locs.take fn.np).length))) fun Z => none) :=
        ⟨F0.ns, fun b o e => (hghof e).1, by rw [← hgh]; exact hcut_size _ _ _⟩
      have hcells : ∀ p ∈ cells, L' < p.1 := fun p hp => by
        refine e11 ((cellsAre_mem hca).2 p hp) fun x hx => ?_
        exact Nat.lt_of_succ_le (cells_low D.scope.names (L' + 1) (L' + 1) [] (Nat.le_refl _) (by simp) _ hx)
      have N' : News gh L' h₁ (cells ++ seen c news) := fun p hp => by
        rcases List.mem_append.mp hp with hp | hp
        · have h0 := N0 p (List.mem_append_left _ hp)
          refine ⟨h0.1, h0.2.1, ?_⟩
          cases q : gh.get? p.1 with
          | none => rfl
          | some o => exact absurd (hghof q).2 (Nat.not_lt.mpr (Nat.le_of_lt (hcells p hp)))
        · have h0 := N0 p (List.mem_append_right _ (seen_mem.mp hp).1)
          refine ⟨h0.1, h0.2.1, ?_⟩
          rw [← hgh]
          exact hideAll_none _ (List.mem_map_of_mem hp)
      have hlt : ∀ p ∈ seen c news, p.1 < L' := fun p hp => hlt0 p (seen_mem.mp hp).1
      have hstay : c.h₀.StaysIn gh := fun b o e => hsub _ _ (hstay0 b o e)
      have B' : Below A' c.base (c.top :: c.outer) gh := ⟨B0.stack, fun b o e => hsub _ _ (B0.stays b o e), B0.frames.of_keeps fun b o e Z => ⟨o, hsub _ _ e, rfl⟩⟩
      have hgk : ∀ b o, (b, o) ∈ news → b ∈ c.ex → gh.get? b = some o := fun b o hm hb => by
        rw [← hgh]
        refine hcut_get (N0 _ (List.mem_append_right _ hm)).1 (hlt0 _ hm) fun hmm => ?_
        refine e12 (List.mem_map.mp hmm) fun p hp eq1 => ?_
        subst eq1
        exact (seen_mem.mp hp).2 hb
      have hznd := zip_nodup hnd (ws := vs' ++ D.dv.drop (vs'.length + D.dv.length - (D.locs.take fn.np).length)) hzl
      obtain ⟨R1, st1⟩ := R.enter (fun b vs n e => hstay _ _ (G.ro b vs n e)) (A' := A') (D := D) (f := W.tb.fnA f) (d' := d) (tk := tk) (ls' := ((vs ++ fn.dfl.drop (vs.length + fn.dfl.length - fn.np)).map some ++ List.replicate (fn.nl - fn.np) none)) F' N' hca hlt (fun i y sl v h1 h2 => by
        refine e02 (slot_cases h1) fun hyi hsl => ?_
        have K := kinds O.loc (L' + 1) (List.mem_of_getElem? hyi)
        refine e12 (bound_local O.np hl1 hl2 hv (O.dvr.stab fun Z Z q => .inr q) hyi h2) fun v' hr hz => ⟨v', hr, ?_⟩
        rcases hsl with ⟨rfl, hl⟩ | ⟨a, rfl, hl⟩
        · exact bindL_at (K.1 hl) hznd hz
        · exact bindC_at (K.2 a hl) hznd hz)
      have G1 : Good W (c.call A' (envOfC D.qual D.scope L' (W.tb.fnA f) D.cdv) gh L' D.locs (cells.map (·.1)) d) := by
        refine ⟨B', fun a o e => hstay _ _ (G.X a o e), G.T.keeps hstay, ?_, rfl, O.kind, O.kind, rfl, rfl, hha, ?_, ?_, G.noImp, fun b vs n e => hstay _ _ (G.ro b vs n e)⟩
        · show (A'.deeper _).frames = _
          exact Around.frames_deeper (hfr.trans G.frames)
        · show A'.depth + 1 + 4 * d + 120 < recursionLimit
          have := G.depth
          omega
        · show A'.units + 3 + 20 * d + 200 < cLine
          have := G.units
          omega
      have O1 : EnvOk W (c.call A' (envOfC D.qual D.scope L' (W.tb.fnA f) D.cdv) gh L' D.locs (cells.map (·.1)) d) ⟨D.locs, D.scope.names, glob, nat⟩ := env_ok rfl rfl (fun Z => rfl) rfl rfl O.loc O.dbg ok.fo.glob ok.fo.nat
      have FO1 : FrOk W (c.call A' (envOfC D.qual D.scope L' (W.tb.fnA f) D.cdv) gh L' D.locs (cells.map (·.1)) d) := fr_ok rfl (fun Z => rfl) O.loc O.nd
      rw [O.body] at hk
      refine sStmts (c := c.call A' (envOfC D.qual D.scope L' (W.tb.fnA f) D.cdv) gh L' D.locs (cells.map (·.1)) d) (sStmt ok.ao hC 30) G1 rfl O1 FO1 R1 hk fun fl fl' ls2 h2 n2 s2 hk2 hf R2 st2 => ?_
      refine e12 (R2.fr) fun m2 F2 L2 => ?_
      refine ⟨L', m2, news.filter (fun p => c.ex.contains p.1) ++ n2, ⟨F2.ns, fun b o e => F2.keep _ _ (hsub _ _ e), F0.above⟩, fun p hp => ?_, fun F3 N3 => ?_⟩
      · rcases List.mem_append.mp hp with hp | hp
        · refine e02 (List.mem_filter.mp hp) fun hp1 hp2 => ?_
          have h0 := N0 p (List.mem_append_right _ hp1)
          exact ⟨F2.keep _ _ (hgk _ _ hp1 (by simpa using hp2)), h0.2⟩
        · have h0 := R2.nw p hp
          refine ⟨h0.1, h0.2.1, ?_⟩
          cases q : g0.get? p.1 with
          | none => rfl
          | some o => have h1 : gh.get? p.1 = none := h0.2.2; rw [hsub _ _ q] at h1; cases h1
      refine e03 (R.leave G.X G.ro L st1 R2 st2 hgk F3 fun p hp => N3 p (List.mem_append_right _ hp)) fun R3 st3 hall => ?_
      induction hf using FlR.casesOn with
      | ret hv => exact q _ _ _ _ _ hk2 (hv.stab st3) R3 hall
      | next => exact q _ _ _ _ _ hk2 .none R3 hall
      | cont => exact hk2.elim
      | brk => exact hk2.elim
  · exact none_ne hbind
end
end
section
open PySem PySem.W PyProof.Rows PySem.Calls
theorem sCalls {W : Wd} {glob : List (Str × V)} {nat : List (Str × Nat)} (ok : CallOk W glob nat) : ∀ d, HC W (Cd W d) d := by
  intro d
  induction d with
  | zero => exact ⟨fun c G hd A' f vs h k ls news s vs' R a b e u hk => hk.out.elim, fun f vs h k hk => hk.out.elim⟩
  | succ d ih =>
    refine ⟨sEnter ok ih, fun f vs h k hk => ?_⟩
    refine e12 (onSome_inv hk.out) fun fn hfn Z => ?_
    refine e11 (ok.fo.fns f fn hfn) fun D O => ?_
    unfold keepIn
    dsimp only
    rw [O.at']
theorem sFrame {W : Wd} {glob : List (Str × V)} {nat : List (Str × Nat)} (ok : CallOk W glob nat) {c : Cx} {d : Nat} {g : Cc} (G : Good W c) (hd : c.d = d) (O : EnvOk W c g) (FO : FrOk W c) {sts : List Stmt} {ls : Ls} {h : Hp} {news : News'} {s : Shared} {k : KS} {Q : Flow → Shared → Prop} {E : Value → Shared → Prop}
    (R : Rel W c ls h news s) (hk : denSs (denS W.pr (Cd W d) 20) (sts.map (cS g 30)) ls h k) (q : PostS W c h news k Q) : wpAny (model W.prog W.w) c.A (execs sts c.env) Q E s :=
  sStmts (sStmt ok.ao (sCalls ok d) 30) G hd O FO R hk q
end
section
set_option maxHeartbeats 0
open PySem
noncomputable def Cl (d : Nat) : Calls := wrapC (callD P d)
noncomputable def Go (p : Prop) : Prop := p
theorem goT {p : Prop} (q : Go p) : Go p := q
theorem gI {p : Prop} (q : Go p) : p := q
section
variable {h : Hp} {a : Nat} {o : O} {k : O → Prop} {p q : Prop} {b : Bool} {x : V}
theorem rdG (g : h.get a = some o) (q : Go (k o)) : RdO h a k := ⟨o, g, q⟩
theorem needG (n : p) (r : Go q) : Need p q := ⟨n, r⟩
theorem andG (n : p) (r : Go q) : p ∧ q := ⟨n, r⟩
theorem somG {α : Type} {x : Option α} {v : α} {k : α → Prop} (e : x = some v) (r : Go (k v)) : Som x k := ⟨v, e, r⟩
theorem valG {k : V → Prop} {v : V} (e : x = v) (r : Go (k v)) : Val x k := ⟨v, e, r⟩
theorem mifI {b : Bool} {t e : Prop} (h : MIf b t e) : MIf b t e := h
theorem mif_t {b : Bool} {t e : Prop} (hb : b = true) (ht : Go t) : MIf b t e := ⟨fun Z => ht, fun q => by rw [hb] at q; cases q⟩
theorem mif_f {b : Bool} {t e : Prop} (hb : b = false) (he : Go e) : MIf b t e := ⟨(fun q => by rw [hb] at q; cases q), fun Z => he⟩
theorem mif_nf {b : Bool} {t e : Prop} (hb : b = true) (he : Go e) : MIf (!b) t e := mif_f (by rw [hb]; rfl) he
theorem mif_nt {b : Bool} {t e : Prop} (hb : b = false) (ht : Go t) : MIf (!b) t e := mif_t (by rw [hb]; rfl) ht
theorem mif_b {b : Bool} {t e : Prop} (ht : b = true → Go t) (he : b = false → Go e) : MIf b t e := ⟨ht, he⟩
theorem mif_dec {p : Prop} {i : Decidable p} {t e : Prop} (ht : p → Go t) (he : ¬p → Go e) : MIf (decide p) t e := ⟨fun q => ht (of_decide_eq_true q), fun q => he (of_decide_eq_false q)⟩
theorem mif_y {p : Prop} {i : Decidable p} {t e : Prop} (hp : p) (ht : Go t) : MIf (decide p) t e := mif_t (decide_eq_true hp) ht
theorem mif_n {p : Prop} {i : Decidable p} {t e : Prop} (hp : ¬p) (he : Go e) : MIf (decide p) t e := mif_f (decide_eq_false hp) he
theorem mif_ny {p : Prop} {i : Decidable p} {t e : Prop} (hp : p) (he : Go e) : MIf (!decide p) t e := mif_f (by rw [decide_eq_true hp]; rfl) he
theorem mif_nn {p : Prop} {i : Decidable p} {t e : Prop} (hp : ¬p) (ht : Go t) : MIf (!decide p) t e := mif_t (by rw [decide_eq_false hp]; rfl) ht
end
@[simp] theorem small_iff {n : Nat} : small n ↔ n ≤ 1000000 := Iff.rfl
theorem ne1 {α : Type} {a b : α} (h : a ≠ b) : a ∉ [b] := fun q => h (List.mem_singleton.mp q)
theorem leL {a b c : Nat} (h : a ≤ b) (e : Nat.ble b c = true) : a ≤ c := Nat.le_trans h (Nat.le_of_ble_eq_true e)
theorem apA {α : Type} {a b : List α} {m n : Nat} (h : a.length ≤ m) (g : b.length ≤ n) : (a ++ b).length ≤ m + n := by rw [List.length_append]; exact Nat.add_le_add h g
theorem apM {α β : Type} {f : α → β} {a : List α} {m : Nat} (h : a.length ≤ m) : (a.map f).length ≤ m := by rw [List.length_map]; exact h
theorem apC {α : Type} {x : α} {a : List α} {m : Nat} (h : a.length ≤ m) : (x :: a).length ≤ m + 1 := Nat.succ_le_succ h
theorem apT {α : Type} {a : List α} {i m : Nat} (h : a.length ≤ m) : (a.take i).length ≤ m := by rw [List.length_take]; exact Nat.le_trans (Nat.min_le_right ..) h
theorem goCall {p : Prop} (q : CallW p) : Go (CallW p) := q
theorem goFr {h : Hp} {o : O} {k : Nat → Hp → Prop} (q : Fr1 h o k) : Go (Fr1 h o k) := q
theorem goFrD {h : Hp} {o : List (V × V)} {k : Nat → Hp → Prop} (q : FrD h o k) : Go (FrD h o k) := q
theorem goIf {b : Bool} {t e : Prop} (q : MIf b t e) : Go (MIf b t e) := q
theorem goMk {P : Pr} {C : Calls} {c : Nat} {vs : List V} {h : Hp} {k : KE} (q : Mk P C c vs h k) : Go (Mk P C c vs h k) := q
theorem goFor {tg : V → Ls → Hp → (Ls → Hp → Prop) → Prop} {body : Ls → Hp → KS → Prop} {s : Src} {vs : List V} {ls : Ls} {h : Hp} {k : KS} (q : For tg body s vs ls h k) : Go (For tg body s vs ls h k) := q
theorem goWhl {te : Ls → Hp → KB → Prop} {body : Ls → Hp → KS → Prop} {ls : Ls} {h : Hp} {k : KS} (q : While te body ls h k) : Go (While te body ls h k) := q
theorem idx_lit {j : Int} {n : Nat} (h1 : decide (0 ≤ j ∧ j < n) = true) (h2 : Nat.ble n 1000000 = true) : 0 ≤ j ∧ j < n ∧ small n :=
  have h := of_decide_eq_true h1
  ⟨h.1, h.2, Nat.le_of_ble_eq_true h2⟩
theorem Hp.set_get_self {h : Hp} {a o} : (h.set a o).get a = some o := if_pos rfl
theorem Hp.add_get_self {h : Hp} {a o} : (h.add a o).get a = some o := if_pos rfl
theorem Hp.set_set {h : Hp} {a o o'} : (h.set a o).set a o' = h.set a o' := by
  unfold Hp.set; congr; funext b; dsimp only; split <;> rfl
theorem enter {d f : Nat} {fn : Fn} {vs : List V} {ls : Ls} {h : Hp} {k : KE} (e : P.fn f = some fn) (b : bindA fn.np fn.dfl vs fn.nl = some ls) (hk : Go (denSs (denS P (Cl d) 20) fn.body ls h (fin k))) : Cl (d + 1) f vs h k := by
  refine ⟨?_⟩
  show stpC P d (callD P d) f vs h k
  unfold stpC
  rw [e]
  show onSome (fun ls => denSs (denS P (wrapC (callD P d)) 20) fn.body ls h (fin k)) (bindA fn.np fn.dfl vs fn.nl)
  rw [b]
  exact hk
noncomputable def isWh (c : Int) : Bool := decide (c = 0 ∨ c = 9 ∨ c = 10 ∨ c = 12 ∨ c = 13 ∨ c = 32)
noncomputable def isDl (c : Int) : Bool := decide (c = 40 ∨ c = 41 ∨ c = 60 ∨ c = 62 ∨ c = 91 ∨ c = 93 ∨ c = 123 ∨ c = 125 ∨ c = 47 ∨ c = 37)
noncomputable def isSg (c : Int) : Bool := decide (c = 91 ∨ c = 93 ∨ c = 123 ∨ c = 125)
theorem inL_int {c : Int} (l : List Int) : inL (.int c) (l.map .int) = some (l.any fun b => decide (b = c)) := by
  induction l with
  | nil => rfl
  | cons b l ih =>
    exact congrArg (Option.map (decide (b = c) || ·)) ih
theorem inL_wh {c : Int} : inL (.int c) [.int 0, .int 9, .int 10, .int 12, .int 13, .int 32] = some (isWh c) := by
  exact (inL_int [0, 9, 10, 12, 13, 32]).trans (congrArg some (by simp [isWh, eq_comm (b := c)]))
theorem inL_dl {c : Int} : inL (.int c) [.int 40, .int 41, .int 60, .int 62, .int 91, .int 93, .int 123, .int 125, .int 47, .int 37] = some (isDl c) := by
  exact (inL_int [40, 41, 60, 62, 91, 93, 123, 125, 47, 37]).trans (congrArg some (by simp [isDl, eq_comm (b := c)]))
theorem inL_sg {c : Int} : inL (.int c) [.int 91, .int 93, .int 123, .int 125] = some (isSg c) := by
  exact (inL_int [91, 93, 123, 125]).trans (congrArg some (by simp [isSg, eq_comm (b := c)]))
theorem inL_lf {c : Int} : inL (.int c) [.int 10, .int 13] = some (decide (c = 10 ∨ c = 13)) := by
  exact (inL_int [10, 13]).trans (congrArg some (by simp [eq_comm (b := c)]))
noncomputable def fk (R : Ls → Hp → Prop) (k : KS) : KS := fun f ls h => match f with
  | .next => R ls h
  | .cont => R ls h
  | .brk => k .next ls h
  | .ret v => k (.ret v) ls h
section
variable {R : Ls → Hp → Prop} {k : KS} {ls : Ls} {h : Hp} {A : Ls → Hp → KS → Prop}
noncomputable def kWb (body : Ls → Hp → KS → Prop) (R : Ls → Hp → Prop) (k : KS) (ls : Ls) : KB := fun b h => MIf b (body ls h (fk R k)) (k .next ls h)
end
theorem whl {test : Ls → Hp → KB → Prop} {body : Ls → Hp → KS → Prop} {ls : Ls} {h : Hp} {k : KS} (I : Nat → Ls → Hp → Prop) (n : Nat) (h0 : I n ls h)
    (st : ∀ (R : Ls → Hp → Prop) n ls h, I n ls h → (∀ m ls h, m < n → I m ls h → R ls h) → test ls h (kWb body R k ls)) : While test body ls h k :=
  ⟨I, n, h0, fun n ls h hI => st (fun ls h => ∃ m, m < n ∧ I m ls h) n ls h hI fun m Z Z hm hI => ⟨m, hm, hI⟩⟩
theorem drop_get {α : Type} {l : List α} {i : Nat} {v : α} {vs : List α} (e : l.drop i = v :: vs) : l[i]? = some v ∧ l.drop (i + 1) = vs := by
  have h1 : (l.drop i)[0]? = some v := by rw [e]; rfl
  have h2 : (l.drop i).drop 1 = vs := by rw [e]; rfl
  rw [List.getElem?_drop] at h1
  rw [List.drop_drop] at h2
  exact ⟨h1, h2⟩
theorem drop_nil {α : Type} {l : List α} {i : Nat} (hi : i ≤ l.length) (e : l.drop i = []) : i = l.length := by
  have := congrArg List.length e
  simp at this; lia
noncomputable def kFb (body : Ls → Hp → KS → Prop) (R : Ls → Hp → Prop) (k : KS) : Ls → Hp → Prop := fun ls h => body ls h (fk R k)
theorem forI {tg : V → Ls → Hp → (Ls → Hp → Prop) → Prop} {body : Ls → Hp → KS → Prop} {s : Src} {all : List V} {ls : Ls} {h : Hp} {k : KS} (I : Nat → Ls → Hp → Prop) (h0 : I 0 ls h)
    (st : ∀ (R : Ls → Hp → Prop) i v ls h, all[i]? = some v → I i ls h → (∀ ls h, I (i + 1) ls h → R ls h) → s.same all h ∧ tg v ls h (kFb body R k)) (en : ∀ n ls h, n = all.length → I n ls h → s.same all h ∧ k .next ls h) : For tg body s all ls h k := by
  refine ⟨?_⟩
  have key : ∀ (vs : List V) (i : Nat) ls h, i ≤ all.length → all.drop i = vs → I i ls h → ForL tg body s all vs ls h k := by
    intro vs
    induction vs with
    | nil => exact fun i ls h hi e hI => en i ls h (drop_nil hi e) hI
    | cons v vs ih =>
      intro i ls h hi e hI
      refine e02 (drop_get e) fun e1 e2 => ?_
      have hlt := (List.getElem?_eq_some_iff.mp e1).1
      exact st (ForL tg body s all vs · · k) i v ls h e1 hI fun ls h hI => ih (i + 1) ls h hlt e2 hI
  exact key all 0 ls h (Nat.zero_le _) rfl h0
theorem for_ {tg : V → Ls → Hp → (Ls → Hp → Prop) → Prop} {body : Ls → Hp → KS → Prop} {s : Src} {all : List V} {ls : Ls} {h : Hp} {k : KS} (I : Nat → Ls → Hp → Prop) (h0 : I 0 ls h)
    (st : ∀ (R : Ls → Hp → Prop) i v ls h, all[i]? = some v → I i ls h → (∀ ls h, I (i + 1) ls h → R ls h) → s.same all h ∧ tg v ls h (kFb body R k)) (en : ∀ ls h, I all.length ls h → s.same all h ∧ k .next ls h) : For tg body s all ls h k :=
  forI I h0 st fun n ls h e hI => en ls h (e ▸ hI)
noncomputable def kCo2 (a : Nat) (R : Hp → Prop) : KE := fun r h => RdO h a (oList fun acc => Need (small acc.length) (R (h.set a (.list (acc ++ [r])))))
noncomputable def kCo1 (d : Ex → Ls → Hp → KE → Prop) (elt : Ex) (sl : Ls) (a : Nat) (R : Hp → Prop) : KB := fun b h => MIf b (d elt sl h (kCo2 a R)) (R h)
theorem compI {d : Ex → Ls → Hp → KE → Prop} {t : Ex → Ls → Hp → KB → Prop} {elt : Ex} {ifs : List Ex} {sl : Ls} {s : Src} {all : List V} {a : Nat} {h : Hp} {k : Hp → Prop} (I : Nat → Hp → Prop) (h0 : I 0 h)
    (st : ∀ (R : Hp → Prop) i v h, all[i]? = some v → I i h → (∀ h, I (i + 1) h → R h) → s.same all h ∧ denIf t ifs (some v :: sl) h (kCo1 d elt (some v :: sl) a R)) (en : ∀ n h, n = all.length → I n h → s.same all h ∧ k h) : Stop (denC d t elt ifs sl s all a all h k) := by
  have key : ∀ (vs : List V) (i : Nat) h, i ≤ all.length → all.drop i = vs → I i h → denC d t elt ifs sl s all a vs h k := by
    intro vs
    induction vs with
    | nil => exact fun i h hi e hI => en i h (drop_nil hi e) hI
    | cons v vs ih =>
      intro i h hi e hI
      refine e02 (drop_get e) fun e1 e2 => ?_
      have hlt := (List.getElem?_eq_some_iff.mp e1).1
      exact st (denC d t elt ifs sl s all a vs · k) i v h e1 hI fun h hI => ih (i + 1) h hlt e2 hI
  exact ⟨key all 0 h (Nat.zero_le _) rfl h0⟩
theorem comp {d : Ex → Ls → Hp → KE → Prop} {t : Ex → Ls → Hp → KB → Prop} {elt : Ex} {ifs : List Ex} {sl : Ls} {s : Src} {all : List V} {a : Nat} {h : Hp} {k : Hp → Prop} (I : Nat → Hp → Prop) (h0 : I 0 h)
    (st : ∀ (R : Hp → Prop) i v h, all[i]? = some v → I i h → (∀ h, I (i + 1) h → R h) → s.same all h ∧ denIf t ifs (some v :: sl) h (kCo1 d elt (some v :: sl) a R)) (en : ∀ h, I all.length h → s.same all h ∧ k h) : Stop (denC d t elt ifs sl s all a all h k) :=
  compI I h0 st fun n h e hI => en h (e ▸ hI)
noncomputable def kCd3 (a : Nat) (kv : V) (R : Hp → Prop) : KE := fun b h => onStr (fun x => RdO h a (oDict fun acc => Need ((∀ i v r, acc ≠ (.int i, v) :: r) ∧ small acc.length) (∀ ep, R (h.set a (.dict ep (putS x b acc)))))) kv
noncomputable def kCd2 (d : Ex → Ls → Hp → KE → Prop) (ve : Ex) (sl : Ls) (a : Nat) (R : Hp → Prop) : KE := fun kv h => d ve sl h (kCd3 a kv R)
noncomputable def kCd1 (d : Ex → Ls → Hp → KE → Prop) (ke ve : Ex) (sl : Ls) (a : Nat) (R : Hp → Prop) : KB := fun b h => MIf b (d ke sl h (kCd2 d ve sl a R)) (R h)
theorem denD_cons' {d : Ex → Ls → Hp → KE → Prop} {t : Ex → Ls → Hp → KB → Prop} {ke ve : Ex} {ifs : List Ex} {sl : Ls} {s : Src} {all vs : List V} {v : V} {a : Nat} {h : Hp} {k : Hp → Prop}
    (h1 : s.same all h) (h2 : denIf t ifs (some v :: sl) h (kCd1 d ke ve (some v :: sl) a (fun h => denD d t ke ve ifs sl s all a vs h k))) : denD d t ke ve ifs sl s all a (v :: vs) h k := ⟨h1, h2⟩
theorem denD_nil' {d : Ex → Ls → Hp → KE → Prop} {t : Ex → Ls → Hp → KB → Prop} {ke ve : Ex} {ifs : List Ex} {sl : Ls} {s : Src} {all : List V} {a : Nat} {h : Hp} {k : Hp → Prop}
    (h1 : s.same all h) (h2 : k h) : denD d t ke ve ifs sl s all a [] h k := ⟨h1, h2⟩
noncomputable def cur (D : List Nat) (p : Nat) : O := .inst 147 [.bytes D, .int p, .int D.length]
section
variable {S T : List Nat} {h h' h₁ h₂ : Hp} {a b : Nat} {o o' : O}
theorem add_get_ne (hn : b ≠ a) : (h.add a o).get b = h.get b := if_neg hn
theorem set_get_ne (hn : b ≠ a) : (h.set a o).get b = h.get b := if_neg hn
end
structure Ext (S : List Nat) (h h' : Hp) : Prop where
  top : h.top ≤ h'.top
  get : ∀ b, b < h.top → b ∉ S → h'.get b = h.get b
abbrev Lv (h : Hp) (a : Nat) (o : O) : Prop := h.get a = some o ∧ a < h.top
theorem Lv.get {h a o} (l : Lv h a o) : h.get a = some o := l.1
theorem Lv.lt {h a o} (l : Lv h a o) : a < h.top := l.2
section
variable {S T : List Nat} {h h' h₁ h₂ : Hp} {a b : Nat} {o o' : O}
theorem Ext.refl : Ext S h h := ⟨Nat.le_refl _, fun Z Z Z => rfl⟩
theorem Ext.sub (e : Ext S h h') (s : S ⊆ T) : Ext T h h' := ⟨e.top, fun b hb hn => e.get b hb fun q => hn (s q)⟩
theorem Ext.trans (e : Ext S h h₁) (f : Ext S h₁ h₂) : Ext S h h₂ := ⟨Nat.le_trans e.top f.top, fun b hb hn => (f.get b (Nat.lt_of_lt_of_le hb e.top) hn).trans (e.get b hb hn)⟩
theorem Ext.new (e : Ext (a :: S) h h') (ha : h.top ≤ a) : Ext S h h' := ⟨e.top, fun b hb hn => e.get b hb (by
  intro q
  rcases List.mem_cons.mp q with rfl | q
  · lia
  · exact hn q)⟩
theorem Ext.set (ha : a ∈ S) : Ext S h (h.set a o) := ⟨Nat.le_refl _, fun b Z hn => if_neg fun q => hn (by rw [q]; exact ha)⟩
theorem Ext.setN (e : Ext S h h') (ha : h.top ≤ a) : Ext S h (h'.set a o) := ⟨e.top, fun b hb hn => (if_neg (by lia)).trans (e.get b hb hn)⟩
theorem Ext.tr0 (e : Ext S h h₁) (f : Ext [] h₁ h₂) : Ext S h h₂ := e.trans (f.sub (by simp))
theorem Ext.add (ha : h.top ≤ a) : Ext S h (h.add a o) := ⟨Nat.le_succ_of_le ha, fun b hb Z => if_neg (by lia)⟩
theorem Lv.ext (l : Lv h a o) (e : Ext S h h') (hn : a ∉ S) : Lv h' a o := ⟨(e.get a l.lt hn).trans l.get, Nat.lt_of_lt_of_le l.lt e.top⟩
theorem Lv.ext0 (l : Lv h a o) (e : Ext [] h h') : Lv h' a o := l.ext e (by simp)
theorem Lv.set (l : Lv h a o) : Lv (h.set a o') a o' := ⟨if_pos rfl, l.lt⟩
theorem Lv.set_ne (l : Lv h b o) (hn : b ≠ a) : Lv (h.set a o') b o := ⟨(if_neg hn).trans l.get, l.lt⟩
theorem Lv.add : Lv (h.add a o) a o := ⟨if_pos rfl, Nat.lt_succ_self a⟩
theorem Lv.ne (l : Lv h b o) (ha : h.top ≤ a) : b ≠ a := by have := l.lt; lia
end
theorem denC_cons' {d : Ex → Ls → Hp → KE → Prop} {t : Ex → Ls → Hp → KB → Prop} {elt : Ex} {ifs : List Ex} {sl : Ls} {s : Src} {all vs : List V} {v : V} {a : Nat} {h : Hp} {k : Hp → Prop}
    (h1 : s.same all h) (h2 : denIf t ifs (some v :: sl) h (kCo1 d elt (some v :: sl) a (fun h => denC d t elt ifs sl s all a vs h k))) : denC d t elt ifs sl s all a (v :: vs) h k := ⟨h1, h2⟩
theorem forL_cons {tg : V → Ls → Hp → (Ls → Hp → Prop) → Prop} {body : Ls → Hp → KS → Prop} {s : Src} {all vs : List V} {v : V} {ls : Ls} {h : Hp} {k : KS} (h1 : s.same all h) (h2 : tg v ls h (kFb body (fun ls h => ForL tg body s all vs ls h k) k)) : ForL tg body s all (v :: vs) ls h k := ⟨h1, h2⟩
theorem putS_ne {x y : List Nat} {v u : V} {r : List (V × V)} (h : eqL x y = false) : putS x v ((.str y, u) :: r) = (.str y, u) :: putS x v r := by
  exact congrArg (cond · ((V.str y, v) :: r) ((V.str y, u) :: putS x v r)) h
theorem eqL_self {x : List Nat} : eqL x x = true := by simp [eqL_iff]
theorem strD {x : List Nat} {u : V} {es : List (V × V)} : (∀ (i : Int) (v : V) (r : List (V × V)), (V.str x, u) :: es ≠ (.int i, v) :: r) := fun i v r e => by cases e
theorem nilD : (∀ (i : Int) (v : V) (r : List (V × V)), [] ≠ (V.int i, v) :: r) := fun i v r e => by cases e
theorem strN {x : List Nat} {u : V} {es : List (V × V)} (h : Nat.ble ((V.str x, u) :: es).length 1000000 = true) : (∀ (i : Int) (v : V) (r : List (V × V)), (V.str x, u) :: es ≠ (.int i, v) :: r) ∧ small ((V.str x, u) :: es).length := ⟨strD, Nat.le_of_ble_eq_true h⟩
theorem nilN : (∀ (i : Int) (v : V) (r : List (V × V)), [] ≠ (V.int i, v) :: r) ∧ small ([] : List (V × V)).length := ⟨nilD, Nat.zero_le _⟩
theorem fr1 {h : Hp} {o : O} {q : Nat → Hp → Prop} (hq : ∀ a h', Ext [] h h' → h.top ≤ a → Lv h' a o → Go (q a h')) : Fr1 h o q :=
  ⟨⟨fun a ha => hq a _ (Ext.add ha) ha Lv.add⟩⟩
theorem frD {h : Hp} {l : List (V × V)} {q : Nat → Hp → Prop} (hq : ∀ a ep h', Ext [] h h' → h.top ≤ a → Lv h' a (.dict ep l) → Go (q a h')) : FrD h l q :=
  ⟨⟨fun a ha ep => hq a ep _ (Ext.add ha) ha Lv.add⟩⟩
theorem inL_03 {c : Int} : inL (.int c) [.int 0, .int 3] = some (decide (c = 0 ∨ c = 3)) := by
  exact (inL_int [0, 3]).trans (congrArg some (by simp [eq_comm (b := c)]))
theorem meqT {p : Prop} {q : Bool → Prop} (hp : p) (r : Go (q true)) : MEq p q := ⟨fun b hb => by rw [hb.mpr hp]; exact r⟩
local macro_rules | `(tactic| walk_at "r") => `(tactic| with_reducible first | assumption | exact Lv.get (by assumption) | exact Hp.set_get_self | exact (set_get_ne (by assumption)).trans (by walk_at "r"))
local macro_rules | `(tactic| walk_at "d") => `(tactic| first | with_reducible assumption | exact Nat.le_of_ble_eq_true rfl | lia | omega | exact idx_lit (by with_unfolding_all rfl) (by with_unfolding_all rfl) | (simp only [small, List.length_cons, List.length_nil, List.length_append, and_true, true_and]; first | lia | omega) | decide | exact strD | exact strN rfl | exact nilN)
local macro_rules | `(tactic| walk_at "v") => `(tactic| first | (with_reducible first | assumption | exact inL_wh | exact inL_dl | exact inL_sg | exact inL_lf | exact inL_03 | exact List.getLast?_singleton) | assumption | with_unfolding_all rfl)
local macro_rules | `(tactic| walk_at "o") => `(tactic| focus first | lia | omega | (dsimp only; first | done | lia | omega))
local macro_rules | `(tactic| walk_at "q") => `(tactic| focus first | assumption | with_unfolding_all rfl)
local macro_rules | `(tactic| walk_at "m") => `(tactic| first | (apply mif_y; walk_at "o") | (apply mif_n; walk_at "o") | (apply mif_ny; walk_at "o") | (apply mif_nn; walk_at "o") | (apply mif_t; walk_at "q") | (apply mif_f; walk_at "q") | (apply mif_nf; walk_at "q") | (apply mif_nt; walk_at "q"))
local macro_rules | `(tactic| walk_at "s") => `(tactic| first | (apply rdG; focus walk_at "r") | (apply needG; focus walk_at "d") | (apply somG; focus walk_at "v") | (apply mifI; walk_at "m") | (apply andG; exact trivial))
local macro_rules | `(tactic| walk_at "x") => `(tactic| ((with_reducible apply goT); first | apply goCall | apply goIf | apply goFr | apply goFor | apply goWhl | apply goFrD | apply goMk | conv => whnf))
local macro_rules | `(tactic| walk_at "g") => `(tactic| ((first | ((with_reducible apply andG); exact trivial) | refine gI ?_); repeat' (first | walk_at "s" | (walk_at "x"; try with_reducible assumption))))
section
structure Sf (D : List Nat) (p : Nat) (r : List Nat) : Prop where
  drop : D.drop p = r
  len : p + r.length = D.length
theorem Sf.app {D p w r} (s : Sf D p (w ++ r)) : Sf D (p + w.length) r := by
  obtain ⟨h1, h2⟩ := s
  refine ⟨?_, by simp at h2; lia⟩
  rw [← List.drop_drop, h1]; simp
theorem Sf.tl {D p c r} (s : Sf D p (c :: r)) : Sf D (p + 1) r := s.app (w := [c])
theorem Sf.hd {D p c r} (s : Sf D p (c :: r)) : D.getD p 0 = c := by
  have := congrArg (fun l => l.getD 0 0) s.drop
  simpa using this
theorem Sf.lt {D p c r} (s : Sf D p (c :: r)) : p < D.length := by have := s.len; simp at this; lia
theorem Sf.cut {D p w r} (s : Sf D p (w ++ r)) : cut D p (p + w.length) = w := by
  unfold Mi.cut
  rw [List.drop_take, s.drop]
  simp
noncomputable def hd (r : List Nat) : Int := match r with
  | [] => -1
  | c :: _ => c
theorem Hp.set_same {h : Hp} {a : Nat} {o : O} (e : h.get a = some o) : h.set a o = h := by
  unfold Hp.set
  cases h with
  | mk g t =>
    congr
    funext b
    dsimp only
    split
    · rename_i q; rw [q]; exact e.symm
    · rfl
section
variable {d : Nat} {h : Hp} {a : Nat} {D : List Nat} {p : Nat} {r w : List Nat} {c : Nat} {k : KE}
noncomputable def isReg (c : Int) : Bool := decide (0 ≤ c) && !isWh c && !isDl c
theorem w37 {c : Int} (q : k (.bool (isReg c)) h) : Cl (d + 1) 37 [.int c] h k := by
  refine enter (fn := f37) (ls := [some (.int c)]) rfl rfl ?_
  unfold isReg at q
  walk_at "g"
  refine mif_dec (fun t => ?_) fun t => ?_
  · walk_at "g"
    refine mif_b (fun e => ?_) fun e => ?_
    · walk_at "g"
      simpa [t, e] using q
    · walk_at "g"
      simpa [t, e] using q
  · walk_at "g"
    simpa [t] using q
noncomputable def isFig (c : Int) : Bool := decide (48 ≤ c ∧ c ≤ 57)
theorem w44 {c : Int} (q : k (.bool (isFig c)) h) : Cl (d + 1) 44 [.int c] h k := by
  refine enter (fn := f44) (ls := [some (.int c)]) rfl rfl ?_
  unfold isFig at q
  walk_at "g"
  refine mif_dec (fun t => ?_) fun t => ?_
  · walk_at "g"
    simpa [t] using q
  · walk_at "g"
    simpa [t] using q
theorem w74 (hc : h.get a = some (cur D p)) (s : Sf D p r) (hs : D.length ≤ 1000000) (q : k (.int (hd r)) h) : Cl (d + 1) 74 [.ref a] h k := by
  refine enter (fn := f74) (ls := [some (.ref a), some (.int 0), none]) rfl rfl ?_
  have hl := s.len
  induction r using List.casesOn with
  | nil =>
    simp only [List.length_nil] at hl
    walk_at "g"
    exact q
  | cons c r =>
    have h1 := s.hd
    simp only [List.length_cons] at hl
    walk_at "g"
    rw [Int.add_zero, Int.toNat_natCast, h1]
    exact q
theorem w81 (hc : h.get a = some (cur D p)) (s : Sf D p (c :: r)) (hs : D.length ≤ 1000000) (q : k (.int c) (h.set a (cur D (p + 1)))) : Cl (d + 1) 81 [.ref a] h k := by
  refine enter (fn := f81) (ls := [some (.ref a), none]) rfl rfl ?_
  have h1 := s.hd
  have := s.lt
  walk_at "g"
  rw [Int.toNat_natCast, h1]
  exact q
theorem take_len {w : List Nat} {r : List Nat} (hl : r.length < w.length) : eqL (r.take w.length) w = false := by
  rw [eqL_iff, decide_eq_false_iff_not]
  intro e
  have := congrArg List.length e
  simp at this; lia
theorem w88 (hc : h.get a = some (cur D p)) (s : Sf D p r) (hs : D.length ≤ 1000000) (hw : w.length ≤ 1000000) (q : k (.bool (eqL (r.take w.length) w)) h) : Cl (d + 1) 88 [.ref a, .bytes w] h k := by
  refine enter (fn := f88) (ls := [some (.ref a), some (.bytes w)]) rfl rfl ?_
  have hl := s.len
  walk_at "g"
  refine mif_dec (fun t => ?_) fun t => ?_
  · walk_at "g"
    have : cut D p (p + w.length) = r.take w.length := by
      unfold cut
      rw [List.drop_take, s.drop]
      simp
    have e : ((p : Int) + (w.length : Int)).toNat = p + w.length := by lia
    rw [e, Int.toNat_natCast, this]
    exact q
  · rw [take_len (by lia)] at q
    walk_at "g"
    rw [decide_eq_false t]
    exact q
theorem w95y (hc : h.get a = some (cur D p)) (s : Sf D p (w ++ r)) (hs : D.length ≤ 1000000) (q : k (.bool true) (h.set a (cur D (p + w.length)))) : Cl (d + 2) 95 [.ref a, .bytes w] h k := by
  refine enter (fn := f95) (ls := [some (.ref a), some (.bytes w)]) rfl rfl ?_
  have hl := s.len
  simp only [List.length_append] at hl
  walk_at "g"
  refine w88 hc s hs (by omega) ?_
  have : eqL ((w ++ r).take w.length) w = true := by rw [eqL_iff]; simp
  rw [this]
  walk_at "g"
  exact q
theorem w95n (hc : h.get a = some (cur D p)) (s : Sf D p r) (hs : D.length ≤ 1000000) (hw : w.length ≤ 1000000) (hn : eqL (r.take w.length) w = false) (q : k (.bool false) h) : Cl (d + 2) 95 [.ref a, .bytes w] h k := by
  refine enter (fn := f95) (ls := [some (.ref a), some (.bytes w)]) rfl rfl ?_
  walk_at "g"
  refine w88 hc s hs hw ?_
  rw [hn]
  walk_at "g"
theorem w102 {ws : List Nat} (hc : h.get a = some (cur D p)) (s : Sf D p (ws ++ r)) (hs : D.length ≤ 1000000) (hw : ∀ c ∈ ws, isWh c = true) (hr : isWh (hd r) = false) (hr2 : hd r ≠ 37) (q : k .none (h.set a (cur D (p + ws.length)))) : Cl (d + 1) 102 [.ref a] h k := by
  refine enter (fn := f102) (ls := [some (.ref a), none]) rfl rfl ?_
  walk_at "g"
  have hl := s.len
  simp only [List.length_append] at hl
  refine whl (fun n ls h' => ∃ i x, n + i = ws.length ∧ ls = [some (.ref a), x] ∧ h' = h.set a (cur D (p + i))) ws.length ⟨0, none, by simp, rfl, (Hp.set_same hc).symm⟩ ?_
  intro R n ls h' hI hR
  refine e23 hI fun i x hn eq1 => ?_
  clear hI
  subst eq1
  intro eq2
  subst eq2
  have s' : Sf D (p + i) (ws.drop i ++ r) := by
    have := s
    rw [← List.take_append_drop i ws, List.append_assoc] at this
    have := this.app
    simpa [show min i ws.length = i by lia] using this
  by_cases hi : i < ws.length
  · obtain ⟨c, hcd⟩ : ∃ c, ws[i]? = some c := ⟨_, List.getElem?_eq_getElem hi⟩
    have hcw := hw c (List.mem_of_getElem? hcd)
    have s2 : Sf D (p + i) (c :: (ws.drop (i + 1) ++ r)) := by
      rw [List.drop_eq_getElem_cons hi] at s'
      rw [List.getElem?_eq_getElem hi] at hcd
      cases hcd
      exact s'
    have h1 := s2.hd
    have h2 := s2.lt
    have hne : (c : Int) ≠ 37 := by rintro e; rw [e] at hcw; cases hcw
    walk_at "g"
    rw [Int.toNat_natCast, h1]
    walk_at "g"
    refine hR (n - 1) _ _ (by lia) ⟨i + 1, _, by lia, rfl, Hp.set_set⟩
  · have hi : i = ws.length := by lia
    subst hi
    rw [List.drop_length, List.nil_append] at s'
    induction r using List.casesOn with
    | nil =>
      have := s'.len
      simp only [List.length_nil] at this
      walk_at "g"
    | cons c r =>
      have h1 := s'.hd
      have h2 := s'.lt
      simp only [hd] at hr hr2
      walk_at "g"
      rw [Int.toNat_natCast, h1]
      walk_at "g"
theorem Sf.at {ws : List Nat} (s : Sf D p (ws ++ r)) {i : Nat} (hi : i < ws.length) : ∃ c, ws[i]? = some c ∧ Sf D (p + i) (c :: (ws.drop (i + 1) ++ r)) := by
  refine ⟨_, List.getElem?_eq_getElem hi, ?_⟩
  rw [← List.cons_append, ← List.drop_eq_getElem_cons hi]
  rw [← List.take_append_drop i ws, List.append_assoc] at s
  have := s.app
  simpa [show min i ws.length = i by lia] using this
theorem w109 (hc : h.get a = some (cur D p)) (s : Sf D p (w ++ r)) (hs : D.length ≤ 1000000) (hw : ∀ c ∈ w, isReg c = true) (hr : isReg (hd r) = false) (q : k (.bytes w) (h.set a (cur D (p + w.length)))) : Cl (d + 2) 109 [.ref a] h k := by
  refine enter (fn := f109) (ls := [some (.ref a), none]) rfl rfl ?_
  have hl := s.len
  simp only [List.length_append] at hl
  walk_at "g"
  refine whl (fun n ls h' => ∃ i, n + i = w.length ∧ ls = [some (.ref a), some (.int p)] ∧ h' = h.set a (cur D (p + i))) w.length ⟨0, by simp, rfl, (Hp.set_same hc).symm⟩ ?_
  intro R n ls h' hI hR
  refine e13 hI fun i hn eq1 => ?_
  clear hI
  subst eq1
  intro eq2
  subst eq2
  by_cases hi : i < w.length
  · refine e12 (s.at hi) fun c hcd s2 => ?_
    have hcw := hw c (List.mem_of_getElem? hcd)
    have h1 := s2.hd
    have h2 := s2.lt
    walk_at "g"
    rw [Int.toNat_natCast, h1]
    refine w37 ?_
    rw [hcw]
    walk_at "g"
    refine hR (n - 1) _ _ (by lia) ⟨i + 1, by lia, rfl, Hp.set_set⟩
  · have hi : i = w.length := by lia
    subst hi
    have s' := s.app
    have hcut := s.cut
    induction r using List.casesOn with
    | nil =>
      have := s'.len
      simp only [List.length_nil] at this
      walk_at "g"
      rw [Int.toNat_natCast, Int.toNat_natCast, hcut]
      exact q
    | cons c r =>
      have h1 := s'.hd
      have h2 := s'.lt
      simp only [hd] at hr
      walk_at "g"
      rw [Int.toNat_natCast, h1]
      refine w37 ?_
      rw [hr]
      walk_at "g"
      rw [Int.toNat_natCast, Int.toNat_natCast, hcut]
      exact q
theorem w116y (hc : h.get a = some (cur D p)) (s : Sf D p (10 :: r)) (hs : D.length ≤ 1000000) (q : k (.bool true) (h.set a (cur D (p + 1)))) : Cl (d + 2) 116 [.ref a] h k := by
  refine enter (fn := f116) (ls := [some (.ref a)]) rfl rfl ?_
  walk_at "g"
  refine w74 hc s hs ?_
  simp only [hd]
  walk_at "g"
  refine w74 hc s hs ?_
  simp only [hd]
  walk_at "g"
  exact q
noncomputable def dv (l : List Nat) : Int := l.foldl (fun (n : Int) (c : Nat) => n * 10 + c - 48) 0
theorem dv_snoc (l : List Nat) (c : Nat) : dv (l ++ [c]) = dv l * 10 + c - 48 := by simp [dv]
theorem dv_acc : ∀ (l : List Nat) (a : Int), (∀ c ∈ l, isFig (c : Int) = true) → 0 ≤ a → 0 ≤ l.foldl (fun (n : Int) (c : Nat) => n * 10 + c - 48) a ∧ l.foldl (fun (n : Int) (c : Nat) => n * 10 + c - 48) a < (a + 1) * 10 ^ l.length := by
  intro L0
  induction L0 with
  | nil => exact fun a Z h => by simp; lia
  | cons c l ih =>
    intro a hf h
    have h2 := hf c (by simp)
    simp only [isFig, decide_eq_true_eq] at h2
    refine e02 (ih (a * 10 + c - 48) (fun c hc => hf c (by simp [hc])) (by lia)) fun h3 h4 => ?_
    refine ⟨h3, Int.lt_of_lt_of_le h4 ?_⟩
    rw [List.length_cons, Int.pow_succ, Int.mul_comm (10 ^ l.length) 10, ← Int.mul_assoc]
    exact Int.mul_le_mul_of_nonneg_right (by lia) (Int.pow_nonneg (by decide))
theorem dv_nonneg (l : List Nat) (h : ∀ c ∈ l, isFig (c : Int) = true) : 0 ≤ dv l ∧ dv l < 10 ^ l.length := by
  have := dv_acc l 0 h (by decide)
  simpa [dv] using this
theorem take_snoc {l : List Nat} {i c : Nat} (e : l[i]? = some c) : l.take (i + 1) = l.take i ++ [c] := by
  rw [List.take_add_one, e]; rfl
theorem w130 (hc : h.get a = some (cur D p)) (s : Sf D p (w ++ r)) (hs : D.length ≤ 1000000) (hw : ∀ c ∈ w, isFig c = true) (h0 : 0 < w.length) (h20 : w.length ≤ 18) (hr : isFig (hd r) = false) (q : k (.int (dv w)) (h.set a (cur D (p + w.length)))) : Cl (d + 2) 130 [.ref a] h k := by
  refine enter (fn := f130) (ls := [some (.ref a), none, none]) rfl rfl ?_
  have hl := s.len
  simp only [List.length_append] at hl
  walk_at "g"
  refine whl (fun n ls h' => ∃ i, n + i = w.length ∧ ls = [some (.ref a), some (.int p), some (.int (dv (w.take i)))] ∧ h' = h.set a (cur D (p + i))) w.length ⟨0, by simp, rfl, (Hp.set_same hc).symm⟩ ?_
  intro R n ls h' hI hR
  refine e13 hI fun i hn eq1 => ?_
  clear hI
  subst eq1
  intro eq2
  subst eq2
  by_cases hi : i < w.length
  · refine e12 (s.at hi) fun c hcd s2 => ?_
    have hcw := hw c (List.mem_of_getElem? hcd)
    have h1 := s2.hd
    have h2 := s2.lt
    walk_at "g"
    refine w74 Hp.set_get_self s2 hs ?_
    refine w44 (c := (c : Int)) ?_
    rw [hcw]
    have hdv := dv_nonneg (w.take i) fun c hc => hw c (List.mem_of_mem_take hc)
    have hpw : (10 : Int) ^ (w.take i).length ≤ 10 ^ 18 := by
      have : (10 : Nat) ^ (w.take i).length ≤ 10 ^ 18 := Nat.pow_le_pow_right (by decide) (by simp; lia)
      exact_mod_cast this
    have hb : (dv (w.take i)).natAbs < 2 ^ 62 := by lia
    walk_at "g"
    refine w81 Hp.set_get_self s2 hs ?_
    walk_at "g"
    refine hR (n - 1) _ _ (by lia) ⟨i + 1, by lia, ?_, Hp.set_set⟩
    rw [take_snoc hcd, dv_snoc]
    rfl
  · have hi : i = w.length := by lia
    subst hi
    have s' := s.app
    walk_at "g"
    refine w74 Hp.set_get_self s' hs ?_
    refine w44 ?_
    rw [hr]
    rw [List.take_length]
    walk_at "g"
end
end
section
section
variable {d : Nat} {h : Hp} {a : Nat} {D : List Nat} {p : Nat} {r w : List Nat} {c : Nat} {k : KE} {v v2 v3 : V} {ci : Ci} {vs fs : List V}
noncomputable def kMk (a : Nat) (k : KE) : KE := fun r h => onNone (k (.ref a) h) r
theorem mkM (e : P.ci c = some ci) (hf : ci.frozen = false) (st : ∀ a h1, Ext [] h h1 → h.top ≤ a → Lv h1 a (.inst c []) → Cl (d + 1) ci.init (.ref a :: vs) h1 (kMk a k)) : Mk P (Cl (d + 1)) c vs h k := by
  refine ⟨?_⟩
  rw [e]
  intro e a hd ha
  have : mkK ci c e a h k = kMk a k := by
    unfold mkK kMk
    rw [hf]
  rw [this]
  exact st _ _ ((Ext.add hd).trans (Ext.add (by show e + 1 ≤ a; lia))) (by lia) Lv.add
theorem mkF (e : P.ci c = some ci) (hf : ci.frozen = true) (hl : fs.length = ci.flds.length) (st : ∀ a h1 (K : KE), Lv h1 a (.inst c []) → K .none (h1.set a (.inst c fs)) → Cl (d + 1) ci.init (.ref a :: vs) h1 K)
    (q : ∀ h', Ext [] h h' → k (.obj c fs) h') : Mk P (Cl (d + 1)) c vs h k := by
  refine ⟨?_⟩
  rw [e]
  intro e a hd ha
  refine st a _ _ Lv.add ?_
  unfold mkK
  rw [hf]
  have he : e ≠ a := by lia
  refine rdG Hp.set_get_self ⟨⟨rfl, hl, ?_, fun b h1 h2 => ?_⟩, q _ ⟨by show h.top ≤ a + 1; lia, fun Z Z Z => rfl⟩⟩
  · rw [set_get_ne he, add_get_ne he]; exact Hp.add_get_self
  · rw [set_get_ne h1, add_get_ne h1, add_get_ne h2]
theorem mk147 (q : ∀ a h', Ext [] h h' → h.top ≤ a → Lv h' a (cur D p) → k (.ref a) h') (hs : D.length ≤ 1000000) : Mk P (Cl (d + 1)) 147 [.bytes D, .int p] h k := by
  refine mkM (ci := c147) rfl rfl fun a h1 e1 g1 l1 => ?_
  refine enter (fn := f59) (ls := [some (.ref a), some (.bytes D), some (.int p), some (.int (-1))]) rfl rfl ?_
  walk_at "g"
  exact q _ _ (((e1.setN g1).setN g1).setN g1) g1 l1.set.set.set
theorem mk147e (q : ∀ a h', Ext [] h h' → h.top ≤ a → Lv h' a (cur D p) → k (.ref a) h') (hs : D.length ≤ 1000000) {x : Int} (hx : x = p) : Mk P (Cl (d + 1)) 147 [.bytes D, .int x, .int D.length] h k := by
  subst hx
  refine mkM (ci := c147) rfl rfl fun a h1 e1 g1 l1 => ?_
  refine enter (fn := f59) (ls := [some (.ref a), some (.bytes D), some (.int p), some (.int D.length)]) rfl rfl ?_
  walk_at "g"
  rw [if_neg (Int.lt_irrefl _)]
  exact q _ _ (((e1.setN g1).setN g1).setN g1) g1 l1.set.set.set
theorem mk320 (q : ∀ h', Ext [] h h' → k (.obj 320 [v]) h') : Mk P (Cl (d + 1)) 320 [v] h k := by
  refine mkF (ci := c320) rfl rfl rfl (fun a h1 K l1 hK => ?_) q
  refine enter (fn := f317) (ls := [some (.ref a), some v]) rfl rfl ?_
  walk_at "g"
  exact hK
theorem mk363 (q : ∀ h', Ext [] h h' → k (.obj 363 [v, v2]) h') : Mk P (Cl (d + 1)) 363 [v, v2] h k := by
  refine mkF (ci := c363) rfl rfl rfl (fun a h1 K l1 hK => ?_) q
  refine enter (fn := f360) (ls := [some (.ref a), some v, some v2]) rfl rfl ?_
  walk_at "g"
  rw [Hp.set_set]
  exact hK
theorem mk391 (q : ∀ h', Ext [] h h' → k (.obj 391 [v, v2]) h') : Mk P (Cl (d + 1)) 391 [v, v2] h k := by
  refine mkF (ci := c391) rfl rfl rfl (fun a h1 K l1 hK => ?_) q
  refine enter (fn := f381) (ls := [some (.ref a), some v, some v2]) rfl rfl ?_
  walk_at "g"
  rw [Hp.set_set]
  exact hK
theorem mk730 (q : ∀ h', Ext [] h h' → k (.obj 730 [v, v2, v3]) h') : Mk P (Cl (d + 1)) 730 [v, v2, v3] h k := by
  refine mkF (ci := c730) rfl rfl rfl (fun a h1 K l1 hK => ?_) q
  refine enter (fn := f720) (ls := [some (.ref a), some v, some v2, some v3]) rfl rfl ?_
  walk_at "g"
  rw [Hp.set_set, Hp.set_set]
  exact hK
theorem mk773 (q : ∀ h', Ext [] h h' → k (.obj 773 [v, v2, v3]) h') : Mk P (Cl (d + 1)) 773 [v, v2, v3] h k := by
  refine mkF (ci := c773) rfl rfl rfl (fun a h1 K l1 hK => ?_) q
  refine enter (fn := f770) (ls := [some (.ref a), some v, some v2, some v3]) rfl rfl ?_
  walk_at "g"
  rw [Hp.set_set, Hp.set_set]
  exact hK
theorem mk603 {w : List Nat} (q : ∀ a b h', Ext [] h h' → h.top ≤ a → h.top ≤ b → a ≠ b → Lv h' a (.inst 603 [.bytes w, .ref b]) → Lv h' b (.list []) → k (.ref a) h') : Mk P (Cl (d + 1)) 603 [.bytes w] h k := by
  refine mkM (ci := c603) rfl rfl fun a h1 e1 g1 l1 => ?_
  refine enter (fn := f593) (ls := [some (.ref a), some (.bytes w)]) rfl rfl ?_
  walk_at "g"
  refine fr1 fun b h2 e2 g2 l2 => ?_
  have l3 := l1.set (o' := .inst 603 [.bytes w])
  have hne := l3.ne g2
  have l4 := l3.ext0 e2
  have g3 : h.top ≤ b := Nat.le_trans e1.top g2
  walk_at "g"
  exact q _ _ _ (((e1.setN g1).tr0 e2).setN g1) g1 g3 hne l4.set (l2.set_ne (Ne.symm hne))
theorem mk500 {x y : Nat} (q : ∀ a h', Ext [] h h' → h.top ≤ a → Lv h' a (.inst 500 [.ref x, .ref y]) → k (.ref a) h') : Mk P (Cl (d + 1)) 500 [.ref x, .ref y] h k := by
  refine mkM (ci := c500) rfl rfl fun a h1 e1 g1 l1 => ?_
  refine enter (fn := f429) (ls := [some (.ref a), some (.ref x), some (.ref y)]) rfl rfl ?_
  walk_at "g"
  exact q _ _ ((e1.setN g1).setN g1) g1 l1.set.set
theorem mk500n (q : ∀ a x y ep ep2 h', Ext [] h h' → h.top ≤ a → h.top ≤ x → h.top ≤ y → a ≠ x → a ≠ y → x ≠ y → Lv h' a (.inst 500 [.ref x, .ref y]) → Lv h' x (.dict ep []) → Lv h' y (.dict ep2 []) → k (.ref a) h') : Mk P (Cl (d + 1)) 500 [] h k := by
  refine mkM (ci := c500) rfl rfl fun a h1 e1 g1 l1 => ?_
  refine enter (fn := f429) (ls := [some (.ref a), some .none, some .none]) rfl rfl ?_
  walk_at "g"
  refine frD fun b ep h2 e2 g2 l2 => ?_
  have hne := l1.ne g2
  have l4 := l1.ext0 e2
  have g3 : h.top ≤ b := Nat.le_trans e1.top g2
  walk_at "g"
  refine frD fun c ep2 h3 e3 g4 l5 => ?_
  have l6 := l4.set (o' := .inst 500 [.ref b])
  have hne2 := l6.ne g4
  have l7 := l6.ext0 e3
  have l8 := l2.set_ne (o' := .inst 500 [.ref b]) (Ne.symm hne)
  have hne3 := l8.ne g4
  have g5 : h.top ≤ c := Nat.le_trans g3 (Nat.le_of_lt (Nat.lt_of_lt_of_le l8.lt g4))
  walk_at "g"
  exact q _ _ _ _ _ _ ((((e1.tr0 e2).setN g1).tr0 e3).setN g1) g1 g3 g5 hne hne2 hne3 l7.set ((l8.ext0 e3).set_ne (Ne.symm hne)) (l5.set_ne (Ne.symm hne2))
end
end
section
section
variable {d : Nat} {h : Hp} {a : Nat} {D : List Nat} {p : Nat} {r w ws : List Nat} {c : Nat} {k : KE} {v v2 v3 : V}
theorem isFig_iff {c : Nat} : isFig (c : Int) = true ↔ 48 ≤ c ∧ c ≤ 57 := by simp [isFig]; omega
theorem map_get {l : List Nat} {i : Nat} {v : V} (e : (l.map fun (c : Nat) => V.int (c : Int))[i]? = some v) : ∃ c, l[i]? = some c ∧ v = .int c := by
  rw [List.getElem?_map] at e
  cases q : l[i]? with
  | none => rw [q] at e; cases e
  | some c => rw [q] at e; cases e; exact ⟨c, rfl, rfl⟩
theorem w303n (hw : ∀ c ∈ w, isFig c = true) (h0 : 0 < w.length) (h18 : w.length ≤ 18) (q : k (.int (dv w)) h) : Cl (d + 1) 303 [.bytes w] h k := by
  refine enter (fn := f303) (ls := [some (.bytes w), none, none, none, none, none]) rfl rfl ?_
  obtain ⟨c0, w', hw'⟩ : ∃ c w', w = c :: w' := by
    induction w using List.casesOn with
    | nil => simp at h0
    | cons c w' => exact ⟨c, w', rfl⟩
  have hd0 : w.getD (Int.toNat 0) 0 = c0 := by rw [hw']; rfl
  have hc0 := isFig_iff.mp (hw c0 (by rw [hw']; simp))
  clear hw'
  walk_at "g"
  refine for_ (all := w.map fun (c : Nat) => V.int (c : Int)) (fun i ls h' => ∃ x, ls = [some (.bytes w), some (.int 0), some (.int (dv (w.take i))), some (.int i), some (.int (-1)), x] ∧ h' = h) ⟨none, rfl, rfl⟩ ?_ ?_
  · intro R i v ls h' hv hI hR
    refine e12 hI fun x eq1 => ?_
    clear hI
    subst eq1
    intro eq2
    subst eq2
    refine e12 (map_get hv) fun c hc eq1 => ?_
    subst eq1
    have hf := isFig_iff.mp (hw c (List.mem_of_getElem? hc))
    have hdv := dv_nonneg (w.take i) fun c hc => hw c (List.mem_of_mem_take hc)
    have hpw : (10 : Int) ^ (w.take i).length ≤ 10 ^ 18 := by
      have : (10 : Nat) ^ (w.take i).length ≤ 10 ^ 18 := Nat.pow_le_pow_right (by decide) (by simp; lia)
      exact_mod_cast this
    walk_at "g"
    refine hR _ _ ⟨some (.int c), ?_, rfl⟩
    rw [take_snoc hc, dv_snoc, Int.mul_comm 10]
    rfl
  · intro ls h' hI
    refine e12 hI fun x eq1 => ?_
    clear hI
    subst eq1
    intro eq2
    subst eq2
    rw [List.length_map, List.take_length]
    walk_at "g"
theorem w303x (h0 : w = [] ∨ ∃ c w', w = c :: w' ∧ 58 ≤ c) (hs : w.length ≤ 1000000) (q : k .none h) : Cl (d + 1) 303 [.bytes w] h k := by
  refine enter (fn := f303) (ls := [some (.bytes w), none, none, none, none, none]) rfl rfl ?_
  rcases h0 with rfl | ⟨c, w', rfl, hc⟩
  · have h00 : ((([] : List Nat).length : Int)) = 0 := rfl
    walk_at "g"
    refine for_ (all := []) (fun i ls h' => ls = [some (.bytes []), some (.int 0), some (.int 0), some (.int 0), some (.int (-1)), none] ∧ h' = h) ⟨rfl, rfl⟩ ?_ ?_
    · rintro R i v ls h' hv ⟨rfl, rfl⟩ hR
      simp at hv
    · rintro ls h' ⟨rfl, rfl⟩
      walk_at "g"
  · have h1 : (c :: w').length = w'.length + 1 := rfl
    have hd0 : (c :: w').getD (Int.toNat 0) 0 = c := rfl
    walk_at "g"
    refine for_ (all := (c :: w').map fun (c : Nat) => V.int (c : Int)) (fun i ls h' => i = 0 ∧ ls = [some (.bytes (c :: w')), some (.int 0), some (.int 0), some (.int 0), some (.int (-1)), none] ∧ h' = h) ⟨rfl, rfl, rfl⟩ ?_ ?_
    · rintro R i v ls h' hv ⟨rfl, rfl, rfl⟩ hR
      refine e12 (map_get hv) fun c2 hc2 eq1 => ?_
      subst eq1
      have : c2 = c := by simpa using hc2.symm
      subst this
      walk_at "g"
    · rintro ls h' ⟨hl, _⟩
      simp at hl
theorem strsOf_map : ∀ l : List Nat, strsOf (l.map fun c => V.str [c]) = some (l.map fun c => [c])
  | [] => rfl
  | c :: l => congrArg (Option.map ([c] :: ·)) (strsOf_map l)
theorem flat_one : ∀ l : List Nat, (l.map fun c => [c]).flatten = l
  | [] => rfl
  | c :: l => by simp [flat_one l]
theorem w525 (hw : ∀ c ∈ w, c ≠ 35 ∧ c ≠ 0 ∧ c < 128) (h18 : w.length ≤ 1000) (q : ∀ h', Ext [] h h' → k (.str w) h') {x : Int} : Cl (d + 1) 525 [.bytes w, .int x] h k := by
  refine enter (fn := f525) (ls := [some (.bytes w), some (.int x), none, none, none, none, none]) rfl rfl ?_
  walk_at "g"
  refine fr1 fun b h1 e1 g1 l1 => ?_
  walk_at "g"
  refine whl (fun n ls h' => ∃ i y, n + i = w.length ∧ ls = [some (.bytes w), some (.int x), some (.ref b), some (.int i), y, none, none] ∧ h' = h1.set b (.list ((w.take i).map fun c => V.str [c]))) w.length ⟨0, none, by simp, rfl, (Hp.set_same l1.get).symm⟩ ?_
  intro R n ls h' hI hR
  refine e23 hI fun i y hn eq1 => ?_
  clear hI
  subst eq1
  intro eq2
  subst eq2
  by_cases hi : i < w.length
  · obtain ⟨c, hc⟩ : ∃ c, w[i]? = some c := ⟨_, List.getElem?_eq_getElem hi⟩
    have hcw := hw c (List.mem_of_getElem? hc)
    have hg : w.getD (Int.toNat i) 0 = c := by simp [List.getD, hc]
    have hsm : small ((w.take i).map fun c => V.str [c]).length := by simp only [small, List.length_map, List.length_take]; lia
    walk_at "g"
    refine hR (n - 1) _ _ (by lia) ⟨i + 1, _, by lia, rfl, ?_⟩
    rw [Hp.set_set, take_snoc hc, List.map_append, hg]; rfl
  · have : i = w.length := by lia
    subst this
    rw [List.take_length]
    walk_at "g"
    refine somG (strsOf_map w) ?_
    walk_at "g"
    refine ⟨⟨rfl, by rw [flat_one]; simp only [small]; lia, by simp only [small, List.length_map]; lia⟩, ?_⟩
    rw [flat_one]
    exact q _ (e1.setN g1)
end
end
section
section
variable {d : Nat} {h : Hp} {a : Nat} {D : List Nat} {p : Nat} {r w ws : List Nat} {c : Nat} {k : KE} {v v2 v3 : V} {x : Int}
theorem fig_reg {c : Nat} (h : isFig (c : Int) = true) : isReg (c : Int) = true := by
  obtain ⟨h1, h2⟩ := isFig_iff.mp h
  have key : ∀ n : Fin 10, isReg ((n.val + 48 : Nat) : Int) = true := by decide
  have := key ⟨c - 48, by omega⟩
  rwa [Nat.sub_add_cancel h1] at this
theorem rt_int (hc : h.get a = some (cur D p)) (s : Sf D p (w ++ r)) (hs : D.length ≤ 1000000) (hw : ∀ c ∈ w, isFig c = true) (h0 : 0 < w.length) (h18 : w.length ≤ 18) (hr : isReg (hd r) = false)
    (q : k (.tup [.str [105, 110, 116], .int (dv w), .int x]) (h.set a (cur D (p + w.length)))) : Cl (d + 3) 558 [.ref a, .int x] h k := by
  refine enter (fn := f558) (ls := [some (.ref a), some (.int x), none, none]) rfl rfl ?_
  walk_at "g"
  refine w109 hc s hs (fun c hc => fig_reg (hw c hc)) hr ?_
  walk_at "g"
  refine w303n hw h0 h18 ?_
  walk_at "g"
theorem rt_word (hc : h.get a = some (cur D p)) (s : Sf D p (w ++ r)) (hs : D.length ≤ 1000000) (hw : ∀ c ∈ w, isReg c = true) (h0 : ∃ c w', w = c :: w' ∧ 58 ≤ c) (hr : isReg (hd r) = false)
    (q : k (.tup [.str [119, 111, 114, 100], .bytes w, .int x]) (h.set a (cur D (p + w.length)))) : Cl (d + 3) 558 [.ref a, .int x] h k := by
  refine enter (fn := f558) (ls := [some (.ref a), some (.int x), none, none]) rfl rfl ?_
  have hl := s.len
  simp only [List.length_append] at hl
  walk_at "g"
  refine w109 hc s hs hw hr ?_
  walk_at "g"
  refine w303x (.inr h0) (by lia) ?_
  walk_at "g"
theorem dt_name (hc : h.get a = some (cur D p)) (s : Sf D p (47 :: (w ++ r))) (hs : D.length ≤ 1000000) (hw : ∀ c ∈ w, isReg c = true) (hw2 : ∀ c ∈ w, c ≠ 35 ∧ c ≠ 0 ∧ c < 128) (h18 : w.length ≤ 1000) (hr : isReg (hd r) = false)
    (q : ∀ h', Ext [] (h.set a (cur D (p + 1 + w.length))) h' → k (.tup [.str [110, 97, 109, 101], .str w, .int x]) h') : Cl (d + 3) 565 [.ref a, .int 47, .int x] h k := by
  refine enter (fn := f565) (ls := [some (.ref a), some (.int 47), some (.int x)]) rfl rfl ?_
  walk_at "g"
  refine w81 hc s hs ?_
  walk_at "g"
  refine w109 Hp.set_get_self s.tl hs hw hr ?_
  walk_at "g"
  refine w525 hw2 h18 ?_
  walk_at "g"
  intro h' e
  rw [Hp.set_set] at e
  exact q _ e
theorem dt_open (hc : h.get a = some (cur D p)) (s : Sf D p (60 :: 60 :: r)) (hs : D.length ≤ 1000000)
    (q : k (.tup [.str [115, 105, 103, 110], .bytes [60, 60], .int x]) (h.set a (cur D (p + 2)))) : Cl (d + 3) 565 [.ref a, .int 60, .int x] h k := by
  refine enter (fn := f565) (ls := [some (.ref a), some (.int 60), some (.int x)]) rfl rfl ?_
  walk_at "g"
  refine w95y (w := [60, 60]) hc s hs ?_
  walk_at "g"
  exact q
theorem dt_close (hc : h.get a = some (cur D p)) (s : Sf D p (62 :: 62 :: r)) (hs : D.length ≤ 1000000)
    (q : k (.tup [.str [115, 105, 103, 110], .bytes [62, 62], .int x]) (h.set a (cur D (p + 2)))) : Cl (d + 3) 565 [.ref a, .int 62, .int x] h k := by
  refine enter (fn := f565) (ls := [some (.ref a), some (.int 62), some (.int x)]) rfl rfl ?_
  walk_at "g"
  refine w95n (w := [60, 60]) hc s hs (by decide) rfl ?_
  walk_at "g"
  refine w95y (w := [62, 62]) hc s hs ?_
  walk_at "g"
  exact q
theorem wh_ne {c : Nat} (h : isReg (c : Int) = true) : isWh (c : Int) = false := by
  simp only [isReg, Bool.and_eq_true, Bool.not_eq_true'] at h; exact h.1.2
theorem reg_ne {c n : Nat} (hn : isReg (n : Int) = false) (h : isReg (c : Int) = true) : c ≠ n := by
  rintro rfl; rw [hn] at h; cases h
theorem reg_facts {c : Nat} (h : isReg (c : Int) = true) : isWh (c : Int) = false ∧ isSg (c : Int) = false ∧ c ≠ 37 ∧ c ≠ 47 ∧ c ≠ 40 ∧ c ≠ 41 ∧ c ≠ 60 ∧ c ≠ 62 := by
  refine ⟨wh_ne h, decide_eq_false ?_, reg_ne (by decide) h, reg_ne (by decide) h, reg_ne (by decide) h, reg_ne (by decide) h, reg_ne (by decide) h, reg_ne (by decide) h⟩
  rintro (e | e | e | e) <;> (rw [e] at h; cases h)
theorem ext_of {o : O} {h' : Hp} (hc : Lv h a o) {o' : O} (e : Ext [] (h.set a o') h') : Ext [a] h h' ∧ Lv h' a o' :=
  ⟨(Ext.set (by simp)).trans (e.sub (by simp)), hc.set.ext0 e⟩
theorem nt_int (hc : Lv h a (cur D p)) (s : Sf D p (ws ++ (w ++ r))) (hs : D.length ≤ 1000000) (hws : ∀ c ∈ ws, isWh c = true) (hw : ∀ c ∈ w, isFig c = true) (h0 : 0 < w.length) (h18 : w.length ≤ 18) (hr : isReg (hd r) = false)
    (q : ∀ h', Ext [a] h h' → Lv h' a (cur D (p + ws.length + w.length)) → k (.tup [.str [105, 110, 116], .int (dv w), .int (p + ws.length : Nat)]) h') : Cl (d + 4) 572 [.ref a] h k := by
  refine enter (fn := f572) (ls := [some (.ref a), none, none]) rfl rfl ?_
  obtain ⟨c0, w', rfl⟩ : ∃ c w', w = c :: w' := by
    induction w using List.casesOn with
    | nil => simp at h0
    | cons c w' => exact ⟨c, w', rfl⟩
  have hf := isFig_iff.mp (hw c0 (by simp))
  obtain ⟨f1, f2, f3⟩ := reg_facts (fig_reg (hw c0 (by simp)))
  walk_at "g"
  refine w102 hc.get s hs hws f1 (by simp only [List.cons_append, hd]; lia) ?_
  walk_at "g"
  refine w74 Hp.set_get_self s.app hs ?_
  simp only [List.cons_append, hd]
  walk_at "g"
  refine rt_int Hp.set_get_self s.app hs hw h0 h18 hr ?_
  walk_at "g"
  rw [Hp.set_set]
  exact q _ (ext_of hc .refl).1 (ext_of hc .refl).2
theorem nt_word (hc : Lv h a (cur D p)) (s : Sf D p (ws ++ (w ++ r))) (hs : D.length ≤ 1000000) (hws : ∀ c ∈ ws, isWh c = true) (hw : ∀ c ∈ w, isReg c = true) (h0 : ∃ c w', w = c :: w' ∧ 58 ≤ c) (hr : isReg (hd r) = false)
    (q : ∀ h', Ext [a] h h' → Lv h' a (cur D (p + ws.length + w.length)) → k (.tup [.str [119, 111, 114, 100], .bytes w, .int (p + ws.length : Nat)]) h') : Cl (d + 4) 572 [.ref a] h k := by
  refine enter (fn := f572) (ls := [some (.ref a), none, none]) rfl rfl ?_
  have h0' := h0
  obtain ⟨c0, w', rfl, hf⟩ := h0
  obtain ⟨f1, f2, f3⟩ := reg_facts (hw c0 (by simp))
  walk_at "g"
  refine w102 hc.get s hs hws f1 (by simp only [List.cons_append, hd]; lia) ?_
  walk_at "g"
  refine w74 Hp.set_get_self s.app hs ?_
  simp only [List.cons_append, hd]
  walk_at "g"
  refine rt_word Hp.set_get_self s.app hs hw h0' hr ?_
  walk_at "g"
  rw [Hp.set_set]
  exact q _ (ext_of hc .refl).1 (ext_of hc .refl).2
theorem nt_name (hc : Lv h a (cur D p)) (s : Sf D p (ws ++ 47 :: (w ++ r))) (hs : D.length ≤ 1000000) (hws : ∀ c ∈ ws, isWh c = true) (hw : ∀ c ∈ w, isReg c = true) (hw2 : ∀ c ∈ w, c ≠ 35 ∧ c ≠ 0 ∧ c < 128) (h18 : w.length ≤ 1000) (hr : isReg (hd r) = false)
    (q : ∀ h', Ext [a] h h' → Lv h' a (cur D (p + ws.length + 1 + w.length)) → k (.tup [.str [110, 97, 109, 101], .str w, .int (p + ws.length : Nat)]) h') : Cl (d + 4) 572 [.ref a] h k := by
  refine enter (fn := f572) (ls := [some (.ref a), none, none]) rfl rfl ?_
  walk_at "g"
  refine w102 hc.get s hs hws rfl (by simp only [hd]; decide) ?_
  walk_at "g"
  refine w74 Hp.set_get_self s.app hs ?_
  simp only [hd]
  walk_at "g"
  refine dt_name Hp.set_get_self s.app hs hw hw2 h18 hr ?_
  intro h' e
  walk_at "g"
  rw [Hp.set_set] at e
  exact q _ (ext_of hc e).1 (ext_of hc e).2
theorem nt_open (hc : Lv h a (cur D p)) (s : Sf D p (ws ++ 60 :: 60 :: r)) (hs : D.length ≤ 1000000) (hws : ∀ c ∈ ws, isWh c = true)
    (q : ∀ h', Ext [a] h h' → Lv h' a (cur D (p + ws.length + 2)) → k (.tup [.str [115, 105, 103, 110], .bytes [60, 60], .int (p + ws.length : Nat)]) h') : Cl (d + 4) 572 [.ref a] h k := by
  refine enter (fn := f572) (ls := [some (.ref a), none, none]) rfl rfl ?_
  walk_at "g"
  refine w102 hc.get s hs hws rfl (by simp only [hd]; decide) ?_
  walk_at "g"
  refine w74 Hp.set_get_self s.app hs ?_
  simp only [hd]
  walk_at "g"
  refine dt_open Hp.set_get_self s.app hs ?_
  walk_at "g"
  rw [Hp.set_set]
  exact q _ (ext_of hc .refl).1 (ext_of hc .refl).2
theorem nt_close (hc : Lv h a (cur D p)) (s : Sf D p (ws ++ 62 :: 62 :: r)) (hs : D.length ≤ 1000000) (hws : ∀ c ∈ ws, isWh c = true)
    (q : ∀ h', Ext [a] h h' → Lv h' a (cur D (p + ws.length + 2)) → k (.tup [.str [115, 105, 103, 110], .bytes [62, 62], .int (p + ws.length : Nat)]) h') : Cl (d + 4) 572 [.ref a] h k := by
  refine enter (fn := f572) (ls := [some (.ref a), none, none]) rfl rfl ?_
  walk_at "g"
  refine w102 hc.get s hs hws rfl (by simp only [hd]; decide) ?_
  walk_at "g"
  refine w74 Hp.set_get_self s.app hs ?_
  simp only [hd]
  walk_at "g"
  refine dt_close Hp.set_get_self s.app hs ?_
  walk_at "g"
  rw [Hp.set_set]
  exact q _ (ext_of hc .refl).1 (ext_of hc .refl).2
theorem w579 {w2 : List Nat} {x : Int} (q : k (.bool (eqL w w2)) h) : Cl (d + 1) 579 [.tup [.str [115, 105, 103, 110], .bytes w, .int x], .bytes w2] h k := by
  refine enter (fn := f579) (ls := [some (.tup [.str [115, 105, 103, 110], .bytes w, .int x]), some (.bytes w2)]) rfl rfl ?_
  walk_at "g"
theorem w614 {x : Int} (q : k (.bool (decide (0 ≤ x))) h) : Cl (d + 1) 614 [.int x] h k := by
  refine enter (fn := f614) (ls := [some (.int x)]) rfl rfl ?_
  walk_at "g"
theorem w614n (q : k (.bool false) h) : Cl (d + 1) 614 [.none] h k := by
  refine enter (fn := f614) (ls := [some .none]) rfl rfl ?_
  walk_at "g"
end
end
section
section
variable {d : Nat} {h : Hp} {a : Nat} {D : List Nat} {p : Nat} {r r2 w ws ws2 : List Nat} {c : Nat} {k : KE} {v v2 v3 : V} {x : Int}
theorem w600 {b : Nat} {its : List V} (ha : Lv h a (.inst 603 [.bytes [60, 60], .ref b])) (hb : Lv h b (.list its)) (hl : its.length ≤ 1000) (q : k (.bool (Nat.beq (its.length % 2) 0)) h) : Cl (d + 1) 600 [.ref a] h k := by
  have e : Nat.beq (its.length % 2) 0 = decide ((its.length : Int) % 2 = 0) := by
    rw [Bool.eq_iff_iff, Nat.beq_eq, decide_eq_true_iff]; lia
  rw [e] at q
  refine enter (fn := f600) (ls := [some (.ref a)]) rfl rfl ?_
  walk_at "g"
theorem w621 (hc : Lv h a (cur D p)) (s : Sf D p (ws ++ (w ++ (ws2 ++ r2)))) (hs : D.length ≤ 1000000) (hws : ∀ c ∈ ws, isWh c = true) (hw : ∀ c ∈ w, isReg c = true) (h0 : w = [] ∨ ∃ c w', w = c :: w' ∧ 58 ≤ c)
    (hwr : isReg (hd (ws2 ++ r2)) = false) (hws2 : ∀ c ∈ ws2, isWh c = true) (hr2 : isWh (hd r2) = false) (hr3 : hd r2 ≠ 37) (hn : isWh (hd (w ++ (ws2 ++ r2))) = false) (hn2 : hd (w ++ (ws2 ++ r2)) ≠ 37)
    (q : ∀ h', Ext [] h h' → k (.int x) h') : Cl (d + 3) 621 [.ref a, .int x] h k := by
  refine enter (fn := f621) (ls := [some (.ref a), some (.int x), none, none]) rfl rfl ?_
  have hl := s.len
  simp only [List.length_append] at hl
  walk_at "g"
  refine mk147e (fun b h1 e1 hb l1 => ?_) hs rfl
  walk_at "g"
  refine w102 l1.get s hs hws hn hn2 ?_
  walk_at "g"
  refine w109 Hp.set_get_self s.app hs hw hwr ?_
  walk_at "g"
  refine w303x h0 (by lia) ?_
  walk_at "g"
  refine w102 Hp.set_get_self s.app.app hs hws2 hr2 hr3 ?_
  walk_at "g"
  refine w614n ?_
  walk_at "g"
  exact q _ (((e1.setN hb).setN hb).setN hb)
theorem w635i {n : Int} (h0 : 0 ≤ n) (hc : Lv h a (cur D p)) (s : Sf D p (ws ++ (w ++ (ws2 ++ r2)))) (hs : D.length ≤ 1000000) (hws : ∀ c ∈ ws, isWh c = true) (hw : ∀ c ∈ w, isReg c = true) (h0 : w = [] ∨ ∃ c w', w = c :: w' ∧ 58 ≤ c)
    (hwr : isReg (hd (ws2 ++ r2)) = false) (hws2 : ∀ c ∈ ws2, isWh c = true) (hr2 : isWh (hd r2) = false) (hr3 : hd r2 ≠ 37) (hn : isWh (hd (w ++ (ws2 ++ r2))) = false) (hn2 : hd (w ++ (ws2 ++ r2)) ≠ 37)
    (q : ∀ h', Ext [] h h' → k (.int n) h') : Cl (d + 4) 635 [.ref a, .tup [.str [105, 110, 116], .int n, .int x], .bool true] h k := by
  refine enter (fn := f635) (ls := [some (.ref a), some (.tup [.str [105, 110, 116], .int n, .int x]), some (.bool true), none, none, none]) rfl rfl ?_
  walk_at "g"
  refine w621 hc s hs hws hw h0 hwr hws2 hr2 hr3 hn hn2 ?_
  intro h' e
  walk_at "g"
  exact q _ e
theorem w635n (q : ∀ h', Ext [] h h' → k (.obj 320 [.str w]) h') : Cl (d + 4) 635 [.ref a, .tup [.str [110, 97, 109, 101], .str w, .int x], .bool true] h k := by
  refine enter (fn := f635) (ls := [some (.ref a), some (.tup [.str [110, 97, 109, 101], .str w, .int x]), some (.bool true), none, none, none]) rfl rfl ?_
  walk_at "g"
  refine mk320 ?_
  intro h' e
  walk_at "g"
  exact q _ e
theorem w640 {b : Nat} {A B Cn : List Nat} {n : Int} (hb : Lv h b (.list [.obj 320 [.str A], .obj 320 [.str Cn], .obj 320 [.str B], .int n])) (hAB : eqL B A = false)
    (q : ∀ h' a ep, Ext [] h h' → h.top ≤ a → Lv h' a (.dict ep [(.str A, .obj 320 [.str Cn]), (.str B, .int n)]) → k (.ref a) h') : Cl (d + 1) 640 [.ref b] h k := by
  refine enter (fn := f640) (ls := [some (.ref b), none, none]) rfl rfl ?_
  walk_at "g"
  refine frD fun e ep h1 e1 he l1 => ?_
  have hbe : b ≠ e := hb.ne he
  replace hb := hb.ext0 e1
  walk_at "g"
  refine ⟨?_⟩
  have hr : ((((([.obj 320 [.str A], .obj 320 [.str Cn], .obj 320 [.str B], .int n] : List V)).length : Int) - 0 + 1) / 2).toNat = 2 := by simp
  rw [hr]
  show ForL _ _ _ _ [.int 0, .int 2] _ _ _
  refine forL_cons trivial ?_
  walk_at "g"
  intro ep2
  refine forL_cons trivial ?_
  walk_at "g"
  intro ep3
  have e2 : putS B (.int n) (putS A (.obj 320 [.str Cn]) []) = [(.str A, .obj 320 [.str Cn]), (.str B, .int n)] := putS_ne hAB
  rw [Hp.set_set, e2]
  have l2 := l1.set (o' := .dict ep3 [(.str A, .obj 320 [.str Cn]), (.str B, .int n)])
  have e3 := e1.setN (o := .dict ep3 [(.str A, .obj 320 [.str Cn]), (.str B, .int n)]) he
  generalize h1.set e (.dict ep3 [(.str A, .obj 320 [.str Cn]), (.str B, .int n)]) = h2 at l2 e3
  walk_at "g"
  refine frD fun f ep4 h3 e4 hf l3 => ?_
  have hef := l2.ne hf
  have g3 : h.top ≤ f := Nat.le_trans e3.top hf
  replace l2 := l2.ext0 e4
  replace e3 := e3.tr0 e4
  walk_at "g"
  refine ⟨?_⟩
  have k1 : lookS A [(.str A, .obj 320 [.str Cn]), (.str B, .int n)] = some (.obj 320 [.str Cn]) := lookS_eq eqL_self
  have k2 : lookS B [(.str A, .obj 320 [.str Cn]), (.str B, .int n)] = some (.int n) := (lookS_ne hAB).trans (lookS_eq eqL_self)
  refine denD_cons' (i12 l2.get rfl) ?_
  walk_at "g"
  intro ep5
  refine denD_cons' (i12 ((set_get_ne hef).trans l2.get) rfl) ?_
  walk_at "g"
  intro ep6
  refine denD_nil' (i12 ((set_get_ne hef).trans ((set_get_ne hef).trans l2.get)) rfl) ?_
  rw [Hp.set_set, e2]
  exact q _ _ _ (e3.setN g3) g3 l3.set
theorem w647 {F fa ib : Nat} {A B Cn : List Nat} {n : Int} (hF : Lv h F (.list [.ref fa])) (hfa : Lv h fa (.inst 603 [.bytes [60, 60], .ref ib])) (hib : Lv h ib (.list [.obj 320 [.str A], .obj 320 [.str Cn], .obj 320 [.str B], .int n])) (hAB : eqL B A = false) (n1 : fa ≠ F) (n2 : ib ≠ F)
    (q : ∀ h' a ep, Ext [F] h h' → h.top ≤ a → Lv h' F (.list []) → Lv h' a (.dict ep [(.str A, .obj 320 [.str Cn]), (.str B, .int n)]) → k (.ref a) h') : Cl (d + 2) 647 [.ref F, .bytes [62, 62], .int x] h k := by
  refine enter (fn := f647) (ls := [some (.ref F), some (.bytes [62, 62]), some (.int x), none, none]) rfl rfl ?_
  walk_at "g"
  refine fr1 fun a1 h1 e1 g1 l1 => ?_
  replace hF := hF.ext0 e1
  replace hfa := hfa.ext0 e1
  replace hib := hib.ext0 e1
  walk_at "g"
  have hF2 := hF.set (o' := .list [])
  have hfa2 := hfa.set_ne n1 (o' := .list [])
  have hib2 := hib.set_ne n2 (o' := .list [])
  refine w600 hfa2 hib2 (by simp) ?_
  walk_at "g"
  refine w640 hib2 hAB fun h3 b ep e3 g3 l3 => ?_
  exact q _ _ _ (((e1.sub (by simp)).trans (Ext.set (by simp))).trans (e3.sub (by simp))) (Nat.le_trans e1.top g3) (hF2.ext0 e3) l3
end
end
section
section
variable {d : Nat} {h : Hp} {a : Nat} {D : List Nat} {p : Nat} {r r2 w ws ws2 : List Nat} {c : Nat} {k : KE} {v v2 v3 : V} {x : Int}
theorem w655i {n : Int} (h0 : 0 ≤ n) (hc : Lv h a (cur D p)) (s : Sf D p (ws ++ (w ++ (ws2 ++ r2)))) (hs : D.length ≤ 1000000) (hws : ∀ c ∈ ws, isWh c = true) (hw : ∀ c ∈ w, isReg c = true) (h0 : w = [] ∨ ∃ c w', w = c :: w' ∧ 58 ≤ c)
    (hwr : isReg (hd (ws2 ++ r2)) = false) (hws2 : ∀ c ∈ ws2, isWh c = true) (hr2 : isWh (hd r2) = false) (hr3 : hd r2 ≠ 37) (hn : isWh (hd (w ++ (ws2 ++ r2))) = false) (hn2 : hd (w ++ (ws2 ++ r2)) ≠ 37)
    (q : ∀ h', Ext [] h h' → k (.int n) h') : Cl (d + 5) 655 [.ref a, .tup [.str [105, 110, 116], .int n, .int x]] h k := by
  refine enter (fn := f655) (ls := [some (.ref a), some (.tup [.str [105, 110, 116], .int n, .int x]), some (.bool true), none, none, none, none, none, none]) rfl rfl ?_
  walk_at "g"
  refine fr1 fun F h1 e1 g1 l1 => ?_
  walk_at "g"
  have hc1 := hc.ext0 e1
  refine whl (fun n' ls h' => ls = [some (.ref a), some (.tup [.str [105, 110, 116], .int n, .int x]), some (.bool true), some (.ref F), none, none, none, none, none] ∧ h' = h1) 0 ⟨rfl, rfl⟩ ?_
  rintro R n' ls h' ⟨rfl, rfl⟩ hR
  walk_at "g"
  refine fr1 fun F2 h2 e2 g2 l2 => ?_
  have l1' := l1.ext0 e2
  have hc2 := hc1.ext0 e2
  walk_at "g"
  refine w635i (by assumption) hc2 s hs hws hw h0 hwr hws2 hr2 hr3 hn hn2 fun h3 e3 => ?_
  have l3 := l1'.ext0 e3
  walk_at "g"
  refine fr1 fun F4 h4 e4 g4 l4 => ?_
  have l5 := l3.ext0 e4
  walk_at "g"
  exact q _ (((e1.trans e2).trans e3).trans e4)
end
noncomputable def T1 : List Nat := [84, 121, 112, 101]
noncomputable def T2 : List Nat := [76, 101, 110, 103, 116, 104]
section
variable {d : Nat} {h : Hp} {a : Nat} {D : List Nat} {p : Nat} {r r2 w ws ws2 : List Nat} {c : Nat} {k : KE} {v v2 v3 : V} {x : Int}
noncomputable abbrev FrS (h : Hp) (F a : Nat) (D : List Nat) (p : Nat) (its : List V) (fa ib : Nat) : Prop :=
  Lv h a (cur D p) ∧ Lv h F (.list [.ref fa]) ∧ Lv h fa (.inst 603 [.bytes [60, 60], .ref ib]) ∧ Lv h ib (.list its)
noncomputable abbrev Dst (t F a fa ib : Nat) : Prop := (a < t ∧ t ≤ F ∧ t ≤ fa ∧ t ≤ ib) ∧ fa ≠ F ∧ ib ≠ F ∧ fa ≠ ib
inductive Stg (h : Hp) (a F : Nat) (D Cn dL r : List Nat) (h1 : Hp) (tok : V) : Nat → Ls → Hp → Prop
  | s6 : Stg h a F D Cn dL r h1 tok 6 [some (.ref a), some tok, some (.bool true), some (.ref F), none, none, none, none, none] h1
  | s5 {p fa ib : Nat} {x : Int} {h' : Hp} {y1 y2 y3 y4 y5 : Option V} : Sf D p ([32] ++ 47 :: (Cn ++ ([32] ++ 47 :: (T2 ++ ([32] ++ (dL ++ ([32] ++ (62 :: 62 :: r)))))))) → Ext [a] h h' → FrS h' F a D p [] fa ib → Dst h.top F a fa ib → Stg h a F D Cn dL r h1 tok 5 [some (.ref a), some (.tup [.str [110, 97, 109, 101], .str T1, .int x]), some (.bool true), some (.ref F), y1, y2, y3, y4, y5] h'
  | s4 {p fa ib : Nat} {x : Int} {h' : Hp} {y1 y2 y3 y4 y5 : Option V} : Sf D p ([32] ++ 47 :: (T2 ++ ([32] ++ (dL ++ ([32] ++ (62 :: 62 :: r)))))) → Ext [a] h h' → FrS h' F a D p [.obj 320 [.str T1]] fa ib → Dst h.top F a fa ib → Stg h a F D Cn dL r h1 tok 4 [some (.ref a), some (.tup [.str [110, 97, 109, 101], .str Cn, .int x]), some (.bool true), some (.ref F), y1, y2, y3, y4, y5] h'
  | s3 {p fa ib : Nat} {x : Int} {h' : Hp} {y1 y2 y3 y4 y5 : Option V} : Sf D p ([32] ++ (dL ++ ([32] ++ (62 :: 62 :: r)))) → Ext [a] h h' → FrS h' F a D p [.obj 320 [.str T1], .obj 320 [.str Cn]] fa ib → Dst h.top F a fa ib → Stg h a F D Cn dL r h1 tok 3 [some (.ref a), some (.tup [.str [110, 97, 109, 101], .str T2, .int x]), some (.bool true), some (.ref F), y1, y2, y3, y4, y5] h'
  | s2 {p fa ib : Nat} {x : Int} {h' : Hp} {y1 y2 y3 y4 y5 : Option V} : Sf D p ([32] ++ (62 :: 62 :: r)) → Ext [a] h h' → FrS h' F a D p [.obj 320 [.str T1], .obj 320 [.str Cn], .obj 320 [.str T2]] fa ib → Dst h.top F a fa ib → Stg h a F D Cn dL r h1 tok 2 [some (.ref a), some (.tup [.str [105, 110, 116], .int (dv dL), .int x]), some (.bool true), some (.ref F), y1, y2, y3, y4, y5] h'
  | s1 {p fa ib : Nat} {x : Int} {h' : Hp} {y1 y2 y3 y4 y5 : Option V} : Sf D p (r) → Ext [a] h h' → FrS h' F a D p [.obj 320 [.str T1], .obj 320 [.str Cn], .obj 320 [.str T2], .int (dv dL)] fa ib → Dst h.top F a fa ib → Stg h a F D Cn dL r h1 tok 1 [some (.ref a), some (.tup [.str [115, 105, 103, 110], .bytes [62, 62], .int x]), some (.bool true), some (.ref F), y1, y2, y3, y4, y5] h'
theorem FrS.gF {h : Hp} {F a : Nat} {D : List Nat} {p : Nat} {its : List V} {fa ib : Nat} (S : FrS h F a D p its fa ib) : h.get F = some (.list [.ref fa]) := S.2.1.1
theorem FrS.ga {h : Hp} {F a : Nat} {D : List Nat} {p : Nat} {its : List V} {fa ib : Nat} (S : FrS h F a D p its fa ib) : h.get fa = some (.inst 603 [.bytes [60, 60], .ref ib]) := S.2.2.1.1
theorem FrS.gi {h : Hp} {F a : Nat} {D : List Nat} {p : Nat} {its : List V} {fa ib : Nat} (S : FrS h F a D p its fa ib) : h.get ib = some (.list its) := S.2.2.2.1
local macro_rules | `(tactic| walk_at "r") => `(tactic| with_reducible first | exact FrS.gF (by assumption) | exact FrS.ga (by assumption) | exact FrS.gi (by assumption))
section
variable {h' : Hp} {F fa ib p' t : Nat} {its : List V}
theorem FrS.ext0 (S : FrS h F a D p its fa ib) (e : Ext [] h h') : FrS h' F a D p its fa ib := ⟨S.1.ext0 e, S.2.1.ext0 e, S.2.2.1.ext0 e, S.2.2.2.ext0 e⟩
theorem FrS.app (S : FrS h F a D p its fa ib) (x : Dst t F a fa ib) : FrS (h.set ib (.list (its ++ [v]))) F a D p (its ++ [v]) fa ib :=
  ⟨S.1.set_ne (by lia), S.2.1.set_ne (by lia), S.2.2.1.set_ne (by lia), S.2.2.2.set⟩
theorem FrS.adv (S : FrS h F a D p its fa ib) (x : Dst t F a fa ib) (e : Ext [a] h h') (l : Lv h' a (cur D p')) : FrS h' F a D p' its fa ib :=
  ⟨l, S.2.1.ext e (by simp; lia), S.2.2.1.ext e (by simp; lia), S.2.2.2.ext e (by simp; lia)⟩
end
theorem T1_ok : (∀ c ∈ T1, isReg (c : Int) = true) ∧ ∀ c ∈ T1, c ≠ 35 ∧ c ≠ 0 ∧ c < 128 := by decide
theorem T2_ok : (∀ c ∈ T2, isReg (c : Int) = true) ∧ ∀ c ∈ T2, c ≠ 35 ∧ c ≠ 0 ∧ c < 128 := by decide
theorem sp_ok : ∀ c ∈ [32], isWh ((c : Nat) : Int) = true := by decide
theorem hd_sp {l : List Nat} : isReg (hd ([32] ++ l)) = false := by rfl
theorem w655d {Cn dL : List Nat} (hc : Lv h a (cur D p)) (s : Sf D p ([32] ++ 47 :: (T1 ++ ([32] ++ 47 :: (Cn ++ ([32] ++ 47 :: (T2 ++ ([32] ++ (dL ++ ([32] ++ (62 :: 62 :: r))))))))))) (hs : D.length ≤ 1000000)
    (hC1 : ∀ c ∈ Cn, isReg c = true) (hC2 : ∀ c ∈ Cn, c ≠ 35 ∧ c ≠ 0 ∧ c < 128) (hC3 : Cn.length ≤ 1000) (hL : ∀ c ∈ dL, isFig c = true) (hL0 : 0 < dL.length) (hL1 : dL.length ≤ 18)
    (q : ∀ h' b ep p', Ext [a] h h' → h.top ≤ b → Lv h' a (cur D p') → Sf D p' r → Lv h' b (.dict ep [(.str T1, .obj 320 [.str Cn]), (.str T2, .int (dv dL))]) → k (.ref b) h') : Cl (d + 5) 655 [.ref a, .tup [.str [115, 105, 103, 110], .bytes [60, 60], .int x]] h k := by
  refine enter (fn := f655) (ls := [some (.ref a), some (.tup [.str [115, 105, 103, 110], .bytes [60, 60], .int x]), some (.bool true), none, none, none, none, none, none]) rfl rfl ?_
  walk_at "g"
  refine fr1 fun F h1 e1 g1 l1 => ?_
  walk_at "g"
  have hc1 := hc.ext0 e1
  refine whl (Stg h a F D Cn dL r h1 _) 6 .s6 ?_
  have hFa : F ≠ a := by have := hc.lt; lia
  intro R n' ls h' hI hR
  induction hI using Stg.casesOn with
  | s6 =>
    walk_at "g"
    refine fr1 fun F2 h2 e2 g2 l2 => ?_
    have l1' := l1.ext0 e2
    have hc2 := hc1.ext0 e2
    walk_at "g"
    refine mk603 fun fa ib h3 e3 g3 g3' n3 lfa lib => ?_
    have l3 := l1'.ext0 e3
    have hc3 := hc2.ext0 e3
    have hFfa : F ≠ fa := by have := l1'.lt; lia
    have hFib : F ≠ ib := by have := l1'.lt; lia
    have m0 : h.top ≤ fa := Nat.le_trans (Nat.le_trans e1.top e2.top) g3
    have m1 : h.top ≤ ib := Nat.le_trans (Nat.le_trans e1.top e2.top) g3'
    have dst : Dst h.top F a fa ib := ⟨⟨hc.lt, g1, m0, m1⟩, Ne.symm hFfa, Ne.symm hFib, n3⟩
    walk_at "g"
    have fs : FrS (h3.set F (.list [.ref fa])) F a D p [] fa ib := ⟨hc3.set_ne (Ne.symm hFa), l3.set, lfa.set_ne (Ne.symm hFfa), lib.set_ne (Ne.symm hFib)⟩
    have x4 : Ext [a] h (h3.set F (.list [.ref fa])) := Ext.setN ((((e1.trans e2).trans e3)).sub (by simp)) g1
    refine nt_name fs.1 s hs sp_ok T1_ok.1 T1_ok.2 (by decide) hd_sp fun h5 e5 l5 => ?_
    walk_at "g"
    exact hR 5 _ _ (by decide) (.s5 (s.app.tl.app) (x4.trans e5) (fs.adv dst e5 l5) dst)
  | s5 s' x1 fs dst =>
      walk_at "g"
      refine fr1 fun F2 h2 e2 g2 l2 => ?_
      replace fs := fs.ext0 e2
      walk_at "g"
      refine w600 fs.2.2.1 fs.2.2.2 (by simp) ?_
      walk_at "g"
      refine w635n fun h3 e3 => ?_
      replace fs := fs.ext0 e3
      walk_at "g"
      refine fr1 fun F4 h4 e4 g4 l4 => ?_
      replace fs := fs.ext0 e4
      have fs5 := fs.app (v := .obj 320 [.str T1]) dst
      walk_at "g"
      refine nt_name fs5.1 s' hs sp_ok hC1 hC2 hC3 hd_sp fun h6 e6 l6 => ?_
      walk_at "g"
      have x6 : Ext [a] h h6 := (Ext.setN (((x1.tr0 e2).tr0 e3).tr0 e4) dst.1.2.2.2).trans e6
      exact hR 4 _ _ (by decide) (.s4 (s'.app.tl.app) x6 (fs5.adv dst e6 l6) dst)
  | s4 s' x1 fs dst =>
      walk_at "g"
      refine fr1 fun F2 h2 e2 g2 l2 => ?_
      replace fs := fs.ext0 e2
      walk_at "g"
      refine w600 fs.2.2.1 fs.2.2.2 (by simp) ?_
      walk_at "g"
      refine w635n fun h3 e3 => ?_
      replace fs := fs.ext0 e3
      walk_at "g"
      refine fr1 fun F4 h4 e4 g4 l4 => ?_
      replace fs := fs.ext0 e4
      have fs5 := fs.app (v := .obj 320 [.str Cn]) dst
      walk_at "g"
      refine nt_name fs5.1 s' hs sp_ok T2_ok.1 T2_ok.2 (by decide) hd_sp fun h6 e6 l6 => ?_
      walk_at "g"
      have x6 : Ext [a] h h6 := (Ext.setN (((x1.tr0 e2).tr0 e3).tr0 e4) dst.1.2.2.2).trans e6
      exact hR 3 _ _ (by decide) (.s3 (s'.app.tl.app) x6 (fs5.adv dst e6 l6) dst)
  | s3 s' x1 fs dst =>
      walk_at "g"
      refine fr1 fun F2 h2 e2 g2 l2 => ?_
      replace fs := fs.ext0 e2
      walk_at "g"
      refine w600 fs.2.2.1 fs.2.2.2 (by simp) ?_
      walk_at "g"
      refine w635n fun h3 e3 => ?_
      replace fs := fs.ext0 e3
      walk_at "g"
      refine fr1 fun F4 h4 e4 g4 l4 => ?_
      replace fs := fs.ext0 e4
      have fs5 := fs.app (v := .obj 320 [.str T2]) dst
      walk_at "g"
      refine nt_int fs5.1 s' hs sp_ok hL hL0 hL1 hd_sp fun h6 e6 l6 => ?_
      walk_at "g"
      have x6 : Ext [a] h h6 := (Ext.setN (((x1.tr0 e2).tr0 e3).tr0 e4) dst.1.2.2.2).trans e6
      exact hR 2 _ _ (by decide) (.s2 (s'.app.app) x6 (fs5.adv dst e6 l6) dst)
  | s2 s' x1 fs dst =>
      walk_at "g"
      refine fr1 fun F2 h2 e2 g2 l2 => ?_
      replace fs := fs.ext0 e2
      walk_at "g"
      refine w600 fs.2.2.1 fs.2.2.2 (by simp) ?_
      walk_at "g"
      refine w635i (w := []) (ws2 := []) (dv_nonneg dL hL).1 fs.1 s' hs sp_ok (by simp) (.inl rfl) rfl (by simp) rfl (by simp [hd]) rfl (by simp [hd]) fun h3 e3 => ?_
      replace fs := fs.ext0 e3
      walk_at "g"
      refine fr1 fun F4 h4 e4 g4 l4 => ?_
      replace fs := fs.ext0 e4
      have fs5 := fs.app (v := .int (dv dL)) dst
      walk_at "g"
      refine nt_close fs5.1 s' hs sp_ok fun h6 e6 l6 => ?_
      walk_at "g"
      have x6 : Ext [a] h h6 := (Ext.setN (((x1.tr0 e2).tr0 e3).tr0 e4) dst.1.2.2.2).trans e6
      exact hR 1 _ _ (by decide) (.s1 (s'.app.app (w := [62, 62])) x6 (fs5.adv dst e6 l6) dst)
  | s1 s' x1 fs dst =>
      walk_at "g"
      refine fr1 fun F2 h2 e2 g2 l2 => ?_
      replace fs := fs.ext0 e2
      walk_at "g"
      refine w600 fs.2.2.1 fs.2.2.2 (by simp) ?_
      walk_at "g"
      refine w579 ?_
      walk_at "g"
      refine w647 fs.2.1 fs.2.2.1 fs.2.2.2 rfl dst.2.1 dst.2.2.1 fun h3 b ep e3 g3 lF l3 => ?_
      have hc3 := fs.1.ext e3 (by simp; lia)
      walk_at "g"
      refine fr1 fun F4 h4 e4 g4 l4 => ?_
      replace lF := lF.ext0 e4
      walk_at "g"
      refine q _ b ep _ ?_ ?_ (hc3.ext0 e4) s' (l3.ext0 e4)
      · exact ⟨Nat.le_trans (x1.tr0 e2).top (Nat.le_trans e3.top e4.top), fun c hc1 hc2 => by
          have h2 := (x1.tr0 e2)
          rw [e4.get c (Nat.lt_of_lt_of_le hc1 (Nat.le_trans h2.top e3.top)) (by simp), e3.get c (Nat.lt_of_lt_of_le hc1 h2.top) (by simp; lia)]
          exact h2.get c hc1 hc2⟩
      · exact Nat.le_trans (x1.tr0 e2).top g3
theorem w662i (hc : Lv h a (cur D p)) (hs : D.length ≤ 1000000) (s : Sf D p ([10] ++ (w ++ ([10] ++ ([101, 110, 100, 111, 98, 106] ++ ([10] ++ r2))))))
    (hw : ∀ c ∈ w, isFig c = true) (h0 : 0 < w.length) (h18 : w.length ≤ 18) (hr2 : isWh (hd r2) = false) (hr3 : hd r2 ≠ 37)
    (q : ∀ h' p', Ext [a] h h' → Lv h' a (cur D p') → Sf D p' ([10] ++ ([101, 110, 100, 111, 98, 106] ++ ([10] ++ r2))) → k (.int (dv w)) h') : Cl (d + 6) 662 [.ref a] h k := by
  refine enter (fn := f662) (ls := [some (.ref a)]) rfl rfl ?_
  walk_at "g"
  refine nt_int hc s hs (by decide) hw h0 h18 (by rfl) fun h1 e1 l1 => ?_
  walk_at "g"
  have s1 := s.app.app
  refine w655i (ws := [10]) (ws2 := [10]) (dv_nonneg w hw).1 l1 s1 hs (by decide) (by decide) (.inr ⟨101, _, rfl, by decide⟩) (by rfl) (by decide) hr2 hr3 (by rfl) (by simp [hd]) fun h2 e2 => ?_
  walk_at "g"
  exact q _ _ (e1.tr0 e2) (l1.ext0 e2) s1
theorem w662d {Cn dL : List Nat} (hc : Lv h a (cur D p)) (s : Sf D p ([10] ++ (60 :: 60 :: ([32] ++ 47 :: (T1 ++ ([32] ++ 47 :: (Cn ++ ([32] ++ 47 :: (T2 ++ ([32] ++ (dL ++ ([32] ++ (62 :: 62 :: r))))))))))))) (hs : D.length ≤ 1000000)
    (hC1 : ∀ c ∈ Cn, isReg c = true) (hC2 : ∀ c ∈ Cn, c ≠ 35 ∧ c ≠ 0 ∧ c < 128) (hC3 : Cn.length ≤ 1000) (hL : ∀ c ∈ dL, isFig c = true) (hL0 : 0 < dL.length) (hL1 : dL.length ≤ 18)
    (q : ∀ h' b ep p', Ext [a] h h' → h.top ≤ b → Lv h' a (cur D p') → Sf D p' r → Lv h' b (.dict ep [(.str T1, .obj 320 [.str Cn]), (.str T2, .int (dv dL))]) → k (.ref b) h') : Cl (d + 6) 662 [.ref a] h k := by
  refine enter (fn := f662) (ls := [some (.ref a)]) rfl rfl ?_
  walk_at "g"
  refine nt_open hc s hs (by decide) fun h1 e1 l1 => ?_
  walk_at "g"
  have s1 := s.app.app (w := [60, 60])
  refine w655d l1 s1 hs hC1 hC2 hC3 hL hL0 hL1 fun h2 b ep p' e2 g2 l2 s2 l3 => ?_
  walk_at "g"
  exact q _ _ _ _ (e1.trans e2) (Nat.le_trans e1.top g2) l2 s2 l3
end
end
section
theorem lkL {u w : V} : lookS [76, 101, 110, 103, 116, 104] [(.str T1, u), (.str T2, w)] = some w := rfl
theorem lkT {u w : V} : lookS [84, 121, 112, 101] [(.str T1, u), (.str T2, w)] = some u := rfl
noncomputable def tStream : List Nat := [115, 116, 114, 101, 97, 109]
noncomputable def tEndS : List Nat := [101, 110, 100, 115, 116, 114, 101, 97, 109]
noncomputable def tEndO : List Nat := [101, 110, 100, 111, 98, 106]
noncomputable def tObj : List Nat := [111, 98, 106]
section
variable {d : Nat} {h : Hp} {a b ep : Nat} {D : List Nat} {p : Nat} {r r2 w ws ws2 : List Nat} {c : Nat} {k : KE} {v v2 v3 : V} {x n : Int}
theorem w669 (hb : Lv h b (.dict ep [(.str T1, v), (.str T2, .int n)])) (hn : 0 ≤ n) (q : k (.int n) h) : Cl (d + 2) 669 [.ref b, .none] h k := by
  refine enter (fn := f669) (ls := [some (.ref b), some .none, none]) rfl rfl ?_
  walk_at "g"
  rw [lkL]
  walk_at "g"
  refine w614 ?_
  walk_at "g"
  exact q
theorem w691 (hc : Lv h a (cur D p)) (s : Sf D p (ws ++ (w ++ r))) (hs : D.length ≤ 1000000) (hws : ∀ c ∈ ws, isWh c = true) (hn : isWh (hd (w ++ r)) = false) (hn2 : hd (w ++ r) ≠ 37) (hr : isReg (hd r) = false)
    (q : ∀ h', Ext [a] h h' → Lv h' a (cur D (p + ws.length + w.length)) → k (.bool true) h') : Cl (d + 3) 691 [.ref a, .bytes w] h k := by
  refine enter (fn := f691) (ls := [some (.ref a), some (.bytes w), none]) rfl rfl ?_
  walk_at "g"
  refine mk147e (fun b h1 e1 hb l1 => ?_) hs rfl
  have hc1 := hc.ext0 e1
  have hab := hc.ne hb
  walk_at "g"
  refine w102 l1.get s hs hws hn hn2 ?_
  walk_at "g"
  refine w95y Hp.set_get_self s.app hs ?_
  walk_at "g"
  refine w74 Hp.set_get_self s.app.app hs ?_
  walk_at "g"
  refine w37 ?_
  walk_at "g"
  exact q _ ((((e1.sub (by simp)).setN hb).setN hb).trans (Ext.set (by simp))) ((hc1.set_ne hab).set_ne hab).set
theorem w698 (hc : Lv h a (cur D p)) (s : Sf D p (ws ++ (w ++ r))) (hs : D.length ≤ 1000000) (hws : ∀ c ∈ ws, isWh c = true) (hw : ∀ c ∈ w, isFig c = true) (h0 : 0 < w.length) (h18 : w.length ≤ 18) (hr : isReg (hd r) = false)
    (q : ∀ h', Ext [a] h h' → Lv h' a (cur D (p + ws.length + w.length)) → k (.int (dv w)) h') : Cl (d + 5) 698 [.ref a] h k := by
  refine enter (fn := f698) (ls := [some (.ref a), none, none, none]) rfl rfl ?_
  walk_at "g"
  refine nt_int hc s hs hws hw h0 h18 hr fun h1 e1 l1 => ?_
  have := (dv_nonneg w hw).1
  walk_at "g"
  exact q _ e1 l1
theorem w684 {wt : List Nat} {ep : Nat} (hc : Lv h a (cur D p)) (s : Sf D p ([10] ++ (wt ++ ([10] ++ (tEndS ++ r))))) (hs : D.length ≤ 1000000) (hb : Lv h b (.dict ep [(.str T1, v), (.str T2, .int wt.length)]))
    (q : ∀ h', Ext [a] h h' → Lv h' a (cur D (p + 1 + wt.length + 1 + 9)) → k (.obj 363 [.ref b, .bytes wt]) h') : Cl (d + 3) 684 [.ref a, .ref b, .none] h k := by
  refine enter (fn := f684) (ls := [some (.ref a), some (.ref b), some .none, none, none, none, none]) rfl rfl ?_
  have hab : a ≠ b := fun e => by
    have h1 := hc.get
    have h2 := hb.get
    rw [e, h2] at h1; simp [cur] at h1
  walk_at "g"
  refine w116y hc.get s hs ?_
  have hb1 := hb.set_ne (Ne.symm hab) (o' := cur D (p + 1))
  have hc1 := hc.set (o' := cur D (p + 1))
  generalize hh1 : h.set a (cur D (p + 1)) = h1 at hb1 hc1 ⊢
  have x1 : Ext [a] h h1 := by rw [← hh1]; exact Ext.set (by simp)
  clear hc hh1
  clear hb
  walk_at "g"
  refine w669 hb1 (by lia) ?_
  walk_at "g"
  have s1 := s.app
  have s2 := s1.app
  refine mk147e (p := p + 1 + wt.length) (fun f h2 e2 hf l2 => ?_) hs (by lia)
  have hc2 := hc1.ext0 e2
  have hb2 := hb1.ext0 e2
  have haf := hc1.ne hf
  walk_at "g"
  refine w116y l2.get s2 hs ?_
  walk_at "g"
  refine w95y Hp.set_get_self s2.app hs ?_
  walk_at "g"
  have e1 : (((p + 1 : Nat) : Int) + (wt.length : Int)).toNat = p + 1 + wt.length := by lia
  rw [e1, Int.toNat_natCast, show cut D (p + 1) (p + 1 + wt.length) = wt from s1.cut]
  refine mk363 fun h3 e3 => ?_
  have hF := Nat.le_trans x1.top hf
  exact q _ ((((x1.tr0 e2).setN hF).setN hF).trans (Ext.set (by simp)) |>.tr0 e3) (((hc2.set_ne haf).set_ne haf).set.ext0 e3)
theorem w706i {dN dG : List Nat} (hc : Lv h a (cur D p)) (hs : D.length ≤ 1000000) (s : Sf D p (dN ++ ([32] ++ (dG ++ ([32] ++ (tObj ++ ([10] ++ (w ++ ([10] ++ (tEndO ++ ([10] ++ r2)))))))))))
    (hN : ∀ c ∈ dN, isFig c = true) (hN0 : 0 < dN.length) (hN18 : dN.length ≤ 18) (hG : ∀ c ∈ dG, isFig c = true) (hG0 : 0 < dG.length) (hG18 : dG.length ≤ 18)
    (hw : ∀ c ∈ w, isFig c = true) (h0 : 0 < w.length) (h18 : w.length ≤ 18) (hr2 : isWh (hd r2) = false) (hr3 : hd r2 ≠ 37)
    (q : ∀ h', Ext [a] h h' → k (.tup [.int (dv dN), .int (dv dG), .int (dv w)]) h') : Cl (d + 7) 706 [.ref a, .none] h k := by
  refine enter (fn := f706) (ls := [some (.ref a), some .none, none, none, none, none, none, none]) rfl rfl ?_
  walk_at "g"
  refine w698 (ws := []) hc s hs (by simp) hN hN0 hN18 hd_sp fun h1 e1 l1 => ?_
  walk_at "g"
  refine w698 l1 s.app hs sp_ok hG hG0 hG18 hd_sp fun h2 e2 l2 => ?_
  walk_at "g"
  refine nt_word (w := tObj) l2 s.app.app.app hs sp_ok (by decide) ⟨111, _, rfl, by decide⟩ (by rfl) fun h3 e3 l3 => ?_
  walk_at "g"
  refine w662i l3 hs s.app.app.app.app.app hw h0 h18 hr2 hr3 fun h4 p4 e4 l4 s4 => ?_
  walk_at "g"
  refine w691 (w := tEndO) l4 s4 hs (by decide) (by rfl) (by simp [hd, tEndO]) (by rfl) fun h5 e5 l5 => ?_
  walk_at "g"
  exact q _ ((((e1.trans e2).trans e3).trans e4).trans e5)
theorem w706d {dN dG Cn dL wt : List Nat} (hc : Lv h a (cur D p)) (hs : D.length ≤ 1000000) (s : Sf D p (dN ++ ([32] ++ (dG ++ ([32] ++ (tObj ++ ([10] ++ (60 :: 60 :: ([32] ++ (47 :: (T1 ++ ([32] ++ (47 :: (Cn ++ ([32] ++ (47 :: (T2 ++ ([32] ++ (dL ++ ([32] ++ (62 :: 62 :: ([10] ++ (tStream ++ ([10] ++ (wt ++ ([10] ++ (tEndS ++ ([10] ++ (tEndO ++ ([10] ++ (r2)))))))))))))))))))))))))))))))
    (hN : ∀ c ∈ dN, isFig c = true) (hN0 : 0 < dN.length) (hN18 : dN.length ≤ 18) (hG : ∀ c ∈ dG, isFig c = true) (hG0 : 0 < dG.length) (hG18 : dG.length ≤ 18)
    (hC1 : ∀ c ∈ Cn, isReg c = true) (hC2 : ∀ c ∈ Cn, c ≠ 35 ∧ c ≠ 0 ∧ c < 128) (hC3 : Cn.length ≤ 1000) (hL : ∀ c ∈ dL, isFig c = true) (hL0 : 0 < dL.length) (hL1 : dL.length ≤ 18) (hdL : dv dL = wt.length)
    (q : ∀ h' b ep, Ext [a] h h' → Lv h' b (.dict ep [(.str T1, .obj 320 [.str Cn]), (.str T2, .int wt.length)]) → k (.tup [.int (dv dN), .int (dv dG), .obj 363 [.ref b, .bytes wt]]) h') : Cl (d + 7) 706 [.ref a, .none] h k := by
  refine enter (fn := f706) (ls := [some (.ref a), some .none, none, none, none, none, none, none]) rfl rfl ?_
  walk_at "g"
  refine w698 (ws := []) hc s hs (by simp) hN hN0 hN18 hd_sp fun h1 e1 l1 => ?_
  walk_at "g"
  refine w698 l1 s.app hs sp_ok hG hG0 hG18 hd_sp fun h2 e2 l2 => ?_
  walk_at "g"
  refine nt_word (w := tObj) l2 s.app.app.app hs sp_ok (by decide) ⟨111, _, rfl, by decide⟩ (by rfl) fun h3 e3 l3 => ?_
  walk_at "g"
  refine w662d l3 s.app.app.app.app.app hs hC1 hC2 hC3 hL hL0 hL1 fun h4 b ep p4 e4 g4 l4 s4 lb => ?_
  rw [hdL] at lb
  have x4 := ((e1.trans e2).trans e3).trans e4
  clear e1 e2 e3 e4 l1 l2 l3
  walk_at "g"
  refine w691 (w := tStream) l4 s4 hs (by decide) (by rfl) (by simp [hd, tStream]) (by rfl) fun h5 e5 l5 => ?_
  have hab : b ≠ a := fun e => by
    have h1 := l4.get
    have h2 := lb.get
    rw [e, h1] at h2; simp [cur] at h2
  replace lb := lb.ext e5 (ne1 hab)
  walk_at "g"
  refine w684 l5 s4.app.app hs lb fun h6 e6 l6 => ?_
  replace lb := lb.ext e6 (ne1 hab)
  walk_at "g"
  refine w691 (w := tEndO) l6 s4.app.app.app.app.app.app hs (by decide) (by rfl) (by simp [hd, tEndO]) (by rfl) fun h7 e7 l7 => ?_
  replace lb := lb.ext e7 (ne1 hab)
  walk_at "g"
  exact q _ _ _ (((x4.trans e5).trans e6).trans e7) lb
end
end
section
section
variable {d : Nat} {h : Hp} {a b ep : Nat} {D : List Nat} {p : Nat} {r r2 w ws ws2 : List Nat} {c : Nat} {k : KE} {v v2 v3 : V} {x n m : Int}
theorem w794 {dN dG : List Nat} (hs : D.length ≤ 1000000) (s : Sf D p (dN ++ ([32] ++ (dG ++ ([32] ++ (tObj ++ ([10] ++ r)))))))
    (hN : ∀ c ∈ dN, isFig c = true) (hN0 : 0 < dN.length) (hN18 : dN.length ≤ 18) (hG : ∀ c ∈ dG, isFig c = true) (hG0 : 0 < dG.length) (hG18 : dG.length ≤ 18) (hN2 : isWh (hd dN) = false ∧ hd dN ≠ 37) (hG2 : isWh (hd dG) = false ∧ hd dG ≠ 37)
    (q : ∀ h', Ext [] h h' → k (.bool (decide (dv dN = n ∧ dv dG = m))) h') : Cl (d + 3) 794 [.bytes D, .int n, .obj 730 [v, .int p, .int m]] h k := by
  refine enter (fn := f794) (ls := [some (.bytes D), some (.int n), some (.obj 730 [v, .int p, .int m]), none]) rfl rfl ?_
  have hl := s.len
  simp only [List.length_append, tObj, List.length_cons, List.length_nil] at hl
  have hd1 : ∀ l l2 : List Nat, 0 < l.length → hd (l ++ l2) = hd l := fun l l2 h => by
    induction l using List.casesOn with
    | nil => simp at h
    | cons c l => rfl
  walk_at "g"
  refine mk147 (fun b h1 e1 hb l1 => ?_) hs
  walk_at "g"
  refine w102 (ws := []) l1.get s hs (by simp) (show isWh (hd (dN ++ _)) = false by rw [hd1 _ _ hN0]; exact hN2.1) (show hd (dN ++ _) ≠ 37 by rw [hd1 _ _ hN0]; exact hN2.2) ?_
  walk_at "g"
  refine w130 Hp.set_get_self (s.app (w := [])) hs hN hN0 hN18 (by rfl) ?_
  walk_at "g"
  by_cases t : dv dN = n
  · walk_at "g"
    refine w102 Hp.set_get_self (s.app (w := [])).app hs sp_ok (show isWh (hd (dG ++ _)) = false by rw [hd1 _ _ hG0]; exact hG2.1) (show hd (dG ++ _) ≠ 37 by rw [hd1 _ _ hG0]; exact hG2.2) ?_
    walk_at "g"
    refine w130 Hp.set_get_self (s.app (w := [])).app.app hs hG hG0 hG18 (by rfl) ?_
    walk_at "g"
    by_cases t2 : dv dG = m
    · walk_at "g"
      refine w102 Hp.set_get_self (s.app (w := [])).app.app.app hs sp_ok (by rfl) (by simp [hd, tObj]) ?_
      walk_at "g"
      refine w109 Hp.set_get_self (s.app (w := [])).app.app.app.app hs (by decide) (by rfl) ?_
      have e : eqL tObj [111, 98, 106] = true := rfl
      walk_at "g"
      rw [decide_eq_true ⟨t, t2⟩] at q
      exact q _ ((((((e1.setN hb).setN hb).setN hb).setN hb).setN hb).setN hb)
    · rw [decide_eq_false (fun q => t2 q.2)] at q
      walk_at "g"
      exact q _ ((((e1.setN hb).setN hb).setN hb).setN hb)
  · rw [decide_eq_false (fun q => t q.1)] at q
    walk_at "g"
    exact q _ ((e1.setN hb).setN hb)
theorem w801i (q : k (.bool false) h) : Cl (d + 1) 801 [.int n] h k := by
  refine enter (fn := f801) (ls := [some (.int n)]) rfl rfl ?_
  walk_at "g"
  exact q
theorem w801s (hb : Lv h b (.dict ep [(.str T1, v), (.str T2, .int n)])) (q : k (.bool false) h) : Cl (d + 1) 801 [.obj 363 [.ref b, v2]] h k := by
  refine enter (fn := f801) (ls := [some (.obj 363 [.ref b, v2])]) rfl rfl ?_
  walk_at "g"
  exact q
end
end
section
structure Rw where
  num : Nat
  gen : Nat
  at' : Nat
  way : Nat
  codes : List Nat
structure Rw.Ok (r : Rw) : Prop where
  num : 1 ≤ r.num ∧ r.num ≤ 6
  gen : r.gen ≤ 1
  way : r.way ≤ 3
  len : 1 ≤ r.codes.length ∧ r.codes.length ≤ 4
  codes : ∀ c ∈ r.codes, 32 ≤ c ∧ c ≤ 121
noncomputable def tOst : List Nat := [79, 98, 106, 83, 116, 109]
noncomputable def tXrf : List Nat := [88, 82, 101, 102]
noncomputable def strT (Cn dL wt t : List Nat) : List Nat :=
  60 :: 60 :: ([32] ++ (47 :: (T1 ++ ([32] ++ (47 :: (Cn ++ ([32] ++ (47 :: (T2 ++ ([32] ++ (dL ++ ([32] ++ (62 :: 62 :: ([10] ++ (tStream ++ ([10] ++ (wt ++ ([10] ++ (tEndS ++ t)))))))))))))))))))
noncomputable def Rw.bodyT (r : Rw) (t : List Nat) : List Nat := if r.way = 1 then strT tOst (decText r.codes.length) r.codes t else if r.way = 2 then strT tXrf [48] [] t else decText (r.codes.headD 0) ++ t
noncomputable def Rw.segT (r : Rw) (t : List Nat) : List Nat := decText r.num ++ ([32] ++ (decText r.gen ++ ([32] ++ (tObj ++ ([10] ++ r.bodyT ([10] ++ (tEndO ++ ([10] ++ t))))))))
structure Rw.At (D : List Nat) (r : Rw) : Prop where
  ok : r.Ok
  at' : ∃ t, Sf D r.at' (r.segT t) ∧ isWh (hd t) = false ∧ hd t ≠ 37
inductive Mv where
  | none
  | int (c : Int)
  | ost (l : List Nat)
  | xrf
theorem mv_ost {a b : List Nat} : Mv.ost a = Mv.ost b ↔ a = b := ⟨fun e => by injection e, fun e => e ▸ rfl⟩
noncomputable def Rw.val (r : Rw) : Mv := if r.way = 1 then .ost r.codes else if r.way = 2 then .xrf else .int (r.codes.headD 0 : Nat)
inductive IsV (h : Hp) : Mv → V → Prop
  | none : IsV h .none .none
  | int (c : Int) : IsV h (.int c) (.int c)
  | ost {b ep : Nat} {l : List Nat} : Lv h b (.dict ep [(.str T1, .obj 320 [.str tOst]), (.str T2, .int l.length)]) → IsV h (.ost l) (.obj 363 [.ref b, .bytes l])
  | xrf {b ep : Nat} : Lv h b (.dict ep [(.str T1, .obj 320 [.str tXrf]), (.str T2, .int 0)]) → IsV h .xrf (.obj 363 [.ref b, .bytes []])
noncomputable def NoHd (o : O) : Prop := ∀ ep v w, o ≠ .dict ep [(.str T1, v), (.str T2, w)]
theorem IsV.ext0 {h h' : Hp} {m : Mv} {v : V} (i : IsV h m v) (e : Ext [] h h') : IsV h' m v := by
  induction i using IsV.casesOn with
  | none => exact .none
  | int c => exact .int c
  | ost l => exact .ost (l.ext0 e)
  | xrf l => exact .xrf (l.ext0 e)
theorem NoHd.ne {h : Hp} {T b ep : Nat} {o : O} {v w : V} (n : NoHd o) (l : Lv h T o) (lb : Lv h b (.dict ep [(.str T1, v), (.str T2, w)])) : b ∉ [T] := by
  simp only [List.mem_singleton]
  rintro rfl
  have h1 := l.get
  have h2 := lb.get
  rw [h1] at h2
  exact n _ _ _ (Option.some.inj h2)
theorem IsV.ext1 {h h' : Hp} {m : Mv} {v : V} {T : Nat} {o : O} (i : IsV h m v) (l : Lv h T o) (n : NoHd o) (e : Ext [T] h h') : IsV h' m v := by
  induction i using IsV.casesOn with
  | none => exact .none
  | int c => exact .int c
  | ost lb => exact .ost (lb.ext e (n.ne l lb))
  | xrf lb => exact .xrf (lb.ext e (n.ne l lb))
theorem dec_ok : ∀ n, n < 122 → (∀ c ∈ decText n, isFig (c : Int) = true) ∧ dv (decText n) = n ∧ 0 < (decText n).length ∧ (decText n).length ≤ 18 ∧ isWh (hd (decText n)) = false ∧ hd (decText n) ≠ 37 := by decide +kernel
section
variable {d : Nat} {h : Hp} {a b ep : Nat} {D : List Nat} {p : Nat} {w ws ws2 : List Nat} {c : Nat} {k : KE} {v v2 v3 : V} {x n m : Int} {r : Rw}
theorem Rw.Ok.head (o : r.Ok) : 32 ≤ r.codes.headD 0 ∧ r.codes.headD 0 ≤ 121 := by
  cases e : r.codes with
  | nil => have := o.len; rw [e] at this; simp at this
  | cons c l => exact o.codes c (by rw [e]; simp)
theorem w808 (hs : D.length ≤ 1000000) (R : r.At D) (q : ∀ h' v, Ext [] h h' → IsV h' r.val v → k v h') : Cl (d + 8) 808 [.bytes D, .obj 730 [v, .int r.at', v2], .none] h k := by
  refine enter (fn := f808) (ls := [some (.bytes D), some (.obj 730 [v, .int r.at', v2]), some .none]) rfl rfl ?_
  obtain ⟨o, t, s, t1, t2⟩ := R
  refine e05 (dec_ok r.num (by have := o.num; lia)) fun n1 n2 n3 n4 Z => ?_
  refine e05 (dec_ok r.gen (by have := o.gen; lia)) fun g1 g2 g3 g4 Z => ?_
  walk_at "g"
  refine mk147 (fun a h1 e1 ha l1 => ?_) hs
  walk_at "g"
  by_cases w1 : r.way = 1
  · have e : r.bodyT ([10] ++ (tEndO ++ ([10] ++ t))) = strT tOst (decText r.codes.length) r.codes ([10] ++ (tEndO ++ ([10] ++ t))) := if_pos w1
    unfold Rw.segT at s
    rw [e] at s
    refine e05 (dec_ok r.codes.length (by have := o.len; lia)) fun c1 c2 c3 c4 Z => ?_
    refine w706d l1 hs s n1 n3 n4 g1 g3 g4 (by decide) (by decide) (by decide) c1 c3 c4 c2 fun h2 b ep e2 lb => ?_
    walk_at "g"
    refine q _ _ ((e1.sub (by simp)).trans e2 |>.new (a := a) ha) ?_
    rw [Rw.val, if_pos w1]
    exact .ost lb
  · by_cases w2 : r.way = 2
    · have e : r.bodyT ([10] ++ (tEndO ++ ([10] ++ t))) = strT tXrf [48] [] ([10] ++ (tEndO ++ ([10] ++ t))) := (if_neg w1).trans (if_pos w2)
      unfold Rw.segT at s
      rw [e] at s
      refine w706d l1 hs s n1 n3 n4 g1 g3 g4 (by decide) (by decide) (by decide) (by decide) (by decide) (by decide) (by decide) fun h2 b ep e2 lb => ?_
      walk_at "g"
      refine q _ _ ((e1.sub (by simp)).trans e2 |>.new (a := a) ha) ?_
      rw [Rw.val, if_neg w1, if_pos w2]
      exact .xrf lb
    · have e : r.bodyT ([10] ++ (tEndO ++ ([10] ++ t))) = decText (r.codes.headD 0) ++ ([10] ++ (tEndO ++ ([10] ++ t))) := (if_neg w1).trans (if_neg w2)
      unfold Rw.segT at s
      rw [e] at s
      refine e05 (dec_ok (r.codes.headD 0) (by have := o.head; lia)) fun c1 c2 c3 c4 Z => ?_
      refine w706i l1 hs s n1 n3 n4 g1 g3 g4 c1 c3 c4 t1 t2 fun h2 e2 => ?_
      walk_at "g"
      refine q _ _ ((e1.sub (by simp)).trans e2 |>.new (a := a) ha) ?_
      rw [Rw.val, if_neg w1, if_neg w2, c2]
      exact .int _
theorem w794r (hs : D.length ≤ 1000000) (R : r.At D) (q : ∀ h', Ext [] h h' → k (.bool (decide ((r.num : Int) = n ∧ (r.gen : Int) = m))) h') : Cl (d + 3) 794 [.bytes D, .int n, .obj 730 [v, .int r.at', .int m]] h k := by
  obtain ⟨o, t, s, t1, t2⟩ := R
  refine e05 (dec_ok r.num (by have := o.num; lia)) fun n1 n2 n3 n4 n5 => ?_
  refine e05 (dec_ok r.gen (by have := o.gen; lia)) fun g1 g2 g3 g4 g5 => ?_
  refine w794 hs s n1 n3 n4 g1 g3 g4 n5 g5 ?_
  rw [n2, g2]
  exact q
theorem w801 {mv : Mv} (i : IsV h mv v) (hn : mv ≠ .none) (q : k (.bool false) h) : Cl (d + 1) 801 [v] h k := by
  induction i using IsV.casesOn with
  | none => exact absurd rfl hn
  | int c => exact w801i q
  | ost lb => exact w801s lb q
  | xrf lb => exact w801s lb q
end
end
section
noncomputable def ed {α : Type} (f : α → V) (l : List (Int × α)) : List (V × V) := l.map fun p => (.int p.1, f p.2)
noncomputable def lk {α : Type} (i : Int) : List (Int × α) → Option α
  | [] => none
  | p :: r => if i = p.1 then some p.2 else lk i r
noncomputable def pk {α : Type} (i : Int) (x : α) : List (Int × α) → List (Int × α)
  | [] => [(i, x)]
  | p :: r => if i = p.1 then (p.1, x) :: r else p :: pk i x r
noncomputable def dk {α : Type} (i : Int) (l : List (Int × α)) : List (Int × α) := l.filter fun p => !decide (i = p.1)
noncomputable def keys {α : Type} (l : List (Int × α)) : List Int := l.map (·.1)
section
variable {α : Type} {f : α → V} {i j : Int} {x : α} {l : List (Int × α)}
theorem lk_cons {p : Int × α} {r : List (Int × α)} : lk i (p :: r) = if i = p.1 then some p.2 else lk i r := rfl
theorem pk_cons {p : Int × α} {r : List (Int × α)} : pk i x (p :: r) = if i = p.1 then (p.1, x) :: r else p :: pk i x r := rfl
theorem ed_keys : intKeys (ed f l) = some (keys l) := by
  induction l with
  | nil => rfl
  | cons p r ih =>
    show (intKeys (ed f r)).map (p.1 :: ·) = some (p.1 :: keys r)
    rw [ih]; rfl
theorem ed_keysN : ¬ intKeys (ed f l) = none := by rw [ed_keys]; simp
theorem ed_len : (ed f l).length = l.length := by simp [ed]
theorem ed_kN (h : l.length ≤ 1000000) : ¬ intKeys (ed f l) = none ∧ small (ed f l).length := ⟨ed_keysN, by rw [ed_len]; exact h⟩
theorem ed_look : lookI i (ed f l) = (lk i l).map f := by
  induction l with
  | nil => rfl
  | cons p r ih =>
    show (if i = p.1 then some (f p.2) else lookI i (ed f r)) = (if i = p.1 then some p.2 else lk i r).map f
    split
    · rfl
    · exact ih
theorem ed_lkS (e : lk i l = some x) : lookI i (ed f l) = some (f x) := by rw [ed_look, e]; rfl
theorem ed_get (e : lk i l = some x) {d : V} : (lookI i (ed f l)).getD d = f x := by rw [ed_look, e]; rfl
theorem ed_getN (e : lk i l = none) {d : V} : (lookI i (ed f l)).getD d = d := by rw [ed_look, e]; rfl
theorem ed_isT (e : lk i l = some x) : (lookI i (ed f l)).isSome = true := by rw [ed_look, e]; rfl
theorem ed_isF (e : lk i l = none) : (lookI i (ed f l)).isSome = false := by rw [ed_look, e]; rfl
theorem ed_put : putI i (f x) (ed f l) = ed f (pk i x l) := by
  induction l with
  | nil => rfl
  | cons p r ih =>
    show (if i = p.1 then (V.int p.1, f x) :: ed f r else (.int p.1, f p.2) :: putI i (f x) (ed f r)) = ed f (if i = p.1 then (p.1, x) :: r else p :: pk i x r)
    split
    · rfl
    · rw [ih]; rfl
theorem ed_del : delI i (ed f l) = ed f (dk i l) := by
  unfold delI dk ed
  rw [List.filter_map]; rfl
theorem lk_pk : lk i (pk j x l) = if i = j then some x else lk i l := by
  induction l with
  | nil => rfl
  | cons p r ih =>
    rw [pk_cons, lk_cons]
    by_cases e : j = p.1
    · rw [if_pos e, lk_cons, e]
      show (if i = p.1 then some x else lk i r) = _
      by_cases e2 : i = p.1
      · rw [if_pos e2, if_pos e2]
      · rw [if_neg e2, if_neg e2, if_neg e2]
    · rw [if_neg e, lk_cons, ih]
      by_cases e2 : i = p.1
      · rw [if_pos e2, if_neg (fun q => e (q.symm.trans e2)), if_pos e2]
      · rw [if_neg e2, if_neg e2]
theorem lk_dk : lk i (dk j l) = if i = j then none else lk i l := by
  induction l with
  | nil => exact (ite_self _).symm
  | cons p r ih =>
    unfold dk at ih ⊢
    rw [List.filter_cons]
    by_cases e : j = p.1
    · simp only [e, decide_true, Bool.not_true, Bool.false_eq_true, if_false]
      rw [e] at ih
      rw [ih, lk_cons]
      split
      · rfl
      · rfl
    · simp only [e, decide_false, Bool.not_false, if_true]
      rw [lk_cons, lk_cons, ih]
      by_cases e2 : i = p.1
      · rw [if_pos e2, if_neg (fun q => e (q.symm.trans e2)), if_pos e2]
      · rw [if_neg e2, if_neg e2]
theorem lk_mem : lk i l ≠ none ↔ i ∈ keys l := by
  induction l with
  | nil => exact ⟨fun h => absurd rfl h, fun h => absurd h List.not_mem_nil⟩
  | cons p r ih =>
    rw [lk_cons]
    split
    · rename_i e; simp [keys, e]
    · rename_i e; rw [ih]; simp [keys, e]
theorem lk_some {y : α} (nd : (keys l).Nodup) (h : (i, y) ∈ l) : lk i l = some y := by
  induction l with
  | nil => simp at h
  | cons p r ih =>
    have nd' := List.nodup_cons.mp nd
    rw [lk_cons]
    rcases List.mem_cons.mp h with e | h
    · subst e
      simp
    · have : i ≠ p.1 := fun e => nd'.1 (by show p.1 ∈ _; rw [← e]; exact List.mem_map_of_mem (f := (·.1)) h)
      rw [if_neg this]
      exact ih nd'.2 h
theorem pk_keys : keys (pk i x l) = if i ∈ keys l then keys l else keys l ++ [i] := by
  induction l with
  | nil => rfl
  | cons p r ih =>
    rw [pk_cons]
    by_cases e : i = p.1
    · subst e; rw [if_pos rfl]; simp [keys]
    · rw [if_neg e]
      show p.1 :: keys (pk i x r) = _
      rw [ih]
      have : (i ∈ keys (p :: r)) ↔ i ∈ keys r := by simp [keys, e]
      by_cases h : i ∈ keys r
      · rw [if_pos h, if_pos (this.mpr h)]; rfl
      · rw [if_neg h, if_neg (fun q => h (this.mp q))]; rfl
theorem pk_nodup (nd : (keys l).Nodup) : (keys (pk i x l)).Nodup := by
  rw [pk_keys]
  split
  · exact nd
  · rename_i h
    rw [List.nodup_append]
    refine ⟨nd, by simp, fun a ha b hb => ?_⟩
    rw [List.mem_singleton] at hb
    subst hb
    rintro rfl; exact h ha
theorem pk_mem {y : Int} : y ∈ keys (pk i x l) ↔ y = i ∨ y ∈ keys l := by
  rw [pk_keys]
  split
  · rename_i h
    constructor
    · exact .inr
    · rintro (rfl | q)
      · exact h
      · exact q
  · simp [or_comm]
theorem dk_keys : keys (dk i l) = (keys l).filter fun j => !decide (i = j) := by
  unfold keys dk
  rw [List.filter_map]; rfl
theorem dk_nodup (nd : (keys l).Nodup) : (keys (dk i l)).Nodup := by
  rw [dk_keys]; exact nd.sublist List.filter_sublist
theorem nodup_len (n : Nat) : ∀ {l : List Int}, l.Nodup → (∀ x ∈ l, 0 ≤ x ∧ x < n) → l.length ≤ n := by
  induction n with
  | zero =>
    intro l nd h
    induction l using List.casesOn with
    | nil => exact Nat.le_refl _
    | cons x l => exact absurd (h x (.head _)).1 (Int.not_le.mpr (h x (.head _)).2)
  | succ n ih =>
    intro l nd h
    have h1 := ih (l := l.erase (n : Int)) (nd.erase _) fun x hx => by
      have h2 := (nd.mem_erase_iff).mp hx
      have := h x h2.2
      lia
    have h2 := List.length_erase (a := (n : Int)) (l := l)
    split at h2 <;> lia
theorem keys_len {n : Nat} (nd : (keys l).Nodup) (h : ∀ x ∈ keys l, 0 ≤ x ∧ x < n) : l.length ≤ n := by
  have := nodup_len n nd h
  simpa [keys] using this
theorem sorted_ed {h : Hp} {k : KE} (hl : l.length < 64) (q : ∀ b h', Ext [] h h' → h.top ≤ b → Lv h' b (.list ((sortI (keys l)).map .int)) → Go (k (.ref b) h')) : sortD h k (ed f l) := by
  have fin : sortN h k (ed f l) := ⟨_, ed_keys, by simpa [keys] using hl, fr1 q⟩
  induction l using List.casesOn with
  | nil => exact fin
  | cons p r => exact fin
end
end
local macro_rules | `(tactic| walk_at "d") => `(tactic| first | exact ed_keysN | exact ed_kN (by omega))
local macro_rules | `(tactic| walk_at "v") => `(tactic| exact ed_lkS (by assumption))
local macro_rules | `(tactic| walk_at "q") => `(tactic| first | exact ed_isT (by assumption) | exact ed_isF (by assumption))
local macro_rules | `(tactic| walk_at "s") => `(tactic| (apply valG; focus first | exact ed_get (by assumption) | exact ed_getN (by assumption)))
section
noncomputable def fS (p : Int × V) : V := .tup [.int p.1, p.2]
noncomputable abbrev Tb := List (Int × Int × V)
noncomputable def isOst : Mv → Bool
  | .ost _ => true
  | _ => false
noncomputable def isXrf : Mv → Bool
  | .xrf => true
  | _ => false
section
variable {d : Nat} {h : Hp} {a b ep S T TR : Nat} {k : KE} {v v2 v3 : V} {x n m g : Int} {mv : Mv} {tb : Tb} {w : List Nat}
theorem w402none (q : k (.str [110, 117, 108, 108]) h) : Cl (d + 1) 402 [.none] h k := by
  refine enter (fn := f402) (ls := [some .none]) rfl rfl ?_
  walk_at "g"
theorem w402int (q : k (.str [105, 110, 116]) h) : Cl (d + 1) 402 [.int n] h k := by
  refine enter (fn := f402) (ls := [some (.int n)]) rfl rfl ?_
  walk_at "g"
theorem w402name (q : k (.str [110, 97, 109, 101]) h) : Cl (d + 1) 402 [.obj 320 [v]] h k := by
  refine enter (fn := f402) (ls := [some (.obj 320 [v])]) rfl rfl ?_
  walk_at "g"
theorem w402st {l : List V} (q : k (.str [115, 116, 114, 101, 97, 109]) h) : Cl (d + 1) 402 [.obj 363 l] h k := by
  refine enter (fn := f402) (ls := [some (.obj 363 l)]) rfl rfl ?_
  walk_at "g"
theorem w402dict {es : List (V × V)} (ha : Lv h a (.dict ep es)) (q : k (.str [100, 105, 99, 116]) h) : Cl (d + 1) 402 [.ref a] h k := by
  refine enter (fn := f402) (ls := [some (.ref a)]) rfl rfl ?_
  walk_at "g"
theorem rng30 : rngL 0 1 (Int.toNat 30) = .int 0 :: .int 1 :: rngL 2 1 28 := rfl
theorem w436v {c : Nat} {l : List V} (hc : Nat.beq c 391 = false) (q : k (.obj c l) h) : Cl (d + 1) 436 [.ref S, .obj c l] h k := by
  refine enter (fn := f436) (ls := [some (.ref S), some (.obj c l), none, none, none, none]) rfl rfl ?_
  walk_at "g"
  refine ⟨?_⟩
  rw [rng30]
  refine forL_cons trivial ?_
  walk_at "g"
theorem w436r (hS : Lv h S (.inst 500 [.ref T, .ref TR])) (hT : Lv h T (.dict ep (ed fS tb)))
    (hn : lk n tb = none → g ≠ -1) (hv : ∀ v, lk n tb = some (g, v) → ∃ mv, IsV h mv v) (q1 : (∀ v, lk n tb ≠ some (g, v)) → k .none h) (q2 : ∀ v, lk n tb = some (g, v) → k v h) : Cl (d + 1) 436 [.ref S, .obj 391 [.int n, .int g]] h k := by
  refine enter (fn := f436) (ls := [some (.ref S), some (.obj 391 [.int n, .int g]), none, none, none, none]) rfl rfl ?_
  walk_at "g"
  refine ⟨?_⟩
  rw [rng30]
  refine forL_cons trivial ?_
  walk_at "g"
  cases e : lk n tb with
  | none =>
    have q1 := q1 (by rw [e]; simp)
    have hn := hn e
    clear hv q2
    walk_at "g"
  | some p =>
    obtain ⟨g', v⟩ := p
    by_cases hg : g' = g
    · subst hg
      obtain ⟨mv, i⟩ := hv v e
      have q2 := q2 v e
      clear hv q1 hn
      walk_at "g"
      induction i using IsV.casesOn with
      | none => walk_at "g"
      | int c => walk_at "g"
      | ost l => walk_at "g"
      | xrf l => walk_at "g"
    · have q1 := q1 (by rw [e]; intro v q; cases q; exact hg rfl)
      clear hv q2 hn
      walk_at "g"
theorem w443 {A : List Nat} {u : V} (hb : Lv h b (.dict ep [(.str T1, .obj 320 [.str A]), (.str T2, u)])) (hS : Lv h S (.inst 500 [.ref T, .ref TR])) (q : k (.obj 320 [.str A]) h) : Cl (d + 2) 443 [.ref S, .ref b, .str [84, 121, 112, 101]] h k := by
  refine enter (fn := f443) (ls := [some (.ref S), some (.ref b), some (.str [84, 121, 112, 101])]) rfl rfl ?_
  walk_at "g"
  rw [lkT]
  walk_at "g"
  exact w436v rfl q
theorem w755 (hS : Lv h S (.inst 500 [.ref T, .ref TR])) (i : IsV h mv v) (q : k (.bool (isOst mv)) h) : Cl (d + 3) 755 [.ref S, v] h k := by
  refine enter (fn := f755) (ls := [some (.ref S), some v, none]) rfl rfl ?_
  induction i using IsV.casesOn with
  | none =>
    walk_at "g"
    refine w402none ?_
    walk_at "g"
    exact q
  | int c =>
    walk_at "g"
    refine w402int ?_
    walk_at "g"
    exact q
  | ost l =>
    walk_at "g"
    refine w402st ?_
    walk_at "g"
    refine w443 l hS ?_
    walk_at "g"
    refine w402name ?_
    walk_at "g"
    exact q
  | xrf l =>
    walk_at "g"
    refine w402st ?_
    walk_at "g"
    refine w443 l hS ?_
    walk_at "g"
    refine w402name ?_
    walk_at "g"
    exact q
theorem w748 (hS : Lv h S (.inst 500 [.ref T, .ref TR])) (i : IsV h mv v) (q : k (.bool (isXrf mv)) h) : Cl (d + 3) 748 [.ref S, v] h k := by
  refine enter (fn := f748) (ls := [some (.ref S), some v, none]) rfl rfl ?_
  induction i using IsV.casesOn with
  | none =>
    walk_at "g"
    exact q
  | int c =>
    walk_at "g"
    exact q
  | ost l =>
    walk_at "g"
    refine w443 l hS ?_
    walk_at "g"
    exact q
  | xrf l =>
    walk_at "g"
    refine w443 l hS ?_
    walk_at "g"
    exact q
theorem w464 (hS : Lv h S (.inst 500 [.ref T, .ref TR])) (hT : Lv h T (.dict ep (ed fS tb))) (hl : tb.length ≤ 1000) (q : ∀ ep' h', Ext [T] h h' → Lv h' T (.dict ep' (ed fS (pk n (g, v) tb))) → k .none h') : Cl (d + 1) 464 [.ref S, .int n, .int g, v] h k := by
  refine enter (fn := f464) (ls := [some (.ref S), some (.int n), some (.int g), some v]) rfl rfl ?_
  walk_at "g"
  intro ep'
  rw [show putI n (V.tup [.int g, v]) (ed fS tb) = ed fS (pk n (g, v) tb) from ed_put (f := fS) (x := (g, v))]
  exact q _ _ (Ext.set (by simp)) hT.set
theorem w478 {p : Int × V} (hS : Lv h S (.inst 500 [.ref T, .ref TR])) (hT : Lv h T (.dict ep (ed fS tb))) (hl : tb.length ≤ 1000) (hp : lk n tb = some p) (q : ∀ ep' h', Ext [T] h h' → Lv h' T (.dict ep' (ed fS (dk n tb))) → k .none h') : Cl (d + 1) 478 [.ref S, .int n] h k := by
  refine enter (fn := f478) (ls := [some (.ref S), some (.int n)]) rfl rfl ?_
  walk_at "g"
  intro ep'
  rw [ed_del]
  exact q _ _ (Ext.set (by simp)) hT.set
theorem w485 (hS : Lv h S (.inst 500 [.ref T, .ref TR])) (hT : Lv h T (.dict ep (ed fS tb))) (hl : tb.length < 64) (q : ∀ b h', Ext [] h h' → h.top ≤ b → Lv h' b (.list ((sortI (keys tb)).map .int)) → k (.ref b) h') : Cl (d + 1) 485 [.ref S] h k := by
  refine enter (fn := f485) (ls := [some (.ref S)]) rfl rfl ?_
  walk_at "g"
  refine sorted_ed hl fun b h1 e1 g1 l1 => ?_
  walk_at "g"
  exact q _ _ e1 g1 l1
theorem w414none (q : k (.tup [.str [110, 117, 108, 108]]) h) : Cl (d + 2) 414 [.none] h k := by
  refine enter (fn := f414) (ls := [some .none, none]) rfl rfl ?_
  walk_at "g"
  refine w402none ?_
  walk_at "g"
  refine enter (fn := f409) (ls := [some (.str [110, 117, 108, 108]), some .none]) rfl rfl ?_
  walk_at "g"
theorem w414int (q : k (.tup [.str [105, 110, 116], .int n]) h) : Cl (d + 2) 414 [.int n] h k := by
  refine enter (fn := f414) (ls := [some (.int n), none]) rfl rfl ?_
  walk_at "g"
  refine w402int ?_
  walk_at "g"
  refine enter (fn := f409) (ls := [some (.str [105, 110, 116]), some (.int n)]) rfl rfl ?_
  walk_at "g"
theorem w414name (q : k (.tup [.str [110, 97, 109, 101], .str w]) h) : Cl (d + 2) 414 [.obj 320 [.str w]] h k := by
  refine enter (fn := f414) (ls := [some (.obj 320 [.str w]), none]) rfl rfl ?_
  walk_at "g"
  refine w402name ?_
  walk_at "g"
  refine enter (fn := f409) (ls := [some (.str [110, 97, 109, 101]), some (.obj 320 [.str w])]) rfl rfl ?_
  walk_at "g"
theorem w414tr {y : List Nat} (ha : Lv h a (.dict ep [(.str y, .int n)])) (q : ∀ h', Ext [] h h' → k (.tup [.str [100, 105, 99, 116], .tup [.str y, .tup [.str [105, 110, 116], .int n]]]) h') : Cl (d + 3) 414 [.ref a] h k := by
  refine enter (fn := f414) (ls := [some (.ref a), none]) rfl rfl ?_
  walk_at "g"
  refine w402dict ha ?_
  walk_at "g"
  refine fr1 fun b h1 e1 g1 l1 => ?_
  have ha1 := ha.ext0 e1
  walk_at "g"
  refine fr1 fun f h2 e2 g2 l2 => ?_
  have ha2 := ha1.ext0 e2
  have lb2 := l1.ext0 e2
  have k1 : lookS y [(.str y, .int n)] = some (.int n) := lookS_eq eqL_self
  refine ⟨denC_cons' lb2.get ?_⟩
  walk_at "g"
  refine w414int ?_
  walk_at "g"
  have hbf : b ≠ f := l1.ne g2
  refine ⟨(lb2.set_ne hbf).get, ?_⟩
  walk_at "g"
  exact q _ ((e1.trans e2).setN (Nat.le_trans e1.top g2))
theorem w414hd {A : List Nat} (ha : Lv h a (.dict ep [(.str T1, .obj 320 [.str A]), (.str T2, .int n)])) (q : ∀ x h', Ext [] h h' → k x h') : Cl (d + 3) 414 [.ref a] h k := by
  refine enter (fn := f414) (ls := [some (.ref a), none]) rfl rfl ?_
  walk_at "g"
  refine w402dict ha ?_
  walk_at "g"
  refine fr1 fun b h1 e1 g1 l1 => ?_
  have ha1 := ha.ext0 e1
  walk_at "g"
  refine fr1 fun f h2 e2 g2 l2 => ?_
  have ha2 := ha1.ext0 e2
  have lb2 := l1.ext0 e2
  have hbf : b ≠ f := l1.ne g2
  have haf : a ≠ f := ha1.ne g2
  refine ⟨denC_cons' lb2.get ?_⟩
  walk_at "g"
  refine w414int ?_
  walk_at "g"
  refine ⟨(lb2.set_ne hbf).get, ?_⟩
  walk_at "g"
  refine w414name ?_
  walk_at "g"
  refine ⟨((lb2.set_ne hbf).set_ne hbf).get, ?_⟩
  walk_at "g"
  have g3 := Nat.le_trans e1.top g2
  exact q _ _ (((e1.trans e2).setN g3).setN g3)
theorem w414st {A l : List Nat} (hb : Lv h b (.dict ep [(.str T1, .obj 320 [.str A]), (.str T2, .int n)])) (hl : l.length ≤ 1000) (q : ∀ x h', Ext [] h h' → k (.tup [.str [115, 116, 114, 101, 97, 109], x, .bytes l]) h') : Cl (d + 4) 414 [.obj 363 [.ref b, .bytes l]] h k := by
  refine enter (fn := f414) (ls := [some (.obj 363 [.ref b, .bytes l]), none]) rfl rfl ?_
  walk_at "g"
  refine w402st ?_
  walk_at "g"
  refine w414hd hb fun x h1 e1 => ?_
  have q := q x _ e1
  walk_at "g"
end
end
section
inductive Wy where
  | used | free | packed
deriving DecidableEq
noncomputable def Wy.s : Wy → List Nat
  | .used => [117, 115, 101, 100]
  | .free => [102, 114, 101, 101]
  | .packed => [112, 97, 99, 107, 101, 100]
structure Te where
  way : Wy
  one : Int
  two : Int
noncomputable def fE (e : Te) : V := .obj 730 [.str e.way.s, .int e.one, .int e.two]
noncomputable def fT (e : Te) : V := .tup [.str e.way.s, .int e.one, .int e.two]
noncomputable abbrev Es := List (Int × Te)
structure TeOk (rows : List Rw) (n : Int) (e : Te) : Prop where
  key : 0 ≤ n ∧ n < 10
  used : e.way = .used → ∃ r ∈ rows, e.one = r.at'
  packed : e.way = .packed → 1 ≤ e.one ∧ e.one < 10 ∧ 0 ≤ e.two
structure EsOk (rows : List Rw) (es : Es) : Prop where
  nd : (keys es).Nodup
  ok : ∀ n e, lk n es = some e → TeOk rows n e
structure RowsOk (D : List Nat) (rows : List Rw) : Prop where
  len : D.length ≤ 1000000
  at' : ∀ r ∈ rows, r.At D
  inj : ∀ r ∈ rows, ∀ s ∈ rows, r.at' = s.at' → r = s
noncomputable def plain (rows : List Rw) (es : Es) (n g : Int) : Option Rw := match lk n es with
  | some e => if e.way = .used ∧ e.two = g ∧ n ≠ 0 then rows.find? (fun r => decide ((r.num : Int) = n ∧ (r.gen : Int) = g ∧ (r.at' : Int) = e.one)) else none
  | none => none
theorem plain_used {D : List Nat} {rows : List Rw} (R : RowsOk D rows) {es : Es} {n g : Int} {e : Te} (he : lk n es = some e) (hw : e.way = .used) {r : Rw} (hr : r ∈ rows) (ha : e.one = r.at') :
    plain rows es n g = if e.two = g ∧ n ≠ 0 ∧ (r.num : Int) = n ∧ (r.gen : Int) = g then some r else none := by
  unfold plain
  rw [he]
  dsimp only
  by_cases h1 : e.two = g ∧ n ≠ 0
  · rw [if_pos ⟨hw, h1⟩]
    by_cases h2 : (r.num : Int) = n ∧ (r.gen : Int) = g
    · rw [if_pos ⟨h1.1, h1.2, h2⟩]
      cases q : rows.find? (fun r => decide ((r.num : Int) = n ∧ (r.gen : Int) = g ∧ (r.at' : Int) = e.one)) with
      | none =>
        have := List.find?_eq_none.mp q r hr
        simp only [decide_eq_true_eq] at this
        exact absurd ⟨h2.1, h2.2, ha.symm⟩ this
      | some s =>
        have h3 := List.find?_some q
        simp only [decide_eq_true_eq] at h3
        have := R.inj s (List.mem_of_find?_eq_some q) r hr (by lia)
        rw [this]
    · rw [if_neg (fun q => h2 q.2.2), List.find?_eq_none]
      intro s hs
      simp only [decide_eq_true_eq]
      intro hI
      refine e03 hI fun h3 h4 h5 => ?_
      have := R.inj s hs r hr (by lia)
      subst this
      exact h2 ⟨h3, h4⟩
  · rw [if_neg (fun q => h1 q.2), if_neg (fun q => h1 ⟨q.1, q.2.1⟩)]
noncomputable def Mu (rows : List Rw) (es : Es) (n : Int) : Option (Int × Mv) := match lk n es with
  | some e => if e.way = .used ∧ 0 < n then (plain rows es n e.two).map fun r => (e.two, r.val) else none
  | none => none
noncomputable def TbR (h : Hp) (tb : Tb) (M : Int → Option (Int × Mv)) : Prop := (keys tb).Nodup ∧ ∀ n, match M n with
  | none => lk n tb = none
  | some (g, mv) => ∃ v, lk n tb = some (g, v) ∧ IsV h mv v
theorem noHd_ed {α : Type} {f : α → V} {l : List (Int × α)} {ep : Nat} : NoHd (.dict ep (ed f l)) := by
  intro ep' v w e
  induction l using List.casesOn with
  | nil => cases e
  | cons p r => cases e
theorem noHd_list {l : List V} : NoHd (.list l) := fun Z Z Z e => by cases e
theorem TbR.ext0 {h h' : Hp} {tb : Tb} {M : Int → Option (Int × Mv)} (R : TbR h tb M) (e : Ext [] h h') : TbR h' tb M := ⟨R.1, fun n => by
  have := R.2 n
  cases q : M n with
  | none => rw [q] at this; exact this
  | some p => rw [q] at this; obtain ⟨v, h1, h2⟩ := this; exact ⟨v, h1, h2.ext0 e⟩⟩
theorem TbR.ext1 {h h' : Hp} {tb : Tb} {M : Int → Option (Int × Mv)} {T : Nat} {o : O} (R : TbR h tb M) (l : Lv h T o) (n : NoHd o) (e : Ext [T] h h') : TbR h' tb M := ⟨R.1, fun i => by
  have := R.2 i
  cases q : M i with
  | none => rw [q] at this; exact this
  | some p => rw [q] at this; obtain ⟨v, h1, h2⟩ := this; exact ⟨v, h1, h2.ext1 l n e⟩⟩
theorem TbR.put {h : Hp} {tb : Tb} {M M' : Int → Option (Int × Mv)} (R : TbR h tb M) {i g : Int} {mv : Mv} {v : V} (hv : IsV h mv v) (hi : M' i = some (g, mv)) (ho : ∀ j, j ≠ i → M' j = M j) : TbR h (pk i (g, v) tb) M' := ⟨pk_nodup R.1, fun j => by
  by_cases e : j = i
  · subst e
    rw [hi]
    exact ⟨v, by rw [lk_pk, if_pos rfl], hv⟩
  · rw [ho j e, lk_pk, if_neg e]
    exact R.2 j⟩
theorem TbR.congr {h : Hp} {tb : Tb} {M M' : Int → Option (Int × Mv)} (R : TbR h tb M) (e : ∀ j, M' j = M j) : TbR h tb M' := ⟨R.1, fun j => by rw [e j]; exact R.2 j⟩
theorem TbR.keys {h : Hp} {tb : Tb} {M : Int → Option (Int × Mv)} (R : TbR h tb M) (i : Int) : i ∈ Mi.keys tb ↔ M i ≠ none := by
  have := R.2 i
  rw [← lk_mem]
  cases q : M i with
  | none => rw [q] at this; simp only at this; simp [this]
  | some p => rw [q] at this; obtain ⟨v, h1, _⟩ := this; simp [h1]
theorem TbR.len {h : Hp} {tb : Tb} {M : Int → Option (Int × Mv)} (R : TbR h tb M) (hk : ∀ i, M i ≠ none → 0 ≤ i ∧ i < 10) : tb.length ≤ 10 := keys_len (n := 10) R.1 fun x hx => hk x ((R.keys x).mp hx)
theorem EsOk.keys {rows : List Rw} {es : Es} (E : EsOk rows es) : ∀ x ∈ Mi.keys es, 0 ≤ x ∧ x < 10 := fun x hx => by
  have := lk_mem.mpr hx
  cases q : lk x es with
  | none => exact absurd q this
  | some e => exact (E.ok x e q).key
theorem EsOk.len {rows : List Rw} {es : Es} (E : EsOk rows es) : es.length ≤ 10 := keys_len (n := 10) E.nd E.keys
theorem Mu_key {rows : List Rw} {es : Es} {n : Int} (h : Mu rows es n ≠ none) : n ∈ Mi.keys es := by
  rw [← lk_mem]
  unfold Mu at h
  intro q
  rw [q] at h; exact h rfl
theorem Rw.val_ne (r : Rw) : r.val ≠ .none := by
  unfold Rw.val
  split
  · simp
  · split <;> simp
theorem take_mem {l : List Int} {i : Nat} {n j : Int} (e : l[i]? = some n) : j ∈ l.take (i + 1) ↔ j = n ∨ j ∈ l.take i := by
  rw [List.take_add_one, e]; simp [or_comm]
theorem take_not {l : List Int} (nd : l.Nodup) {i : Nat} {n : Int} (e : l[i]? = some n) : n ∉ l.take i := by
  intro h
  obtain ⟨j, hj⟩ := List.mem_iff_getElem?.mp h
  rw [List.getElem?_take] at hj
  split at hj
  · rename_i hlt
    have p := List.pairwise_iff_getElem.mp nd
    obtain ⟨a, ha⟩ := List.getElem?_eq_some_iff.mp hj
    obtain ⟨b, hb⟩ := List.getElem?_eq_some_iff.mp e
    exact p j i a b hlt (ha.trans hb.symm)
  · cases hj
theorem map_int {l : List Int} {i : Nat} {v : V} (e : (l.map V.int)[i]? = some v) : ∃ n, l[i]? = some n ∧ v = .int n := by
  rw [List.getElem?_map] at e
  cases q : l[i]? with
  | none => rw [q] at e; cases e
  | some c => rw [q] at e; cases e; exact ⟨c, rfl, rfl⟩
theorem sorted_key {α : Type} {l : List (Int × α)} {i : Nat} {n : Int} (e : (sortI (keys l))[i]? = some n) : ∃ x, lk n l = some x := by
  have := (sortI_perm (keys l)).mem_iff.mp (List.mem_of_getElem? e)
  have := lk_mem.mpr this
  cases q : lk n l with
  | none => exact absurd q this
  | some x => exact ⟨x, rfl⟩
section
variable {d : Nat} {h : Hp} {a b ep ep2 S T TR : Nat} {k : KE} {v v2 v3 : V} {x n m g : Int} {mv : Mv} {tb : Tb} {w : List Nat} {D : List Nat} {rows : List Rw} {es : Es}
theorem w815 (R : RowsOk D rows) (E : EsOk rows es) (ha : Lv h a (.dict ep (ed fE es))) (hS : Lv h S (.inst 500 [.ref T, .ref TR])) (hT : Lv h T (.dict ep2 (ed fS []))) (naT : a ≠ T)
    (q : ∀ h' ep' tb, Ext [T] h h' → Lv h' T (.dict ep' (ed fS tb)) → TbR h' tb (Mu rows es) → k .none h') : Cl (d + 9) 815 [.bytes D, .ref a, .ref S] h k := by
  refine enter (fn := f815) (ls := [some (.bytes D), some (.ref a), some (.ref S), none, none, none, none]) rfl rfl ?_
  walk_at "g"
  refine fr1 fun ag h1 e1 g1 l1 => ?_
  have nag := hT.ne g1
  replace ha := ha.ext0 e1
  replace hS := hS.ext0 e1
  replace hT := hT.ext0 e1
  walk_at "g"
  refine sorted_ed (by have := E.len; lia) fun sl h2 e2 g2 l2 => ?_
  have nsl := hT.ne g2
  replace ha := ha.ext0 e2
  replace hS := hS.ext0 e2
  replace hT := hT.ext0 e2
  replace l1 := l1.ext0 e2
  have hST : S ≠ T := fun e => by have h1 := hS.get; rw [e, hT.get] at h1; cases h1
  walk_at "g"
  refine for_ (fun i ls h' => ∃ x y z ep' tb, ls = [some (.bytes D), some (.ref a), some (.ref S), some (.ref ag), x, y, z] ∧ Ext [T] h2 h' ∧ Lv h' T (.dict ep' (ed fS tb)) ∧ TbR h' tb (fun n => if n ∈ (sortI (keys es)).take i then Mu rows es n else none)) ⟨none, none, none, _, [], rfl, .refl, hT, by simp [keys], fun n => rfl⟩ ?_ ?_
  · intro R' i v ls h' hv hI hR
    refine e54 hI fun x y z ep' tb eq1 => ?_
    clear hI
    subst eq1
    intro x1 lT tR
    refine e12 (map_int hv) fun n hn eq1 => ?_
    subst eq1
    refine e11 (sorted_key hn) fun e he => ?_
    have ok := E.ok n e he
    have hnT := take_not ((sortI_perm (keys es)).nodup_iff.mpr E.nd) hn
    have hTl := tR.len fun j hj => by
      by_cases q : j ∈ (sortI (keys es)).take i
      · rw [if_pos q] at hj
        exact E.keys j (Mu_key hj)
      · rw [if_neg q] at hj; exact absurd rfl hj
    have hTl : List.length tb ≤ 1000 := by lia
    obtain ⟨wy, one, two⟩ := e
    have hfE : fE ⟨wy, one, two⟩ = .obj 730 [.str wy.s, .int one, .int two] := rfl
    replace ha := ha.ext x1 (ne1 naT)
    replace hS := hS.ext x1 (ne1 hST)
    clear hv
    have l1' := l1.ext x1 (by simpa using Ne.symm nag)
    refine ⟨(l2.ext x1 (by simpa using Ne.symm nsl)).get, ?_⟩
    have next : (∀ j, j ≠ n → (if j ∈ (sortI (keys es)).take (i + 1) then Mu rows es j else none) = if j ∈ (sortI (keys es)).take i then Mu rows es j else none) ∧ (if n ∈ (sortI (keys es)).take (i + 1) then Mu rows es n else none) = Mu rows es n := by
      refine ⟨fun j hj => ?_, if_pos ((take_mem hn).mpr (.inl rfl))⟩
      simp only [take_mem hn, hj, false_or]
    have skip : Mu rows es n = none → TbR h' tb fun n => if n ∈ (sortI (keys es)).take (i + 1) then Mu rows es n else none := fun hm => tR.congr fun j => by
      by_cases hj : j = n
      · subst hj
        rw [next.2, hm, if_neg hnT]
      · exact next.1 j hj
    clear hn
    cases wy with
    | used =>
      refine e12 (ok.used rfl) fun r hr hone => ?_
      simp only at hone
      subst hone
      have hpl := plain_used R he rfl hr rfl (g := two)
      simp only [true_and] at hpl
      have hmu : Mu rows es n = if 0 < n then (plain rows es n two).map fun r => (two, r.val) else none := by simp [Mu, he]
      by_cases hn0 : 0 < n
      · rw [if_pos hn0] at hmu
        walk_at "g"
        refine w794r R.len (R.at' r hr) fun h4 e4 => ?_
        replace ha := ha.ext0 e4
        replace hS := hS.ext0 e4
        replace lT := lT.ext0 e4
        replace tR := tR.ext0 e4
        by_cases hm2 : (r.num : Int) = n ∧ (r.gen : Int) = two
        · rw [if_pos ⟨by lia, hm2⟩] at hpl
          rw [hpl] at hmu
          rw [decide_eq_true hm2]
          walk_at "g"
          refine w808 R.len (R.at' r hr) fun h5 v e5 hv => ?_
          replace ha := ha.ext0 e5
          replace hS := hS.ext0 e5
          replace lT := lT.ext0 e5
          replace tR := tR.ext0 e5
          walk_at "g"
          refine w464 hS lT hTl fun ep6 h6 e6 l6 => ?_
          have hv6 := hv.ext1 lT noHd_ed e6
          replace tR := (tR.ext1 lT noHd_ed e6).put (M' := fun n => if n ∈ (sortI (keys es)).take (i + 1) then Mu rows es n else none) hv6 (next.2.trans hmu) next.1
          walk_at "g"
          refine w801 hv6 r.val_ne ?_
          walk_at "g"
          exact hR _ _ (i54 rfl (((x1.tr0 e4).tr0 e5).trans e6) l6 tR)
        · rw [if_neg (fun q => hm2 q.2)] at hpl
          rw [hpl] at hmu
          rw [decide_eq_false hm2]
          walk_at "g"
          refine hR _ _ (i54 rfl (x1.tr0 e4) lT (tR.congr fun j => ?_))
          by_cases hj : j = n
          · subst hj
            rw [next.2, hmu, if_neg hnT]
            rfl
          · exact next.1 j hj
      · rw [if_neg hn0] at hmu
        walk_at "g"
        exact hR _ _ (i54 rfl x1 lT (skip hmu))
    | free =>
      have hm : Mu rows es n = none := by simp [Mu, he]
      walk_at "g"
      exact hR _ _ (i54 rfl x1 lT (skip hm))
    | packed =>
      have hm : Mu rows es n = none := by simp [Mu, he]
      walk_at "g"
      exact hR _ _ (i54 rfl x1 lT (skip hm))
  · intro ls h' hI
    refine e54 hI fun x y z ep' tb eq1 => ?_
    clear hI
    subst eq1
    intro x1 lT tR
    rw [List.length_map, List.take_length] at tR
    have tR2 : TbR h' tb (Mu rows es) := tR.congr fun j => by
      by_cases hj : j ∈ sortI (keys es)
      · rw [if_pos hj]
      · rw [if_neg hj]
        cases q : Mu rows es j with
        | none => rfl
        | some p => exact absurd ((sortI_perm _).mem_iff.mpr (Mu_key (by rw [q]; simp))) hj
    have l1' := l1.ext x1 (by simpa using Ne.symm nag)
    refine ⟨(l2.ext x1 (by simpa using Ne.symm nsl)).get, ?_⟩
    walk_at "g"
    refine ⟨⟨l1'.get, ?_⟩⟩
    walk_at "g"
    exact q _ _ _ (((e1.trans e2).sub (by simp)).trans x1) lT tR2
end
end
section
noncomputable def fR (a : Nat) : V := .ref a
noncomputable def fP (p : Int × Int) : V := .tup [.int p.1, .int p.2]
noncomputable def pick1 (es : Es) (hd : Int) (n : Int) : Option (Int × Int) := match lk n es with
  | some e => if e.way = .packed ∧ 0 < n ∧ e.one = hd then some (n, e.two) else none
  | none => none
noncomputable def content (es : Es) (ks : List Int) (hd : Int) : List (Int × Int) := ks.filterMap (pick1 es hd)
theorem content_snoc {es : Es} {ks : List Int} {i : Nat} {n hd : Int} (e : ks[i]? = some n) : content es (ks.take (i + 1)) hd = content es (ks.take i) hd ++ (pick1 es hd n).toList := by
  unfold content
  rw [List.take_add_one, e, List.filterMap_append]
  show _ ++ List.filterMap _ [n] = _
  rw [List.filterMap_cons]
  cases q : pick1 es hd n <;> simp
structure Pl (es : Es) (ks : List Int) (h0 h : Hp) (F : Nat) (pl : List (Int × Nat)) : Prop where
  nd : (keys pl).Nodup
  some : ∀ hd a, lk hd pl = some a → Lv h a (.list ((content es ks hd).map fP)) ∧ h0.top ≤ a ∧ a ≠ F
  none : ∀ hd, lk hd pl = none → content es ks hd = []
  inj : ∀ x y a, lk x pl = Option.some a → lk y pl = Option.some a → x = y
  key : ∀ x ∈ keys pl, 0 ≤ x ∧ x < 10
section
variable {d : Nat} {h : Hp} {a b ep ep2 S T TR F : Nat} {k : KE} {v v2 v3 : V} {x n m g : Int} {mv : Mv} {tb : Tb} {w : List Nat} {D : List Nat} {rows : List Rw} {es : Es} {ks : List Int} {pl : List (Int × Nat)} {h0 h' : Hp}
theorem Pl.ext0 (p : Pl es ks h0 h F pl) (e : Ext [] h h') : Pl es ks h0 h' F pl := ⟨p.nd, fun hd a q => ⟨(p.some hd a q).1.ext0 e, (p.some hd a q).2⟩, p.none, p.inj, p.key⟩
theorem Pl.len (p : Pl es ks h0 h F pl) : pl.length ≤ 10 := keys_len (n := 10) p.nd p.key
theorem Pl.skip {i : Nat} (p : Pl es (ks.take i) h0 h F pl) (e : ks[i]? = Option.some n) (hn : ∀ hd, pick1 es hd n = .none) : Pl es (ks.take (i + 1)) h0 h F pl := by
  refine ⟨p.nd, fun hd a q => ?_, fun hd q => ?_, p.inj, p.key⟩
  · rw [content_snoc e, hn hd]; simpa using p.some hd a q
  · rw [content_snoc e, hn hd]; simpa using p.none hd q
theorem pick1_eq {one two : Int} (he : lk n es = Option.some ⟨.packed, one, two⟩) (hn : 0 < n) (hd : Int) : pick1 es hd n = if one = hd then Option.some (n, two) else .none := by
  simp [pick1, he, hn]
theorem Pl.new {i : Nat} {one two : Int} (p : Pl es (ks.take i) h0 h F pl) (e : ks[i]? = Option.some n) (he : lk n es = Option.some ⟨.packed, one, two⟩) (hn : 0 < n) (hl : lk one pl = .none) (hk : 0 ≤ one ∧ one < 10)
    (x : Ext [F] h h') (lb : Lv h' b (.list [fP (n, two)])) (hb : h.top ≤ b) (hb0 : h0.top ≤ b) (hbF : b ≠ F) : Pl es (ks.take (i + 1)) h0 h' F (pk one b pl) := by
  have lt : ∀ hd a, lk hd pl = Option.some a → a < h.top := fun hd a q => (p.some hd a q).1.lt
  refine ⟨pk_nodup p.nd, fun hd a q => ?_, fun hd q => ?_, fun x y a q1 q2 => ?_, fun x hx => ?_⟩
  · rw [lk_pk] at q
    rw [content_snoc e, pick1_eq he hn]
    split at q
    · rename_i hh; subst hh
      cases q
      rw [p.none _ hl]
      simpa using ⟨lb, hb0, hbF⟩
    · rename_i hh
      have := p.some hd a q
      rw [if_neg (Ne.symm hh)]
      simpa using ⟨this.1.ext x (ne1 this.2.2), this.2⟩
  · rw [lk_pk] at q
    split at q
    · cases q
    · rename_i hh
      rw [content_snoc e, pick1_eq he hn, if_neg (Ne.symm hh)]
      simpa using p.none hd q
  · rw [lk_pk] at q1 q2
    split at q1 <;> split at q2
    · lia
    · cases q1
      have := lt _ _ q2
      lia
    · cases q2
      have := lt _ _ q1
      lia
    · exact p.inj _ _ _ q1 q2
  · rcases pk_mem.mp hx with rfl | hx
    · exact hk
    · exact p.key x hx
theorem Pl.app {i : Nat} {one two : Int} (p : Pl es (ks.take i) h0 h F pl) (e : ks[i]? = Option.some n) (he : lk n es = Option.some ⟨.packed, one, two⟩) (hn : 0 < n) (hl : lk one pl = Option.some b)
    (x : Ext [b] h h') (lb : Lv h' b (.list ((content es (ks.take i) one).map fP ++ [fP (n, two)]))) : Pl es (ks.take (i + 1)) h0 h' F pl := by
  refine ⟨p.nd, fun hd a q => ?_, fun hd q => ?_, p.inj, p.key⟩
  · rw [content_snoc e, pick1_eq he hn]
    by_cases hh : one = hd
    · subst hh
      rw [hl] at q; cases q
      rw [if_pos rfl]
      simpa using ⟨lb, (p.some _ _ hl).2⟩
    · rw [if_neg hh]
      have := p.some hd a q
      simpa using ⟨this.1.ext x (by
        simp only [List.mem_singleton]
        rintro rfl
        exact hh (p.inj _ _ _ hl q)), this.2⟩
  · have hh : one ≠ hd := fun hh => by subst hh; rw [hl] at q; cases q
    rw [content_snoc e, pick1_eq he hn, if_neg hh]
    simpa using p.none hd q
theorem Pl.base {h1 : Hp} (p : Pl es ks h1 h F pl) (e : h0.top ≤ h1.top) : Pl es ks h0 h F pl := ⟨p.nd, fun hd a q => ⟨(p.some hd a q).1, Nat.le_trans e (p.some hd a q).2.1, (p.some hd a q).2.2⟩, p.none, p.inj, p.key⟩
theorem w822 (E : EsOk rows es) (ha : Lv h a (.dict ep (ed fE es))) (q : ∀ h' F ep' pl, Ext [] h h' → Lv h' F (.dict ep' (ed fR pl)) → h.top ≤ F → Pl es (sortI (keys es)) h h' F pl → k (.ref F) h') : Cl (d + 1) 822 [.ref a] h k := by
  refine enter (fn := f822) (ls := [some (.ref a), none, none, none]) rfl rfl ?_
  walk_at "g"
  refine frD fun F ep1 h1 e1 g1 l1 => ?_
  have naF : a ≠ F := ha.ne g1
  replace ha := ha.ext0 e1
  walk_at "g"
  refine sorted_ed (by have := E.len; lia) fun sl h2 e2 g2 l2 => ?_
  have nsl := l1.ne g2
  replace ha := ha.ext0 e2
  replace l1 := l1.ext0 e2
  walk_at "g"
  refine for_ (fun i ls h' => ∃ x y ep' pl, ls = [some (.ref a), some (.ref F), x, y] ∧ Ext [F] h2 h' ∧ Lv h' F (.dict ep' (ed fR pl)) ∧ Pl es ((sortI (keys es)).take i) h2 h' F pl ∧ Lv h' sl (.list ((sortI (keys es)).map .int))) ⟨none, none, _, [], rfl, .refl, l1, ⟨by simp [keys], fun Z Z q => none_ne q, fun Z Z => by simp [content], fun Z Z Z q => by simp [lk] at q, by simp [keys]⟩, l2⟩ ?_ ?_
  · intro R' i v ls h' hv hI hR
    refine e45 hI fun x y ep' pl eq1 => ?_
    clear hI
    subst eq1
    intro x1 lF pL lsl
    refine e12 (map_int hv) fun n hn eq1 => ?_
    subst eq1
    refine e11 (sorted_key hn) fun e he => ?_
    have ok := E.ok n e he
    have hpl := pL.len
    obtain ⟨wy, one, two⟩ := e
    have hfE : fE ⟨wy, one, two⟩ = .obj 730 [.str wy.s, .int one, .int two] := rfl
    replace ha := ha.ext x1 (ne1 naF)
    clear hv
    refine ⟨lsl.get, ?_⟩
    cases wy with
    | used =>
      have hm : ∀ hd, pick1 es hd n = none := fun hd => by simp [pick1, he]
      have skip := pL.skip hn hm
      clear hn
      walk_at "g"
      exact hR _ _ (i45 rfl x1 lF skip lsl)
    | free =>
      have hm : ∀ hd, pick1 es hd n = none := fun hd => by simp [pick1, he]
      have skip := pL.skip hn hm
      clear hn
      walk_at "g"
      exact hR _ _ (i45 rfl x1 lF skip lsl)
    | packed =>
      by_cases hn0 : 0 < n
      · have hone := ok.packed rfl
        simp only at hone
        have hlF : F < h2.top := l1.lt
        cases e : lk one pl with
        | none =>
          have hnew := fun h' b => pL.new (h' := h') (b := b) hn he hn0 e ⟨by lia, hone.2.1⟩
          clear hn
          walk_at "g"
          refine fr1 fun b h4 e4 g4 l4 => ?_
          have lF4 := lF.ext0 e4
          have ha4 := ha.ext0 e4
          have lsl4 := lsl.ext0 e4
          have nbF : b ≠ F := (lF.ne g4).symm
          have nbsl : b ≠ sl := (lsl.ne g4).symm
          walk_at "g"
          intro ep5
          rw [show putI one (V.ref b) (ed fR pl) = ed fR (pk one b pl) from ed_put (f := fR) (x := b)]
          have lF5 := lF4.set (o' := .dict ep5 (ed fR (pk one b pl)))
          have l5 := l4.set_ne nbF (o' := .dict ep5 (ed fR (pk one b pl)))
          have lsl5 := lsl4.set_ne (Ne.symm nsl) (o' := .dict ep5 (ed fR (pk one b pl)))
          have x5 : Ext [F] h' (h4.set F (.dict ep5 (ed fR (pk one b pl)))) := (e4.sub (by simp)).trans (Ext.set (by simp))
          generalize h4.set F (.dict ep5 (ed fR (pk one b pl))) = h5 at *
          have hlk : lk one (pk one b pl) = some b := by rw [lk_pk, if_pos rfl]
          have hfR : fR b = .ref b := rfl
          walk_at "g"
          have nFb : F ≠ b := Ne.symm nbF
          have x6 : Ext [F] h' (h5.set b (.list [.tup [.int n, .int two]])) := x5.setN g4
          exact hR _ _ (i45 rfl (x1.trans x6) (lF5.set_ne nFb) (hnew _ b x6 l5.set g4 (Nat.le_trans x1.top g4) nbF) (lsl5.set_ne (Ne.symm nbsl)))
        | some b =>
          have happ := fun h' => pL.app (h' := h') hn he hn0 e
          have lb := (pL.some _ _ e).1
          have hbb := (pL.some _ _ e).2
          have hfR : fR b = .ref b := rfl
          have hcl : ((content es ((sortI (keys es)).take i) one).map fP).length ≤ 10 := by
            rw [List.length_map]
            refine Nat.le_trans (List.length_filterMap_le _ _) ?_
            rw [List.length_take, (sortI_perm _).length_eq]
            have := E.len
            simp only [keys, List.length_map]; lia
          clear hn
          walk_at "g"
          exact hR _ _ (i45 rfl (x1.setN hbb.1) (lF.set_ne (Ne.symm hbb.2)) (happ _ (Ext.set (by simp)) lb.set) (lsl.set_ne (by have := l2.lt; lia)))
      · have hm : ∀ hd, pick1 es hd n = none := fun hd => by simp [pick1, he, hn0]
        have skip := pL.skip hn hm
        clear hn
        walk_at "g"
        exact hR _ _ (i45 rfl x1 lF skip lsl)
  · intro ls h' hI
    refine e45 hI fun x y ep' pl eq1 => ?_
    clear hI
    subst eq1
    intro x1 lF pL lsl
    rw [List.length_map, List.take_length] at pL
    refine ⟨lsl.get, ?_⟩
    walk_at "g"
    exact q _ _ _ _ (((e1.trans e2).sub (by simp)).trans x1 |>.new g1) lF g1 (pL.base (Nat.le_trans e1.top e2.top))
end
end
section
set_option tactic.hygienic true
noncomputable def rdP (c : Nat) : V := .tup [.int ((c / 10 % 10 : Nat) : Int), .int (c : Int)]
noncomputable def hst (M : Int → Option (Int × Mv)) (hd : Int) : Option (List Nat) := match M hd with
  | some (g, .ost l) => if g = 0 then some l else none
  | _ => none
noncomputable def got (l : List Nat) (n two : Int) : Bool := decide (0 ≤ two ∧ two < l.length ∧ ((l.getD two.toNat 0 / 10 % 10 : Nat) : Int) = n)
noncomputable def pv (M : Int → Option (Int × Mv)) (es : Es) (n : Int) : Option (Int × Mv) := match lk n es with
  | some e => if e.way = .packed ∧ 0 < n then match hst M e.one with
      | some l => if got l n e.two then some (0, .int (l.getD e.two.toNat 0 : Nat)) else M n
      | none => M n
    else M n
  | none => M n
section
variable {d : Nat} {h : Hp} {a b ep ep2 S T TR F : Nat} {k : KE} {v v2 v3 : V} {x n m g : Int} {mv : Mv} {tb : Tb} {w : List Nat} {D : List Nat} {rows : List Rw} {es : Es} {ks : List Int} {pl : List (Int × Nat)} {h0 h' : Hp}
theorem w881 {l : List Nat} (hl : l.length ≤ 1000) (q : ∀ h' b, Ext [] h h' → h.top ≤ b → Lv h' b (.list (l.map rdP)) → k (.ref b) h') : Cl (d + 1) 881 [.ref S, .obj 363 [v, .bytes l]] h k := by
  refine enter (fn := f881) (ls := [some (.ref S), some (.obj 363 [v, .bytes l])]) rfl rfl ?_
  walk_at "g"
  refine fr1 fun b h1 e1 g1 l1 => ?_
  refine comp (fun i h' => h' = h1.set b (.list ((l.take i).map rdP))) (Hp.set_same l1.get).symm ?_ ?_
  · rintro R i v h' hv rfl hR
    refine e12 (map_get hv) fun c hc eq1 => ?_
    subst eq1
    refine ⟨trivial, ?_⟩
    have hln : ((l.take i).map rdP).length ≤ 1000 := by simp; lia
    walk_at "g"
    refine hR _ ?_
    rw [Hp.set_set, take_snoc hc, List.map_append]
    rfl
  · rintro h' rfl
    refine ⟨trivial, ?_⟩
    rw [List.length_map, List.take_length]
    walk_at "g"
    exact q _ _ (e1.setN g1) g1 l1.set
noncomputable def mm (M : Int → Option (Int × Mv)) (es : Es) (p : Int → Te → Bool) (n : Int) : Option (Int × Mv) := match lk n es with
  | some e => if e.way = .packed ∧ 0 < n ∧ p n e = true then pv M es n else M n
  | none => M n
structure MOk (M : Int → Option (Int × Mv)) (es : Es) : Prop where
  key : ∀ n, M n ≠ none → 0 ≤ n ∧ n < 10
  len : ∀ n g l, M n = some (g, .ost l) → l.length ≤ 1000
  sep : ∀ n e, lk n es = some e → e.way = .packed → 0 < n → ∀ g l, M n ≠ some (g, .ost l)
theorem pv_cases (M : Int → Option (Int × Mv)) (es : Es) (n : Int) : pv M es n = M n ∨ ∃ c, pv M es n = some (0, .int c) := by
  unfold pv
  split
  · split
    · split
      · split
        · exact .inr ⟨_, rfl⟩
        · exact .inl rfl
      · exact .inl rfl
    · exact .inl rfl
  · exact .inl rfl
theorem mm_cases (M : Int → Option (Int × Mv)) (es : Es) (p : Int → Te → Bool) (n : Int) : mm M es p n = M n ∨ ((∃ e, lk n es = some e ∧ e.way = .packed ∧ 0 < n) ∧ ∃ c, mm M es p n = some (0, .int c)) := by
  unfold mm
  split
  · rename_i e he
    split
    · rename_i hc
      rcases pv_cases M es n with h | ⟨c, h⟩
      · exact .inl h
      · exact .inr ⟨⟨e, he, hc.1, hc.2.1⟩, c, h⟩
    · exact .inl rfl
  · exact .inl rfl
variable {M : Int → Option (Int × Mv)} {p p' : Int → Te → Bool}
theorem mm_key (E : EsOk rows es) (OM : MOk M es) : ∀ n, mm M es p n ≠ none → 0 ≤ n ∧ n < 10 := fun n hn => by
  rcases mm_cases M es p n with h | ⟨⟨e, he, _⟩, _⟩
  · rw [h] at hn; exact OM.key n hn
  · exact (E.ok n e he).key
theorem mm_ost (OM : MOk M es) {g : Int} {l : List Nat} : mm M es p n = some (g, .ost l) ↔ M n = some (g, .ost l) := by
  rcases mm_cases M es p n with h | ⟨⟨e, he, hw, h0⟩, c, h⟩
  · rw [h]
  · rw [h]
    constructor
    · intro q
      cases q
    · intro q
      exact absurd q (OM.sep n e he hw h0 g l)
theorem mm_congr (h : ∀ n e, lk n es = some e → e.way = .packed → 0 < n → p n e ≠ p' n e → pv M es n = M n) : ∀ n, mm M es p n = mm M es p' n := fun n => by
  unfold mm
  cases q : lk n es with
  | none => rfl
  | some e =>
    dsimp only
    by_cases hw : e.way = .packed ∧ 0 < n
    · by_cases hp : p n e = p' n e
      · rw [hp]
      · have := h n e q hw.1 hw.2 hp
        rw [this]
        split <;> split <;> rfl
    · rw [if_neg (fun q => hw ⟨q.1, q.2.1⟩), if_neg (fun q => hw ⟨q.1, q.2.1⟩)]
theorem content_mem {hd : Int} {i : Nat} {y : Int × Int} (h : (content es ks hd)[i]? = some y) : ∃ e, lk y.1 es = some e ∧ e.way = .packed ∧ 0 < y.1 ∧ e.one = hd ∧ y.2 = e.two := by
  have := List.mem_of_getElem? h
  refine e12 (List.mem_filterMap.mp this) fun n hn hp => ?_
  unfold pick1 at hp
  split at hp
  · rename_i e he
    split at hp
    · rename_i hc
      cases hp
      exact ⟨e, he, hc.1, hc.2.1, hc.2.2, rfl⟩
    · cases hp
  · cases hp
theorem mem_content {e : Te} (he : lk n es = some e) (hw : e.way = .packed) (h0 : 0 < n) (hk : n ∈ ks) : (n, e.two) ∈ content es ks e.one :=
  List.mem_filterMap.mpr ⟨n, hk, by simp [pick1, he, hw, h0]⟩
theorem mm_triv (h : pv M es n = M n) : mm M es p n = M n := by
  unfold mm
  split
  · split
    · exact h
    · rfl
  · rfl
theorem TbR.look {v : V} (R : TbR h tb M) (e : lk n tb = some (g, v)) : ∃ mv, M n = some (g, mv) ∧ IsV h mv v := by
  have := R.2 n
  cases q : M n with
  | none => rw [q] at this; simp only at this; rw [this] at e; cases e
  | some p =>
    obtain ⟨g', mv⟩ := p
    rw [q] at this
    refine e12 this fun v' h1 h2 => ?_
    clear this
    rw [e] at h1; cases h1
    exact ⟨mv, rfl, h2⟩
theorem w436k (hS : Lv h S (.inst 500 [.ref T, .ref TR])) (hT : Lv h T (.dict ep (ed fS tb))) (tR : TbR h tb M) (hg : g ≠ -1)
    (q : ∀ v mv, IsV h mv v → (mv = .none ∧ (∀ mv, M n ≠ some (g, mv)) ∨ M n = some (g, mv)) → k v h) : Cl (d + 1) 436 [.ref S, .obj 391 [.int n, .int g]] h k := by
  refine w436r hS hT (fun Z => hg) (fun v hv => ?_) (fun hv => ?_) fun v hv => ?_
  · refine e12 (tR.look hv) fun mv Z h2 => ?_
    exact ⟨mv, h2⟩
  · refine q .none .none .none (.inl ⟨rfl, fun mv hm => ?_⟩)
    have := tR.2 n
    rw [hm] at this
    refine e12 this fun v h1 Z => ?_
    clear this
    exact hv v h1
  · refine e12 (tR.look hv) fun mv h1 h2 => ?_
    exact q v mv h2 (.inr h1)
theorem hst_some {l : List Nat} {hd : Int} : hst M hd = some l ↔ M hd = some (0, .ost l) := by
  unfold hst
  cases M hd with
  | none => exact ⟨fun q => none_ne q, fun q => none_ne q⟩
  | some p =>
    obtain ⟨g, mv⟩ := p
    induction mv using Mv.casesOn with
    | ost l' =>
      show (if g = 0 then some l' else none) = some l ↔ _
      by_cases hg : g = 0
      · subst hg; rw [if_pos rfl]; simp [mv_ost]
      · rw [if_neg hg]; simp [hg]
    | _ => exact ⟨fun q => none_ne q, fun q => Mv.noConfusion (congrArg Prod.snd (Option.some.inj q))⟩
theorem isv_ost {v : V} {mv : Mv} (i : IsV h mv v) : isOst mv = false ∨ ∃ b ep l, mv = .ost l ∧ v = .obj 363 [.ref b, .bytes l] ∧ Lv h b (.dict ep [(.str T1, .obj 320 [.str tOst]), (.str T2, .int l.length)]) :=
  IsV.casesOn (motive := fun mv v Z => isOst mv = false ∨ ∃ b ep l, mv = .ost l ∧ v = .obj 363 [.ref b, .bytes l] ∧ Lv h b (.dict ep [(.str T1, .obj 320 [.str tOst]), (.str T2, .int l.length)])) i (.inl rfl) (fun Z => .inl rfl) (fun lb => .inr ⟨_, _, _, rfl, rfl, lb⟩) (fun Z => .inl rfl)
inductive I829a (a S F T : Nat) (h2 : Hp) (Mf : Nat → Int → Option (Int × Mv)) : Nat → Ls → Hp → Prop
  | mk {i : Nat} {h' : Hp} {x4 x5 x6 x7 x8 : Option V} {ep' : Nat} {tb' : Tb} : Ext [T] h2 h' → Lv h' T (.dict ep' (ed fS tb')) → TbR h' tb' (Mf i) → I829a a S F T h2 Mf i [some (.ref a), some (.ref S), some (.fn 881), some (.ref F), x4, x5, x6, x7, x8] h'
inductive I829b (a S F T pb : Nat) (hd o : V) (h2 : Hp) (Mf : Nat → Int → Option (Int × Mv)) : Nat → Ls → Hp → Prop
  | mk {i : Nat} {h' : Hp} {x7 x8 : Option V} {ep' : Nat} {tb' : Tb} : Ext [T] h2 h' → Lv h' T (.dict ep' (ed fS tb')) → TbR h' tb' (Mf i) → I829b a S F T pb hd o h2 Mf i [some (.ref a), some (.ref S), some (.fn 881), some (.ref F), some hd, some o, some (.ref pb), x7, x8] h'
theorem w829 (E : EsOk rows es) (OM : MOk M es) (ha : Lv h a (.dict ep (ed fE es))) (hS : Lv h S (.inst 500 [.ref T, .ref TR])) (hT : Lv h T (.dict ep2 (ed fS tb))) (tR : TbR h tb M)
    (q : ∀ h' ep' tb', Ext [T] h h' → Lv h' T (.dict ep' (ed fS tb')) → TbR h' tb' (pv M es) → k .none h') : Cl (d + 4) 829 [.ref a, .ref S, .fn 881] h k := by
  refine enter (fn := f829) (ls := [some (.ref a), some (.ref S), some (.fn 881), none, none, none, none, none, none]) rfl rfl ?_
  have hST : S ≠ T := fun e => by have h1 := hS.get; rw [e, hT.get] at h1; cases h1
  walk_at "g"
  refine w822 E ha fun h1 F ep1 pl e1 lF gF pL => ?_
  have nTF : T ≠ F := hT.ne gF
  have hTh : ∀ hd a, lk hd pl = some a → a ≠ T := fun hd a q => by have h1 := (pL.some hd a q).2.1; have h2 := hT.lt; lia
  replace hS := hS.ext0 e1
  replace hT := hT.ext0 e1
  replace tR := tR.ext0 e1
  clear ha
  walk_at "g"
  refine sorted_ed (by have := pL.len; lia) fun sl h2 e2 g2 l2 => ?_
  have nsl := hT.ne g2
  replace hS := hS.ext0 e2
  replace hT := hT.ext0 e2
  replace tR := tR.ext0 e2
  replace lF := lF.ext0 e2
  replace pL := pL.ext0 e2
  walk_at "g"
  refine forI (I829a a S F T h2 fun j => mm M es fun Z e => decide (e.one ∈ (sortI (keys pl)).take j)) (.mk .refl hT (tR.congr fun j => ?_)) ?_ ?_
  · unfold mm
    split
    · rw [if_neg (by simp)]
    · rfl
  · intro R' j v ls h' hv hI hR
    induction hI using I829a.casesOn with | @mk h' x4 x5 x6 x7 x8 ep' tb' x1 lT tR' => ?_
    refine e12 (map_int hv) fun hd hn eq1 => ?_
    subst eq1
    refine e11 (sorted_key hn) fun ad had => ?_
    refine e03 (pL.some hd ad had) fun lad gad nad => ?_
    have hTl := tR'.len (mm_key E OM)
    have hTl : List.length tb' ≤ 1000 := by lia
    replace hS := hS.ext x1 (ne1 hST)
    replace lF := lF.ext x1 (by simpa using Ne.symm nTF)
    replace lad := lad.ext x1 (by simpa using hTh _ _ had)
    have lsl := l2.ext x1 (by simpa using Ne.symm nsl)
    clear hv
    refine ⟨lsl.get, ?_⟩
    walk_at "g"
    refine mk391 fun h4 e4 => ?_
    replace hS := hS.ext0 e4
    replace lF := lF.ext0 e4
    replace lT := lT.ext0 e4
    replace tR' := tR'.ext0 e4
    replace lad := lad.ext0 e4
    walk_at "g"
    refine w436k hS lT tR' (by decide) fun v mv iv hm => ?_
    have skip : isOst mv = false → TbR h4 tb' (mm M es fun Z e => decide (e.one ∈ (sortI (keys pl)).take (j + 1))) := fun hno => tR'.congr <| mm_congr fun n e he hw h0 hne => by
      have hone : e.one = hd := by
        rw [ne_eq, decide_eq_decide, take_mem hn] at hne
        by_cases q : e.one = hd
        · exact q
        · simp [q] at hne
      have hh : hst M hd = none := by
        cases q : hst M hd with
        | none => rfl
        | some l =>
          have := (mm_ost OM (p := fun Z e => decide (e.one ∈ (sortI (keys pl)).take j))).mpr (hst_some.mp q)
          rcases hm with ⟨_, h2⟩ | h2
          · exact absurd this (h2 _)
          · rw [h2] at this; cases this; cases hno
      unfold pv
      rw [he]
      dsimp only
      rw [if_pos ⟨hw, h0⟩, hone, hh]
    walk_at "g"
    refine w755 hS iv ?_
    refine Or.elim (isv_ost iv) (fun ho => ?_) fun ho => ?_
    · have tR6 := skip ho
      clear hn
      walk_at "g"
      exact hR _ _ (.mk (x1.tr0 e4) lT tR6)
    · obtain ⟨b0, ep0, l, rfl, rfl, lb⟩ := ho
      clear skip
      have hMl : M hd = some (0, .ost l) := by
        rcases hm with ⟨h1, _⟩ | h2
        · cases h1
        · exact (mm_ost OM).mp h2
      have hhst : hst M hd = some l := hst_some.mpr hMl
      have hll := OM.len _ _ _ hMl
      have hfR : fR ad = .ref ad := rfl
      have hcl : ((content es (sortI (keys es)) hd).map fP).length ≤ 10 := by
        rw [List.length_map]
        refine Nat.le_trans (List.length_filterMap_le _ _) ?_
        rw [(sortI_perm _).length_eq]
        have := E.len
        simpa [keys] using this
      have hTad := hTh _ _ had
      have hpvn : ∀ n e, lk n es = some e → e.way = .packed → 0 < n → e.one = hd → pv M es n = if got l n e.two then some (0, .int (l.getD e.two.toNat 0 : Nat)) else M n := fun n e he hw h0 ho => by
        unfold pv
        rw [he]
        dsimp only
        rw [if_pos ⟨hw, h0⟩, ho, hhst]
      clear hm hMl hhst lb
      walk_at "g"
      refine w881 hll fun h5 pb e5 g5 l5 => ?_
      have nTp := lT.ne g5
      replace hS := hS.ext0 e5
      replace lF := lF.ext0 e5
      replace lT := lT.ext0 e5
      replace tR' := tR'.ext0 e5
      replace lad := lad.ext0 e5
      have x6 := (x1.tr0 e4).tr0 e5
      walk_at "g"
      refine forI (I829b a S F T pb (.int hd) (.obj 363 [.ref b0, .bytes l]) h5 fun i => mm M es fun n e => decide (e.one ∈ (sortI (keys pl)).take j ∨ e.one = hd ∧ n ∈ ((content es (sortI (keys es)) hd).take i).map (·.1))) (.mk .refl lT (tR'.congr fun n => by simp [mm])) ?_ ?_
      · intro R2 i v ls h' hv hI hR2
        induction hI using I829b.casesOn with | @mk h' x7 x8 ep' tb' y1 lT tR' => ?_
        rw [List.getElem?_map] at hv
        cases hc : (content es (sortI (keys es)) hd)[i]? with
        | none => rw [hc] at hv; cases hv
        | some y =>
          obtain ⟨n, two⟩ := y
          rw [hc] at hv
          cases hv
          refine e15 (content_mem hc) fun e he hw h0 ho eq1 => ?_
          subst eq1
          obtain ⟨wy, one, two⟩ := e
          simp only at he h0 hw ho
          have hpv := hpvn n _ he hw h0 ho
          refine e03 ((E.ok n _ he).packed hw) fun Z Z htwo => ?_
          simp only at hpv htwo
          refine e11 (Int.eq_ofNat_of_zero_le htwo) fun t eq1 => ?_
          subst eq1
          have hfP : fP (n, (t : Int)) = .tup [.int n, .int t] := rfl
          have hTl := tR'.len (mm_key E OM)
          have hTl : List.length tb' ≤ 1000 := by lia
          replace hS := hS.ext y1 (ne1 hST)
          replace lF := lF.ext y1 (by simpa using Ne.symm nTF)
          replace lad := lad.ext y1 (ne1 hTad)
          replace l5 := l5.ext y1 (by simpa using Ne.symm nTp)
          have hmem : ∀ m, m ∈ ((content es (sortI (keys es)) hd).take (i + 1)).map (·.1) ↔ m = n ∨ m ∈ ((content es (sortI (keys es)) hd).take i).map (·.1) := fun m => by
            rw [List.take_add_one, hc]; simp [or_comm]
          have same : ∀ m, m ≠ n → mm M es (fun n e => decide (e.one ∈ (sortI (keys pl)).take j ∨ e.one = hd ∧ n ∈ ((content es (sortI (keys es)) hd).take (i + 1)).map (·.1))) m = mm M es (fun n e => decide (e.one ∈ (sortI (keys pl)).take j ∨ e.one = hd ∧ n ∈ ((content es (sortI (keys es)) hd).take i).map (·.1))) m := fun m hm => by
            unfold mm
            simp only [hmem, hm, false_or]
          have here : mm M es (fun n e => decide (e.one ∈ (sortI (keys pl)).take j ∨ e.one = hd ∧ n ∈ ((content es (sortI (keys es)) hd).take (i + 1)).map (·.1))) n = pv M es n := by
            unfold mm
            rw [he]
            dsimp only
            rw [if_pos ⟨hw, h0, decide_eq_true (.inr ⟨ho, (hmem n).mpr (.inl rfl)⟩)⟩]
          have skip : got l n t = false → TbR h' tb' (mm M es (fun n e => decide (e.one ∈ (sortI (keys pl)).take j ∨ e.one = hd ∧ n ∈ ((content es (sortI (keys es)) hd).take (i + 1)).map (·.1)))) := fun hg => tR'.congr fun m => by
            by_cases hm : m = n
            · subst hm
              have : pv M es m = M m := by rw [hpv, hg]; rfl
              rw [mm_triv this, mm_triv this]
            · exact same m hm
          refine ⟨lad.get, ?_⟩
          show denTg _ _ _ (.tup [.int n, .int ((t : Nat) : Int)]) _ _ _
          have hln : (l.map rdP).length = l.length := List.length_map _
          clear hc hmem
          by_cases htl : t < l.length
          · have hgt : (l.map rdP)[t]? = some (rdP (l.getD t 0)) := by
              rw [List.getElem?_map, List.getElem?_eq_getElem htl]
              simp [List.getD, htl]
            have hrd : rdP (l.getD t 0) = .tup [.int ((l.getD t 0 / 10 % 10 : Nat) : Int), .int (l.getD t 0 : Nat)] := rfl
            walk_at "g"
            by_cases hc2 : ((l.getD t 0 / 10 % 10 : Nat) : Int) = n
            · have hg : got l n t = true := by
                unfold got; rw [decide_eq_true]; exact ⟨by lia, by lia, hc2⟩
              rw [hg, if_pos rfl, Int.toNat_natCast] at hpv
              have hput := fun h' (R : TbR h' tb' _) => TbR.put (M' := mm M es (fun n e => decide (e.one ∈ (sortI (keys pl)).take j ∨ e.one = hd ∧ n ∈ ((content es (sortI (keys es)) hd).take (i + 1)).map (·.1)))) R (IsV.int (h := h') (l.getD t 0 : Nat)) (here.trans hpv) same
              clear hn
              walk_at "g"
              refine w464 hS lT hTl fun ep6 h6 e6 l6 => ?_
              have tR6 := hput _ (tR'.ext1 lT noHd_ed e6)
              walk_at "g"
              exact hR2 _ _ (.mk (y1.trans e6) l6 tR6)
            · have hg : got l n t = false := by
                unfold got; rw [decide_eq_false]; exact fun q => hc2 q.2.2
              have tR6 := skip hg
              walk_at "g"
              exact hR2 _ _ (.mk y1 lT tR6)
          · have hg : got l n t = false := by
              unfold got; rw [decide_eq_false]; lia
            have tR6 := skip hg
            walk_at "g"
            exact hR2 _ _ (.mk y1 lT tR6)
      · intro i ls h' hi hI
        induction hI using I829b.casesOn with | @mk h' x7 x8 ep' tb' y1 lT tR' => ?_
        rw [hi, List.length_map, List.take_length] at tR'
        have lad' := lad.ext y1 (ne1 hTad)
        refine ⟨lad'.get, ?_⟩
        have tR6 : TbR h' tb' (mm M es fun Z e => decide (e.one ∈ (sortI (keys pl)).take (j + 1))) := tR'.congr <| mm_congr fun n e he hw h0 hne => by
          refine absurd ?_ hne
          rw [decide_eq_decide, take_mem hn]
          constructor
          · rintro (q | q)
            · refine .inr ⟨q, ?_⟩
              have := mem_content he hw h0 ((sortI_perm _).mem_iff.mpr (lk_mem.mp (by rw [he]; simp)))
              rw [q] at this
              exact List.mem_map_of_mem (f := (·.1)) this
            · exact .inl q
          · rintro (q | q)
            · exact .inr q
            · exact .inl q.1
        clear hn
        walk_at "g"
        exact hR _ _ (.mk (x6.trans y1) lT tR6)
  · intro j ls h' hj hI
    induction hI using I829a.casesOn with | @mk h' x4 x5 x6 x7 x8 ep' tb' x1 lT tR' => ?_
    rw [hj, List.length_map, List.take_length] at tR'
    have tR6 : TbR h' tb' (pv M es) := tR'.congr fun n => by
      unfold mm
      cases he : lk n es with
      | none => unfold pv; rw [he]
      | some e =>
        dsimp only
        by_cases hw : e.way = .packed ∧ 0 < n
        · have : e.one ∈ sortI (keys pl) := by
            refine (sortI_perm _).mem_iff.mpr (lk_mem.mp fun q => ?_)
            have h1 := mem_content he hw.1 hw.2 ((sortI_perm (keys es)).mem_iff.mpr (lk_mem.mp (by rw [he]; simp)))
            rw [pL.none _ q] at h1
            cases h1
          rw [if_pos ⟨hw.1, hw.2, decide_eq_true this⟩]
        · rw [if_neg (fun q => hw ⟨q.1, q.2.1⟩)]
          unfold pv
          rw [he]
          dsimp only
          rw [if_neg hw]
    refine ⟨(l2.ext x1 (by simpa using Ne.symm nsl)).get, ?_⟩
    walk_at "g"
    exact q _ _ _ (((e1.trans e2).sub (by simp)).trans x1) lT tR6
end
end
section
noncomputable def Md (M : Int → Option (Int × Mv)) (n : Int) : Option (Int × Mv) := match M n with
  | some (g, mv) => if (isOst mv || isXrf mv) = true then none else some (g, mv)
  | none => none
theorem TbR.del {h : Hp} {tb : Tb} {M M' : Int → Option (Int × Mv)} (R : TbR h tb M) {i : Int} (hi : M' i = none) (ho : ∀ j, j ≠ i → M' j = M j) : TbR h (dk i tb) M' := ⟨dk_nodup R.1, fun j => by
  by_cases e : j = i
  · subst e
    rw [hi]
    show lk j (dk j tb) = none
    rw [lk_dk, if_pos rfl]
  · rw [ho j e, lk_dk, if_neg e]
    exact R.2 j⟩
section
variable {d : Nat} {h : Hp} {S' : List Nat} {a b ep ep2 S T TR F : Nat} {k : KE} {v v2 v3 : V} {x n m g : Int} {mv : Mv} {tb : Tb} {w : List Nat} {D : List Nat} {rows : List Rw} {es : Es} {ks : List Int} {pl : List (Int × Nat)} {h0 h' : Hp} {M : Int → Option (Int × Mv)}
theorem w836 (hM : ∀ n, M n ≠ none → 0 ≤ n ∧ n < 10) (hS : Lv h S (.inst 500 [.ref T, .ref TR])) (hT : Lv h T (.dict ep2 (ed fS tb))) (tR : TbR h tb M)
    (q : ∀ h' ep' tb', Ext [T] h h' → Lv h' T (.dict ep' (ed fS tb')) → TbR h' tb' (Md M) → k .none h') : Cl (d + 4) 836 [.ref S] h k := by
  refine enter (fn := f836) (ls := [some (.ref S), none, none]) rfl rfl ?_
  have hST : S ≠ T := fun e => by have h1 := hS.get; rw [e, hT.get] at h1; cases h1
  walk_at "g"
  refine w485 hS hT (by have := tR.len hM; lia) fun sl h1 e1 g1 l1 => ?_
  have nsl := hT.ne g1
  replace hS := hS.ext0 e1
  replace hT := hT.ext0 e1
  have tR1 := tR.ext0 e1
  walk_at "g"
  refine for_ (fun i ls h' => ∃ x y ep' tb', ls = [some (.ref S), x, y] ∧ Ext [T] h1 h' ∧ Lv h' T (.dict ep' (ed fS tb')) ∧ TbR h' tb' (fun n => if n ∈ (sortI (keys tb)).take i then Md M n else M n)) ⟨none, none, _, _, rfl, .refl, hT, tR1.congr fun j => by simp⟩ ?_ ?_
  · intro R' i v ls h' hv hI hR
    refine e44 hI fun x y ep' tb' eq1 => ?_
    clear hI
    subst eq1
    intro x1 lT tR'
    refine e12 (map_int hv) fun n hn eq1 => ?_
    subst eq1
    refine e11 (sorted_key hn) fun p hp => ?_
    have hnT := take_not ((sortI_perm (keys tb)).nodup_iff.mpr tR.1) hn
    have hMn : ∃ g mv, M n = some (g, mv) := by
      cases q : M n with
      | none => have := tR.2 n; rw [q] at this; simp only at this; rw [this] at hp; cases hp
      | some p => exact ⟨p.1, p.2, rfl⟩
    revert hMn
    intro h0_
    refine e21 h0_ fun g mv hMn => ?_
    clear h0_
    have hTl := tR'.len fun j hj => hM j fun q => by
      by_cases hh : j ∈ (sortI (keys tb)).take i
      · rw [if_pos hh] at hj; unfold Md at hj; rw [q] at hj; exact hj rfl
      · rw [if_neg hh] at hj; exact hj q
    have hTl : List.length tb' ≤ 1000 := by lia
    have here := tR'.2 n
    dsimp only at here
    rw [if_neg hnT, hMn] at here
    refine e12 here fun u hu iv => ?_
    clear here
    have next : ∀ j, j ≠ n → (if j ∈ (sortI (keys tb)).take (i + 1) then Md M j else M j) = if j ∈ (sortI (keys tb)).take i then Md M j else M j := fun j hj => by simp only [take_mem hn, hj, false_or]
    have nextn : (if n ∈ (sortI (keys tb)).take (i + 1) then Md M n else M n) = Md M n := if_pos ((take_mem hn).mpr (.inl rfl))
    have hfS : fS (g, u) = .tup [.int g, u] := rfl
    replace hS := hS.ext x1 (ne1 hST)
    have skip : (isOst mv || isXrf mv) = false → TbR h' tb' fun n => if n ∈ (sortI (keys tb)).take (i + 1) then Md M n else M n := fun hm => tR'.congr fun j => by
      by_cases hj : j = n
      · subst hj
        rw [nextn, if_neg hnT]
        unfold Md
        rw [hMn]
        dsimp only
        rw [hm]
        rfl
      · exact next j hj
    have drop : (isOst mv || isXrf mv) = true → ∀ h'' , TbR h'' tb' (fun n => if n ∈ (sortI (keys tb)).take i then Md M n else M n) → TbR h'' (dk n tb') fun n => if n ∈ (sortI (keys tb)).take (i + 1) then Md M n else M n := fun hm h'' R => R.del (by rw [nextn]; unfold Md; rw [hMn]; dsimp only; rw [hm]; rfl) next
    clear hv
    refine ⟨(l1.ext x1 (by simpa using Ne.symm nsl)).get, ?_⟩
    clear hn hMn next nextn
    walk_at "g"
    refine w755 hS iv ?_
    walk_at "g"
    cases hO : isOst mv with
    | true =>
      rw [hO] at drop
      walk_at "g"
      refine w478 hS lT hTl hu fun ep6 h6 e6 l6 => ?_
      walk_at "g"
      exact hR _ _ (i44 rfl (x1.trans e6) l6 (drop rfl _ (tR'.ext1 lT noHd_ed e6)))
    | false =>
      rw [hO] at drop skip
      walk_at "g"
      refine w748 hS iv ?_
      cases hX : isXrf mv with
      | true =>
        rw [hX] at drop
        walk_at "g"
        refine w478 hS lT hTl hu fun ep6 h6 e6 l6 => ?_
        walk_at "g"
        exact hR _ _ (i44 rfl (x1.trans e6) l6 (drop rfl _ (tR'.ext1 lT noHd_ed e6)))
      | false =>
        rw [hX] at skip
        walk_at "g"
        exact hR _ _ (i44 rfl x1 lT (skip rfl))
  · intro ls h' hI
    refine e44 hI fun x y ep' tb' eq1 => ?_
    clear hI
    subst eq1
    intro x1 lT tR'
    rw [List.length_map, List.take_length] at tR'
    have tR6 : TbR h' tb' (Md M) := tR'.congr fun n => by
      by_cases hh : n ∈ sortI (keys tb)
      · rw [if_pos hh]
      · rw [if_neg hh]
        have : M n = none := by
          cases q : M n with
          | none => rfl
          | some p => exact absurd ((sortI_perm _).mem_iff.mpr ((tR.keys n).mpr (by rw [q]; simp))) hh
        unfold Md; rw [this]
    refine ⟨(l1.ext x1 (by simpa using Ne.symm nsl)).get, ?_⟩
    walk_at "g"
    exact q _ _ _ ((e1.sub (by simp)).trans x1) lT tR6
noncomputable def ov : List Es → Int → Option Te
  | [], _ => none
  | es :: r, n => (lk n es).or (ov r n)
theorem ov_snoc (l : List Es) (es : Es) (n : Int) : ov (l ++ [es]) n = (ov l n).or (lk n es) := by
  induction l with
  | nil => exact Option.or_none
  | cons a l ih =>
    show (lk n a).or (ov (l ++ [es]) n) = ((lk n a).or (ov l n)).or (lk n es)
    rw [ih, Option.or_assoc]
structure TabL (h : Hp) (refs : List Nat) (ess : List Es) : Prop where
  len : refs.length = ess.length
  at' : ∀ (i : Nat) (r : Nat) (es : Es), refs[i]? = some r → ess[i]? = some es → ∃ ep, Lv h r (.dict ep (ed fE es))
  nd : ∀ es ∈ ess, (keys es).Nodup
  key : ∀ es ∈ ess, ∀ x ∈ keys es, 0 ≤ x ∧ x < 10
theorem TabL.ext {refs : List Nat} {ess : List Es} (t : TabL h refs ess) (e : Ext S' h h') (hn : ∀ r ∈ refs, r ∉ S') : TabL h' refs ess := ⟨t.len, fun i r es h1 h2 => by
  refine e11 (t.at' i r es h1 h2) fun ep l => ?_
  exact ⟨ep, l.ext e (hn r (List.mem_of_getElem? h1))⟩, t.nd, t.key⟩
theorem ed_fst {α : Type} {f : α → V} {l : List (Int × α)} : (ed f l).map (·.1) = (keys l).map .int := by simp [ed, keys]
theorem map_ref {l : List Nat} {i : Nat} {v : V} (e : (l.map V.ref)[i]? = some v) : ∃ n, l[i]? = some n ∧ v = .ref n := by
  rw [List.getElem?_map] at e
  cases q : l[i]? with
  | none => rw [q] at e; cases e
  | some c => rw [q] at e; cases e; exact ⟨c, rfl, rfl⟩
theorem w741 {L : Nat} {refs : List Nat} {ess : List Es} (hL : Lv h L (.list (refs.map .ref))) (tL : TabL h refs ess)
    (q : ∀ h' F ep' es', Ext [] h h' → h.top ≤ F → Lv h' F (.dict ep' (ed fE es')) → (keys es').Nodup → (∀ n, lk n es' = ov ess n) → k (.ref F) h') : Cl (d + 1) 741 [.ref L] h k := by
  refine enter (fn := f741) (ls := [some (.ref L), none, none, none]) rfl rfl ?_
  walk_at "g"
  refine frD fun F ep1 h1 e1 g1 l1 => ?_
  have nLF := hL.ne g1
  replace hL := hL.ext0 e1
  have tF : ∀ r ∈ refs, r ≠ F := fun r hr => by
    refine e11 (List.mem_iff_getElem?.mp hr) fun i hi => ?_
    have hlt := (List.getElem?_eq_some_iff.mp hi).1
    refine e11 (tL.at' i r _ hi (List.getElem?_eq_getElem (by rw [← tL.len]; exact hlt))) fun ep l => ?_
    exact l.ne g1
  replace tL := tL.ext e1 (by simp)
  walk_at "g"
  refine for_ (fun i ls h' => ∃ x y ep' es', ls = [some (.ref L), some (.ref F), x, y] ∧ Ext [F] h1 h' ∧ Lv h' F (.dict ep' (ed fE es')) ∧ (keys es').Nodup ∧ (∀ x ∈ keys es', 0 ≤ x ∧ x < 10) ∧ ∀ n, lk n es' = ov (ess.take i) n) ⟨none, none, _, [], rfl, .refl, l1, by simp [keys], by simp [keys], fun n => rfl⟩ ?_ ?_
  · intro R' i v ls h' hv hI hR
    refine e46 hI fun x y ep' es' eq1 => ?_
    clear hI
    subst eq1
    intro x1 lF nd ky hlk
    refine e12 (map_ref hv) fun r hr eq1 => ?_
    subst eq1
    have hlt := (List.getElem?_eq_some_iff.mp hr).1
    obtain ⟨es, hes⟩ : ∃ es, ess[i]? = some es := ⟨_, List.getElem?_eq_getElem (by rw [← tL.len]; exact hlt)⟩
    refine e11 (tL.at' i r es hr hes) fun epr lr => ?_
    have nrF := tF r (List.mem_of_getElem? hr)
    have hnd := tL.nd es (List.mem_of_getElem? hes)
    have hky := tL.key es (List.mem_of_getElem? hes)
    have hL1 := hL
    have lr1 := lr
    replace hL := hL.ext x1 (ne1 nLF)
    replace lr := lr.ext x1 (ne1 nrF)
    have hov : ∀ n, ov (ess.take (i + 1)) n = (ov (ess.take i) n).or (lk n es) := fun n => by
      rw [List.take_add_one, hes]; exact ov_snoc _ _ _
    clear hv
    refine ⟨hL.get, ?_⟩
    clear hr hes
    walk_at "g"
    refine for_ (fun j ls h' => ∃ y ep' es', ls = [some (.ref L), some (.ref F), some (.ref r), y] ∧ Ext [F] h1 h' ∧ Lv h' F (.dict ep' (ed fE es')) ∧ (keys es').Nodup ∧ (∀ x ∈ keys es', 0 ≤ x ∧ x < 10) ∧ ∀ n, lk n es' = (ov (ess.take i) n).or (if n ∈ (keys es).take j then lk n es else none)) (i36 rfl x1 lF nd ky (fun n => by rw [hlk n]; simp)) ?_ ?_
    · intro R2 j v ls h'' hv hI hR2
      refine e36 hI fun y ep' es' eq1 => ?_
      clear hI
      subst eq1
      intro x2 lF nd ky hlk
      rw [ed_fst] at hv
      refine e12 (map_int hv) fun n hn eq1 => ?_
      subst eq1
      have hnt := take_not hnd hn
      obtain ⟨e, he⟩ : ∃ e, lk n es = some e := by
        have := lk_mem.mpr (List.mem_of_getElem? hn)
        cases q : lk n es with
        | none => exact absurd q this
        | some e => exact ⟨e, rfl⟩
      have hkn := hky n (List.mem_of_getElem? hn)
      have lr2 := lr1.ext x2 (ne1 nrF)
      have hel : es'.length ≤ 10 := keys_len (n := 10) nd ky
      have hn1 := (hlk n).symm
      rw [if_neg hnt, Option.or_none] at hn1
      have step : ∀ es'' : Es, (∀ m, m ≠ n → lk m es'' = lk m es') → lk n es'' = (ov (ess.take i) n).or (some e) → ∀ m, lk m es'' = (ov (ess.take i) m).or (if m ∈ (keys es).take (j + 1) then lk m es else none) := fun es'' h1 h2 m => by
        by_cases hm : m = n
        · subst hm
          rw [h2, if_pos ((take_mem hn).mpr (.inl rfl)), he]
        · rw [h1 m hm, hlk m]
          simp only [take_mem hn, hm, false_or]
      refine ⟨(i12 lr2.get rfl), ?_⟩
      clear hv hn hlk
      cases hq : lk n es' with
      | none =>
        walk_at "g"
        intro ep6
        rw [ed_put (f := fE)]
        refine hR2 _ _ (i36 rfl (x2.trans (Ext.set (by simp))) lF.set (pk_nodup nd) (fun x hx => ?_) (step _ (fun m hm => by rw [lk_pk, if_neg hm]) ?_))
        · rcases pk_mem.mp hx with rfl | hx
          · exact hkn
          · exact ky x hx
        · rw [lk_pk, if_pos rfl, hn1, hq]; rfl
      | some e' =>
        walk_at "g"
        refine hR2 _ _ (i36 rfl x2 lF nd ky (step _ (fun m hm => rfl) ?_))
        rw [hn1, hq]; rfl
    · intro ls h'' hI
      refine e36 hI fun y ep' es' eq1 => ?_
      clear hI
      subst eq1
      intro x2 lF nd ky hlk
      rw [List.length_map, ed_len] at hlk
      have lr2 := lr1.ext x2 (ne1 nrF)
      have hlk2 : ∀ n, lk n es' = ov (ess.take (i + 1)) n := fun n => by
        rw [hov n, hlk n]
        have : (keys es).take es.length = keys es := by rw [List.take_of_length_le]; simp [keys]
        rw [this]
        split
        · rfl
        · rename_i hh
          have : lk n es = none := by
            cases q : lk n es with
            | none => rfl
            | some e => exact absurd (lk_mem.mp (by rw [q]; simp)) hh
          rw [this]
      clear hov hlk
      refine ⟨(i12 lr2.get rfl), ?_⟩
      walk_at "g"
      exact hR _ _ (i46 rfl x2 lF nd ky hlk2)
  · intro ls h' hI
    refine e46 hI fun x y ep' es' eq1 => ?_
    clear hI
    subst eq1
    intro x1 lF nd ky hlk
    have hL2 := hL.ext x1 (ne1 nLF)
    rw [List.length_map, tL.len, List.take_length] at hlk
    refine ⟨hL2.get, ?_⟩
    walk_at "g"
    exact q _ _ _ _ ((e1.sub (by simp)).trans x1 |>.new g1) g1 lF nd hlk
end
end
section
theorem ov_ok {rows : List Rw} {ess : List Es} (h : ∀ es ∈ ess, EsOk rows es) (n : Int) (e : Te) (he : ov ess n = some e) : TeOk rows n e := by
  induction ess with
  | nil => exact none_ne he
  | cons a l ih => exact Or.elim (Option.or_eq_some_iff.mp he) (fun q => (h a (.head _)).ok n _ q) fun q => ih (fun es hes => h es (.tail _ hes)) q.2
noncomputable def kSize : List Nat := [83, 105, 122, 101]
noncomputable def kPrev : List Nat := [80, 114, 101, 118]
noncomputable def kInfo : List Nat := [73, 110, 102, 111]
noncomputable def kXref : List Nat := [88, 82, 101, 102, 83, 116, 109]
noncomputable def trl (t : Int) : List (V × V) := [(.str kSize, .int 9), (.str kPrev, .int t), (.str kInfo, .int t), (.str kXref, .int 1)]
structure Sec where
  t : Int
  e : Nat
  tr : Nat
noncomputable def fX (s : Sec) : V := .obj 773 [.int s.t, .ref s.e, .ref s.tr]
theorem map_x {l : List Sec} {i : Nat} {v : V} (e : (l.map fX)[i]? = some v) : ∃ s, l[i]? = some s ∧ v = fX s := by
  rw [List.getElem?_map] at e
  cases q : l[i]? with
  | none => rw [q] at e; cases e
  | some c => rw [q] at e; cases e; exact ⟨c, rfl, rfl⟩
section
variable {d : Nat} {h : Hp} {S' : List Nat} {a b ep ep2 S T TR F : Nat} {k : KE} {v v2 v3 : V} {x n m g : Int} {mv : Mv} {tb : Tb} {w : List Nat} {D : List Nat} {rows : List Rw} {es : Es} {ks : List Int} {pl : List (Int × Nat)} {h0 h' : Hp} {M : Int → Option (Int × Mv)}
theorem TabL.lt {refs : List Nat} {ess : List Es} (t : TabL h refs ess) : ∀ r ∈ refs, r < h.top := fun r hr => by
  refine e11 (List.mem_iff_getElem?.mp hr) fun i hi => ?_
  have hlt := (List.getElem?_eq_some_iff.mp hi).1
  refine e11 (t.at' i r _ hi (List.getElem?_eq_getElem (by rw [← t.len]; exact hlt))) fun ep l => ?_
  exact l.lt
theorem w782 {L : Nat} {secs : List Sec} {ess : List Es} (hL : Lv h L (.list (secs.map fX))) (hl : secs.length ≤ 1000) (tL : TabL h (secs.map (·.e)) ess)
    (q : ∀ h' F ep' es', Ext [] h h' → h.top ≤ F → Lv h' F (.dict ep' (ed fE es')) → (keys es').Nodup → (∀ n, lk n es' = ov ess n) → k (.ref F) h') : Cl (d + 2) 782 [.ref L] h k := by
  refine enter (fn := f782) (ls := [some (.ref L)]) rfl rfl ?_
  walk_at "g"
  refine fr1 fun b h1 e1 g1 l1 => ?_
  have nLb := hL.ne g1
  replace hL := hL.ext0 e1
  have tb : ∀ r ∈ secs.map (·.e), r ≠ b := fun r hr => by have := tL.lt r hr; lia
  replace tL := tL.ext e1 (by simp)
  refine comp (fun i h' => h' = h1.set b (.list ((secs.take i).map fun s => .ref s.e))) (Hp.set_same l1.get).symm ?_ ?_
  · rintro R i v h' hv rfl hR
    refine e12 (map_x hv) fun s hs eq1 => ?_
    subst eq1
    refine ⟨(hL.set_ne nLb).get, ?_⟩
    have hln : ((secs.take i).map fun s => V.ref s.e).length ≤ 1000 := by simp; lia
    have hfX : fX s = .obj 773 [.int s.t, .ref s.e, .ref s.tr] := rfl
    clear hv
    walk_at "g"
    refine hR _ ?_
    rw [Hp.set_set, List.take_add_one, hs, List.map_append]
    rfl
  · rintro h' rfl
    refine ⟨(hL.set_ne nLb).get, ?_⟩
    rw [List.length_map, List.take_length]
    have x1 : Ext [b] h1 (h1.set b (.list (secs.map fun s => .ref s.e))) := Ext.set (by simp)
    have l2 := l1.set (o' := .list (secs.map fun s => .ref s.e))
    generalize h1.set b (.list (secs.map fun s => .ref s.e)) = h2 at *
    have l2 : Lv h2 b (.list ((secs.map (·.e)).map .ref)) := by rw [List.map_map]; exact l2
    walk_at "g"
    refine w741 l2 (tL.ext x1 (by simpa using tb)) fun h3 F ep' es' e3 g3 lF nd hlk => ?_
    walk_at "g"
    exact q _ _ _ _ (((e1.sub (by simp)).trans x1 |>.new g1).trans e3) (Nat.le_trans (Nat.le_trans e1.top x1.top) g3) lF nd hlk
theorem w787 {L : Nat} {s : Sec} {secs : List Sec} (hL : Lv h L (.list ((s :: secs).map fX))) (hl : secs.length ≤ 1000) (hT : Lv h s.tr (.dict ep (trl s.t)))
    (q : ∀ h' F ep', Ext [] h h' → h.top ≤ F → Lv h' F (.dict ep' [(.str kInfo, .int s.t)]) → k (.ref F) h') : Cl (d + 1) 787 [.ref L] h k := by
  refine enter (fn := f787) (ls := [some (.ref L), none]) rfl rfl ?_
  have hfX : fX s = .obj 773 [.int s.t, .ref s.e, .ref s.tr] := rfl
  have hln : (List.map fX secs).length = secs.length := List.length_map _
  rw [List.map_cons] at hL
  unfold trl at hT
  walk_at "g"
  refine fr1 fun b h1 e1 g1 l1 => ?_
  have nTb := hT.ne g1
  have nbT := Ne.symm nTb
  replace hT := hT.ext0 e1
  refine ⟨denC_cons' (i12 hT.get rfl) ?_⟩
  walk_at "g"
  refine ⟨(i12 hT.get rfl), ?_⟩
  walk_at "g"
  refine ⟨(i12 hT.get rfl), ?_⟩
  walk_at "g"
  refine ⟨(i12 ((hT.set_ne nTb).get) rfl), ?_⟩
  walk_at "g"
  refine ⟨(i12 ((hT.set_ne nTb).get) rfl), ?_⟩
  walk_at "g"
  refine frD fun F ep2 h3 e3 g3 l3 => ?_
  exact q _ _ _ ((e1.setN g1).trans e3) (Nat.le_trans e1.top g3) l3
theorem Mu_ok {rows : List Rw} {es : Es} {D : List Nat} (R : RowsOk D rows) (E : EsOk rows es) : MOk (Mu rows es) es := by
  refine ⟨fun n hn => E.keys n (Mu_key hn), fun n g l hm => ?_, fun n e he hw h0 g l hm => ?_⟩
  · unfold Mu at hm
    split at hm
    · split at hm
      · cases q : plain rows es n _ with
        | none => rw [q] at hm; cases hm
        | some r =>
          rw [q] at hm
          simp only [Option.map_some, Option.some.injEq, Prod.mk.injEq] at hm
          have hr : r ∈ rows := by
            unfold plain at q
            split at q
            · split at q
              · exact List.mem_of_find?_eq_some q
              · cases q
            · cases q
          have := (R.at' r hr).ok.len
          unfold Rw.val at hm
          split at hm
          · refine e02 hm fun Z h2 => ?_
            clear hm
            cases h2
            lia
          · split at hm
            · cases hm.2
            · cases hm.2
      · cases hm
    · cases hm
  · unfold Mu at hm
    rw [he] at hm
    dsimp only at hm
    rw [hw] at hm
    simp at hm
theorem w843 {L : Nat} {s : Sec} {secs : List Sec} {ess : List Es} (R : RowsOk D rows) (hE : ∀ es ∈ ess, EsOk rows es) (hL : Lv h L (.list ((s :: secs).map fX))) (hl : secs.length ≤ 900) (tL : TabL h ((s :: secs).map (·.e)) ess) (hT : Lv h s.tr (.dict ep (trl s.t)))
    (q : ∀ h' S T TR es ep' ep2 tb, Ext [] h h' → Lv h' S (.inst 500 [.ref T, .ref TR]) → Lv h' T (.dict ep' (ed fS tb)) → TbR h' tb (Md (pv (Mu rows es) es)) → Lv h' TR (.dict ep2 [(.str kInfo, .int s.t)]) → EsOk rows es → (∀ n, lk n es = ov ess n) → k (.ref S) h') : Cl (d + 10) 843 [.bytes D, .ref L, .fn 881] h k := by
  refine enter (fn := f843) (ls := [some (.bytes D), some (.ref L), some (.fn 881), none, none]) rfl rfl ?_
  have hl2 : (s :: secs).length ≤ 1000 := by simp; lia
  walk_at "g"
  refine w782 hL hl2 tL fun h1 F ep1 es e1 g1 lF nd hlk => ?_
  have E : EsOk rows es := by
    exact ⟨nd, fun n e he => ov_ok hE n e ((hlk n).symm.trans he)⟩
  replace hL := hL.ext0 e1
  replace hT := hT.ext0 e1
  clear tL
  walk_at "g"
  refine frD fun T ep2 h2 e2 g2 lT => ?_
  have nFT := lF.ne g2
  replace hL := hL.ext0 e2
  replace hT := hT.ext0 e2
  replace lF := lF.ext0 e2
  walk_at "g"
  refine w787 hL (by lia) hT fun h3 TR ep3 e3 g3 lTR => ?_
  have nTTR := lT.ne g3
  have tT : h.top ≤ T := Nat.le_trans e1.top g2
  replace lF := lF.ext0 e3
  replace lT := lT.ext0 e3
  have x3 := (e1.trans e2).trans e3
  clear hL hT e1 e2 e3
  walk_at "g"
  refine mk500 fun S h4 e4 g4 lS => ?_
  replace lF := lF.ext0 e4
  replace lT := lT.ext0 e4
  replace lTR := lTR.ext0 e4
  have x4 := x3.trans e4
  have nST : S ≠ T := fun e => by have h1 := lS.get; rw [e, lT.get] at h1; cases h1
  walk_at "g"
  refine w815 R E lF lS lT nFT fun h5 ep5 tb5 e5 lT5 tR5 => ?_
  replace lF := lF.ext e5 (ne1 nFT)
  replace lS := lS.ext e5 (ne1 nST)
  replace lTR := lTR.ext e5 (by simpa using Ne.symm nTTR)
  walk_at "g"
  refine w829 E (Mu_ok R E) lF lS lT5 tR5 fun h6 ep6 tb6 e6 lT6 tR6 => ?_
  replace lS := lS.ext e6 (ne1 nST)
  replace lTR := lTR.ext e6 (by simpa using Ne.symm nTTR)
  walk_at "g"
  refine w836 (fun n hn => ?_) lS lT6 tR6 fun h7 ep7 tb7 e7 lT7 tR7 => ?_
  · rcases pv_cases (Mu rows es) es n with h | ⟨c, h⟩
    · rw [h] at hn; exact E.keys n (Mu_key hn)
    · unfold pv at h
      cases q : lk n es with
      | none => rw [q] at h; dsimp only at h; exact E.keys n (Mu_key (by rw [h]; simp))
      | some e => exact (E.ok n e q).key
  replace lS := lS.ext e7 (ne1 nST)
  replace lTR := lTR.ext e7 (by simpa using Ne.symm nTTR)
  walk_at "g"
  exact q _ _ _ _ _ _ _ _ (((((x4.sub (by simp)).trans e5).trans e6).trans e7).new (a := T) tT) lS lT7 tR7 lTR E hlk
end
end
section
set_option tactic.hygienic true
noncomputable def rowOf (M : Int → Option (Int × Mv)) (n : Int) : V := match M n with
  | some (g, .int c) => .tup [.int n, .int g, .tup [.str [105, 110, 116], .int c]]
  | _ => .none
noncomputable def usedv (rows : List Rw) (es : Es) (n g : Int) : Mv := match plain rows es n g with
  | some r => r.val
  | none => .none
section
variable {d : Nat} {h : Hp} {S' : List Nat} {a b ep ep2 S T TR F : Nat} {k : KE} {v v2 v3 : V} {x n m g : Int} {mv : Mv} {tb : Tb} {w : List Nat} {D : List Nat} {rows : List Rw} {es : Es} {ks : List Int} {pl : List (Int × Nat)} {h0 h' : Hp} {M : Int → Option (Int × Mv)}
theorem w497 {t : Int} (hM : ∀ n, M n ≠ none → 0 ≤ n ∧ n < 10) (hI : ∀ n g mv, M n = some (g, mv) → ∃ c, mv = .int c) (hS : Lv h S (.inst 500 [.ref T, .ref TR])) (hT : Lv h T (.dict ep2 (ed fS tb))) (tR : TbR h tb M) (hTR : Lv h TR (.dict ep [(.str kInfo, .int t)]))
    (q : ∀ h', Ext [] h h' → k (.tup [.tup ((sortI (keys tb)).map (rowOf M)), .tup [.str [100, 105, 99, 116], .tup [.str kInfo, .tup [.str [105, 110, 116], .int t]]]]) h') : Cl (d + 4) 497 [.ref S] h k := by
  refine enter (fn := f497) (ls := [some (.ref S), none]) rfl rfl ?_
  have hlen := tR.len hM
  walk_at "g"
  refine w485 hS hT (by lia) fun sl h1 e1 g1 l1 => ?_
  replace hS := hS.ext0 e1
  replace hT := hT.ext0 e1
  replace tR := tR.ext0 e1
  replace hTR := hTR.ext0 e1
  walk_at "g"
  refine fr1 fun b h2 e2 g2 l2 => ?_
  have nsb := l1.ne g2
  have nSb := hS.ne g2
  have nTb := hT.ne g2
  have nTRb := hTR.ne g2
  replace hS := hS.ext0 e2
  replace hT := hT.ext0 e2
  replace tR := tR.ext0 e2
  replace hTR := hTR.ext0 e2
  replace l1 := l1.ext0 e2
  refine comp (fun i h' => h' = h2.set b (.list (((sortI (keys tb)).take i).map (rowOf M)))) (Hp.set_same l2.get).symm ?_ ?_
  · rintro R i v h' hv rfl hR
    refine e12 (map_int hv) fun n hn eq1 => ?_
    subst eq1
    refine e11 (sorted_key hn) fun p hp => ?_
    obtain ⟨g, u⟩ := p
    refine e12 (tR.look hp) fun mv hm iv => ?_
    refine e11 (hI _ _ _ hm) fun c eq1 => ?_
    subst eq1
    cases iv
    have hfS : fS (g, .int c) = .tup [.int g, .int c] := rfl
    have hro : rowOf M n = .tup [.int n, .int g, .tup [.str [105, 110, 116], .int c]] := by unfold rowOf; rw [hm]
    refine ⟨(l1.set_ne nsb).get, ?_⟩
    have hln : ((((sortI (keys tb)).take i).map (rowOf M)).length) ≤ 1000 := by
      have := (sortI_perm (keys tb)).length_eq
      simp [keys] at this ⊢; lia
    clear hv
    have hn' : some n = (sortI (keys tb))[i]? := hn.symm
    clear hn
    walk_at "g"
    refine w414int ?_
    walk_at "g"
    refine hR _ ?_
    rw [Hp.set_set, List.take_add_one, ← hn', List.map_append, ← hro]
    rfl
  · rintro h' rfl
    refine ⟨(l1.set_ne nsb).get, ?_⟩
    rw [List.length_map, List.take_length]
    have hln : ((sortI (keys tb)).map (rowOf M)).length ≤ 1000 := by
      have := (sortI_perm (keys tb)).length_eq
      simp [keys] at this ⊢; lia
    walk_at "g"
    refine w414tr (hTR.set_ne nTRb) fun h3 e3 => ?_
    walk_at "g"
    exact q _ (((e1.trans e2).setN (Nat.le_trans e1.top g2)).trans e3)
theorem w857 (R : RowsOk D rows) (E : EsOk rows es) (ha : Lv h a (.dict ep (ed fE es)))
    (q : ∀ h' v, Ext [] h h' → IsV h' (usedv rows es n g) v → k v h') : Cl (d + 9) 857 [.bytes D, .ref a, .int n, .int g] h k := by
  refine enter (fn := f857) (ls := [some (.bytes D), some (.ref a), some (.int n), some (.int g), none, none]) rfl rfl ?_
  cases he : lk n es with
  | none =>
    have hu : usedv rows es n g = .none := by unfold usedv plain; rw [he]
    rw [hu] at q
    walk_at "g"
    exact q _ _ .refl .none
  | some e =>
    have ok := E.ok n e he
    obtain ⟨wy, one, two⟩ := e
    have hfE : fE ⟨wy, one, two⟩ = .obj 730 [.str wy.s, .int one, .int two] := rfl
    by_cases h1 : n < 1
    · have hu : usedv rows es n g = .none := by
        unfold usedv plain; rw [he]; dsimp only
        rw [if_neg (fun q => q.2.2 (by have := ok.key; lia))]
      rw [hu] at q
      walk_at "g"
      exact q _ _ .refl .none
    · cases wy with
      | free =>
        have hu : usedv rows es n g = .none := by
          unfold usedv plain; rw [he]; dsimp only
          rw [if_neg (fun q => by cases q.1)]
        rw [hu] at q
        walk_at "g"
        exact q _ _ .refl .none
      | packed =>
        have hu : usedv rows es n g = .none := by
          unfold usedv plain; rw [he]; dsimp only
          rw [if_neg (fun q => by cases q.1)]
        rw [hu] at q
        walk_at "g"
        exact q _ _ .refl .none
      | used =>
        refine e12 (ok.used rfl) fun r hr hone => ?_
        simp only at hone
        subst hone
        have hpl := plain_used R he rfl hr rfl (g := g)
        simp only at hpl
        by_cases h2 : two = g
        · subst h2
          walk_at "g"
          refine w794r R.len (R.at' r hr) fun h4 e4 => ?_
          by_cases hm2 : (r.num : Int) = n ∧ (r.gen : Int) = two
          · rw [if_pos ⟨rfl, by lia, hm2⟩] at hpl
            rw [decide_eq_true hm2]
            have hu : usedv rows es n two = r.val := by unfold usedv; rw [hpl]
            rw [hu] at q
            walk_at "g"
            refine w808 R.len (R.at' r hr) fun h5 v e5 hv => ?_
            walk_at "g"
            refine w801 hv r.val_ne ?_
            walk_at "g"
            exact q _ _ (e4.trans e5) hv
          · rw [if_neg (fun q => hm2 q.2.2)] at hpl
            rw [decide_eq_false hm2]
            have hu : usedv rows es n two = .none := by unfold usedv; rw [hpl]
            rw [hu] at q
            walk_at "g"
            exact q _ _ e4 .none
        · rw [if_neg (fun q => h2 q.1)] at hpl
          have hu : usedv rows es n g = .none := by unfold usedv; rw [hpl]
          rw [hu] at q
          walk_at "g"
          exact q _ _ .refl .none
noncomputable def M0 (rows : List Rw) (es : Es) (e : Te) (i : Int) : Option (Int × Mv) := if i = e.one then some (0, usedv rows es e.one 0) else none
noncomputable def obv (rows : List Rw) (es : Es) (n g : Int) : Mv := match lk n es with
  | some e => if e.way = .packed then if g ≠ 0 then .none else match pv (M0 rows es e) [(n, e)] n with
      | some (g, mv) => if g = 0 then mv else .none
      | none => .none
    else usedv rows es n g
  | none => usedv rows es n g
theorem one_ok {one two : Int} (he : lk n es = some ⟨.packed, one, two⟩) (ok : TeOk rows n ⟨.packed, one, two⟩) : EsOk rows [(n, ⟨.packed, one, two⟩)] := ⟨by simp [keys], fun m e' hm => by
  rw [lk_cons] at hm
  split at hm
  · rename_i hh; subst hh; cases hm; exact ok
  · cases hm⟩
theorem usedv_len (R : RowsOk D rows) {l : List Nat} (h : usedv rows es n g = .ost l) : l.length ≤ 4 := by
  unfold usedv at h
  split at h
  · rename_i r hpl
    have hr : r ∈ rows := by
      unfold plain at hpl
      split at hpl
      · split at hpl
        · exact List.mem_of_find?_eq_some hpl
        · cases hpl
      · cases hpl
    have := (R.at' r hr).ok.len
    unfold Rw.val at h
    split at h
    · cases h
      lia
    · split at h <;> cases h
  · cases h
theorem usedv_packed {e : Te} (he : lk n es = some e) (hw : e.way ≠ .used) : usedv rows es n g = .none := by
  unfold usedv plain
  rw [he]
  dsimp only
  rw [if_neg (fun q => hw q.1)]
theorem m0_ok (R : RowsOk D rows) {one two : Int} (he : lk n es = some ⟨.packed, one, two⟩) (ok : TeOk rows n ⟨.packed, one, two⟩) : MOk (M0 rows es ⟨.packed, one, two⟩) [(n, ⟨.packed, one, two⟩)] := by
  have hp := ok.packed rfl
  simp only at hp
  refine ⟨fun m hm => ?_, fun m g l hm => ?_, fun m e' hm hw h0 g l hM => ?_⟩
  · unfold M0 at hm
    split at hm
    · rename_i hh; simp only at hh; lia
    · exact absurd rfl hm
  · unfold M0 at hm
    split at hm
    · simp only [Option.some.injEq, Prod.mk.injEq] at hm
      have := usedv_len R hm.2
      lia
    · cases hm
  · rw [lk_cons] at hm
    split at hm
    · rename_i hh
      simp only at hh
      subst hh
      unfold M0 at hM
      split at hM
      · rename_i h2
        simp only at h2
        subst h2
        simp only [Option.some.injEq, Prod.mk.injEq] at hM
        rw [usedv_packed he (by simp)] at hM
        cases hM.2
      · cases hM
    · cases hm
theorem obv_eq {one two : Int} {mv : Mv} (he : lk n es = some ⟨.packed, one, two⟩) (hm : mv = .none ∧ (∀ mv, pv (M0 rows es ⟨.packed, one, two⟩) [(n, ⟨.packed, one, two⟩)] n ≠ some (0, mv)) ∨ pv (M0 rows es ⟨.packed, one, two⟩) [(n, ⟨.packed, one, two⟩)] n = some (0, mv)) : obv rows es n 0 = mv := by
  unfold obv
  rw [he]
  dsimp only
  rw [if_pos rfl, if_neg (by simp)]
  rcases hm with ⟨rfl, hm⟩ | hm
  · split
    · rename_i g' mv' hx
      split
      · rename_i hg; subst hg; exact absurd hx (hm _)
      · rfl
    · rfl
  · rw [hm]; rfl
theorem w864 (R : RowsOk D rows) (E : EsOk rows es) (ha : Lv h a (.dict ep (ed fE es)))
    (q : ∀ h' v, Ext [] h h' → IsV h' (obv rows es n g) v → k v h') : Cl (d + 10) 864 [.bytes D, .ref a, .int n, .int g, .fn 881] h k := by
  refine enter (fn := f864) (ls := [some (.bytes D), some (.ref a), some (.int n), some (.int g), some (.fn 881), none, none]) rfl rfl ?_
  cases he : lk n es with
  | none =>
    have hu : obv rows es n g = usedv rows es n g := by unfold obv; rw [he]
    rw [hu] at q
    walk_at "g"
    refine w857 R E ha fun h1 v e1 iv => ?_
    have q := q _ _ e1 iv
    walk_at "g"
  | some e =>
    have ok := E.ok n e he
    obtain ⟨wy, one, two⟩ := e
    have hfE : fE ⟨wy, one, two⟩ = .obj 730 [.str wy.s, .int one, .int two] := rfl
    cases wy with
    | free =>
      have hu : obv rows es n g = usedv rows es n g := by unfold obv; rw [he]; rfl
      rw [hu] at q
      walk_at "g"
      refine w857 R E ha fun h1 v e1 iv => ?_
      have q := q _ _ e1 iv
      walk_at "g"
    | used =>
      have hu : obv rows es n g = usedv rows es n g := by unfold obv; rw [he]; rfl
      rw [hu] at q
      walk_at "g"
      refine w857 R E ha fun h1 v e1 iv => ?_
      have q := q _ _ e1 iv
      walk_at "g"
    | packed =>
      by_cases hg : g = 0
      · subst hg
        walk_at "g"
        refine mk500n fun S T TR ep1 ep2 h1 e1 g1 g2 g3 n1 n2 n3 lS lT lTR => ?_
        replace ha := ha.ext0 e1
        have nST : S ≠ T := n1
        have lT : Lv h1 T (.dict ep1 (ed fS [])) := lT
        walk_at "g"
        refine w857 R E ha fun h2 v e2 iv => ?_
        replace ha := ha.ext0 e2
        replace lS := lS.ext0 e2
        replace lT := lT.ext0 e2
        walk_at "g"
        refine w464 lS lT (by simp) fun ep3 h3 e3 lT3 => ?_
        have tR0 : TbR h3 [] (fun Z => none) := ⟨by simp [keys], fun n => rfl⟩
        have tR3 : TbR h3 (pk one (0, v) []) (M0 rows es ⟨.packed, one, two⟩) := tR0.put (iv.ext1 lT noHd_ed e3) (by unfold M0; rw [if_pos rfl]) (fun j hj => by unfold M0; rw [if_neg hj])
        replace lS := lS.ext e3 (ne1 nST)
        have x3 : Ext [] h h3 := Ext.new (a := T) (((e1.trans e2).sub (by simp)).trans e3) g2
        clear e1 e2 e3 ha lT tR0
        walk_at "g"
        refine frD fun F ep4 h4 e4 gF lF => ?_
        have nTF := lT3.ne gF
        have nSF := lS.ne gF
        replace lS := lS.ext0 e4
        replace lT3 := lT3.ext0 e4
        replace tR3 := tR3.ext0 e4
        walk_at "g"
        refine ⟨⟨Nat.le_of_ble_eq_true rfl, .inl (fun q => by cases q)⟩, fun ep5 => ?_⟩
        rw [show putI n (V.int n, fE ⟨.packed, one, two⟩).snd [] = ed fE [(n, ⟨.packed, one, two⟩)] from rfl]
        have lF5 := lF.set (o' := .dict ep5 (ed fE [(n, ⟨.packed, one, two⟩)]))
        have x5 : Ext [F] h4 (h4.set F (.dict ep5 (ed fE [(n, ⟨.packed, one, two⟩)]))) := Ext.set (by simp)
        replace lS := lS.ext x5 (ne1 nSF)
        replace tR3 := tR3.ext1 lF (noHd_ed (f := fE) (l := [])) x5
        replace lT3 := lT3.ext x5 (ne1 nTF)
        have x6 : Ext [] h (h4.set F (.dict ep5 (ed fE [(n, ⟨.packed, one, two⟩)]))) := (x3.trans e4).setN (Nat.le_trans x3.top gF)
        generalize h4.set F (.dict ep5 (ed fE [(n, ⟨.packed, one, two⟩)])) = h5 at *
        have E1 := one_ok he ok
        have O1 := m0_ok R he ok
        clear x5 lF
        walk_at "g"
        refine w829 E1 O1 lF5 lS lT3 tR3 fun h6 ep6 tb6 e6 lT6 tR6 => ?_
        replace lS := lS.ext e6 (ne1 nST)
        walk_at "g"
        refine mk391 fun h7 e7 => ?_
        replace lS := lS.ext0 e7
        replace lT6 := lT6.ext0 e7
        replace tR6 := tR6.ext0 e7
        walk_at "g"
        refine w436k lS lT6 tR6 (by decide) fun u mv iu hm => ?_
        have hu : obv rows es n 0 = mv := obv_eq he hm
        rw [hu] at q
        have q := q h7 u (Ext.new (a := T) (((x6.sub (by simp)).trans e6).tr0 e7) g2) iu
        walk_at "g"
      · have hu : obv rows es n g = .none := by unfold obv; rw [he]; dsimp only; rw [if_pos rfl, if_pos hg]
        rw [hu] at q
        walk_at "g"
        exact q _ _ .refl .none
end
end
section
structure PenV (t : Nat) (h : Hp) (p C : Nat) (cs : List Int) (gr st : Int) (pl N : Nat) : Prop where
  lp : Lv h p (.list [.ref C, .int gr, .int st, .int pl])
  lc : Lv h C (.list (cs.map .int))
  gr : 0 ≤ gr
  st : 0 ≤ st ∧ st < 2147483647
  pl : pl ≤ N
  cl : cs.length ≤ 48
  ne : C ≠ p
  ct : C < t ∧ p < t
noncomputable def Pen (t : Nat) (h : Hp) (p N : Nat) : Prop := ∃ C cs gr st pl, PenV t h p C cs gr st pl N
section
variable {d : Nat} {h : Hp} {S' : List Nat} {a b ep ep2 S T TR F p N lim : Nat} {k : KE} {v v2 v3 : V} {x n m g : Int} {h0 h' : Hp} {t : Nat}
theorem Pen.ext (P : Pen t h p N) (e : Ext S' h h') (hS : ∀ s ∈ S', t ≤ s) : Pen t h' p N := by
  refine e51 (P) fun C cs gr st pl P => ?_
  exact ⟨C, cs, gr, st, pl, P.lp.ext e (fun q => by have := hS _ q; have := P.ct; lia), P.lc.ext e (fun q => by have := hS _ q; have := P.ct; lia), P.gr, P.st, P.pl, P.cl, P.ne, P.ct⟩
theorem Pen.ext0 (P : Pen t h p N) (e : Ext [] h h') : Pen t h' p N := P.ext e (by simp)
theorem Pen.mono {M : Nat} (P : Pen t h p N) (hl : N ≤ M) : Pen t h p M := by
  refine e51 (P) fun C cs gr st pl P => ?_
  exact ⟨C, cs, gr, st, pl, P.lp, P.lc, P.gr, P.st, Nat.le_trans P.pl hl, P.cl, P.ne, P.ct⟩
theorem Pen.lt (P : Pen t h p N) : p < t := by
  refine e51 (P) fun C cs gr st pl P => ?_
  exact P.ct.2
theorem w876 (P : Pen t h p N) (hN : N ≤ 1000000) (h0 : 0 < lim) (h1 : lim ≤ 1000) (q : ∀ h' (r : Nat), r < lim → Ext [p] h h' → Pen t h' p (N + 1) → k (.int r) h') : Cl (d + 1) 876 [.ref p, .int lim] h k := by
  refine enter (fn := f876) (ls := [some (.ref p), some (.int lim), none, none]) rfl rfl ?_
  refine e51 (P) fun C cs gr st pl P => ?_
  obtain ⟨lp, lc, hgr, hst, hpl, hcl, hne, hct⟩ := P
  have i0 : (0 : Int) < lim := by lia
  have i1 : (lim : Int) < 1000000000000 := by lia
  have hln : (cs.map V.int).length = cs.length := List.length_map _
  have key : ∀ (x : Int) (gr' st' : Int), 0 ≤ gr' → 0 ≤ st' ∧ st' < 2147483647 → k (.int (x % lim)) (h.set p (.list [.ref C, .int gr', .int st', .int (pl + 1)])) := fun x gr' st' hg hs => by
    have e1 := Int.emod_nonneg x (b := lim) (by lia)
    have e2 := Int.emod_lt_of_pos x i0
    refine e11 (Int.eq_ofNat_of_zero_le e1) fun r hr => ?_
    rw [hr] at e2 ⊢
    refine q _ _ (by lia) (Ext.set (by simp)) ⟨C, cs, gr', st', pl + 1, lp.set, lc.set_ne hne, hg, hs, by lia, hcl, hne, hct⟩
  clear q
  walk_at "g"
  by_cases hg : 0 < gr
  · walk_at "g"
    rw [Hp.set_set]
    exact key gr (gr / lim) st (Int.ediv_nonneg hgr (by lia)) hst
  · have hs2 : 0 ≤ (st * 16807 + (pl : Int) * pl + 7) % 2147483647 ∧ (st * 16807 + (pl : Int) * pl + 7) % 2147483647 < 2147483647 := by lia
    have key := fun x => key x gr _ hgr hs2
    walk_at "g"
    by_cases hpc : pl < cs.length
    · have hgt : (cs.map V.int)[pl]? = some (.int cs[pl]) := by
        rw [List.getElem?_map, List.getElem?_eq_getElem hpc]; rfl
      walk_at "g"
      rw [Hp.set_set]
      exact key _
    · walk_at "g"
      rw [Hp.set_set]
      exact key _
theorem w869 {ns : List Int} (hS : Lv h S (.ro (ns.map .int))) (hl : ns.length ≤ 1000) (q : ∀ h' p, Ext [] h h' → h.top ≤ p → Pen h'.top h' p 0 → k (.ref p) h') : Cl (d + 1) 869 [.ref S] h k := by
  refine enter (fn := f869) (ls := [some (.ref S), none, none, none, none]) rfl rfl ?_
  have hln : (ns.map V.int).length = ns.length := List.length_map _
  walk_at "g"
  refine fr1 fun A h1 e1 g1 l1 => ?_
  have t48 : Int.toNat 48 = 48 := rfl
  rw [t48, ← List.map_take] at l1
  have hl1 : (ns.take 48).length ≤ 48 := by simp; lia
  generalize ns.take 48 = cs at l1 hl1
  walk_at "g"
  refine fr1 fun B h2 e2 g2 l2 => ?_
  have nAB := l1.ne g2
  replace l1 := l1.ext0 e2
  refine comp (fun i h' => h' = h2.set B (.list ((cs.take i).map .int))) (Hp.set_same l2.get).symm ?_ ?_
  · rintro R i v h' hv rfl hR
    refine e12 (map_int hv) fun n hn eq1 => ?_
    subst eq1
    refine ⟨(l1.set_ne nAB).get, ?_⟩
    have hln2 : ((cs.take i).map V.int).length ≤ 1000 := by simp; lia
    clear hv
    walk_at "g"
    refine hR _ ?_
    rw [Hp.set_set, List.take_add_one, hn, List.map_append]
    rfl
  · rintro h' rfl
    refine ⟨(l1.set_ne nAB).get, ?_⟩
    rw [List.length_map, List.take_length]
    have hln3 : (cs.map V.int).length = cs.length := List.length_map _
    have l3 := l2.set (o' := .list (cs.map .int))
    have x3 : Ext [] h (h2.set B (.list (cs.map .int))) := (e1.trans e2).setN (Nat.le_trans e1.top g2)
    generalize h2.set B (.list (cs.map .int)) = h3 at *
    clear l1 l2 hS
    have tail : ∀ gr : Int, 0 ≤ gr → denSs (denS P (Cl d) 20) (b869.drop 3) [some (.ref S), none, some (.ref B), some (.int gr), none] h3 (fin k) := by
      intro gr hgr
      walk_at "g"
      refine for_ (fun i ls h' => ∃ x st, ls = [some (.ref S), x, some (.ref B), some (.int gr), some (.int st)] ∧ h' = h3 ∧ 0 ≤ st ∧ st < 2147483647) ⟨none, 1, rfl, rfl, by decide⟩ ?_ ?_
      · intro R i v ls h' hv hI hR
        refine e24 hI fun x st eq1 => ?_
        clear hI
        subst eq1
        intro eq2
        subst eq2
        intro s1 s2
        refine e12 (map_int hv) fun n hn eq1 => ?_
        subst eq1
        refine ⟨l3.get, ?_⟩
        clear hv
        walk_at "g"
        refine hR _ _ (i24 rfl rfl ?_ ?_)
        · exact Int.emod_nonneg _ (by decide)
        · exact Int.emod_lt_of_pos _ (by decide)
      · intro ls h' hI
        refine e24 hI fun x st eq1 => ?_
        clear hI
        subst eq1
        intro eq2
        subst eq2
        intro s1 s2
        refine ⟨l3.get, ?_⟩
        walk_at "g"
        refine fr1 fun p h4 e4 g4 l4 => ?_
        exact q _ _ (x3.trans e4) (Nat.le_trans x3.top g4) ⟨B, cs, gr, st, 0, l4, l3.ext0 e4, hgr, ⟨s1, s2⟩, Nat.le_refl _, hl1, l3.ne g4, (l3.ext0 e4).lt, l4.lt⟩
    induction cs using List.casesOn with
    | nil =>
      rw [List.map_nil] at *
      repeat (first | apply tail 0 (by decide) | walk_at "s")
    | cons c cs =>
      rw [List.map_cons] at *
      have hsm : small (V.int c :: List.map V.int cs).length := by rw [hln3, small]; lia
      have hp : (0 : Int) < 10 ^ Int.toNat 240 := Int.pow_pos (by decide)
      by_cases hc : (10 : Int) ^ Int.toNat 15 ≤ c.natAbs
      · iterate 15 walk_at "s"
        exact tail _ (Int.emod_nonneg _ (Int.ne_of_gt hp))
      · iterate 9 walk_at "s"
        exact tail 0 (by decide)
end
end
section
theorem rngL_getQ (n : Nat) (lo st : Int) (i : Nat) (v : V) (h : (rngL lo st n)[i]? = some v) : i < n ∧ v = .int (lo + st * i) := by
  have hi := (List.getElem?_eq_some_iff.mp h).1
  rw [rngL_length] at hi
  rw [rngL_get lo st n i hi, Int.mul_comm] at h
  exact ⟨hi, (Option.some.inj h).symm⟩
noncomputable abbrev RA := List (Rw × Nat)
noncomputable def fRw (x : Rw × Nat) : V := .tup [.int x.1.num, .int x.1.gen, .int x.1.at', .int x.1.way, .ref x.2]
structure Laid (h : Hp) (t0 LA : Nat) (rA : RA) : Prop where
  list : Lv h LA (.list (rA.map fRw))
  la : t0 ≤ LA
  codes : ∀ x ∈ rA, Lv h x.2 (.list (x.1.codes.map fun c => .int (c : Nat))) ∧ t0 ≤ x.2 ∧ x.2 ≠ LA
theorem Rw.segT_app (r : Rw) (t x : List Nat) : r.segT t ++ x = r.segT (t ++ x) := by
  unfold Rw.segT Rw.bodyT
  split
  · simp [List.append_assoc, strT]
  · split
    · simp [List.append_assoc, strT]
    · simp [List.append_assoc]
noncomputable def HdOk (t : List Nat) : Prop := isWh (hd t) = false ∧ hd t ≠ 37
structure DataOk (D : List Nat) (rows : List Rw) : Prop where
  at' : ∀ r ∈ rows, r.Ok ∧ ∃ pre t, D = pre ++ r.segT t ∧ pre.length = r.at' ∧ HdOk t
  inj : ∀ r ∈ rows, ∀ s ∈ rows, r.at' = s.at' → r = s
  lt : ∀ r ∈ rows, r.at' < D.length
  asc : ∀ c ∈ D, c < 128
theorem Rw.seg_hd (r : Rw) (o : r.Ok) (t : List Nat) : HdOk (r.segT t) := by
  refine e05 (dec_ok r.num (by have := o.num; lia)) fun Z Z n3 Z n5 => ?_
  unfold Rw.segT HdOk
  cases e : decText r.num with
  | nil => rw [e] at n3; simp at n3
  | cons c l => rw [e] at n5; exact n5
theorem Rw.seg_len (r : Rw) (o : r.Ok) : 0 < (r.segT []).length ∧ (r.segT []).length ≤ 200 := by
  refine e05 (dec_ok r.num (by have := o.num; lia)) fun Z Z n3 n4 Z => ?_
  refine e05 (dec_ok r.gen (by have := o.gen; lia)) fun Z Z g3 g4 Z => ?_
  refine e05 (dec_ok r.codes.length (by have := o.len; lia)) fun Z Z c3 c4 Z => ?_
  refine e05 (dec_ok (r.codes.headD 0) (by have := o.head; lia)) fun Z Z d3 d4 Z => ?_
  have := o.len
  unfold Rw.segT Rw.bodyT
  split
  · simp [strT, T1, T2, tOst, tStream, tEndS, tEndO, tObj]; lia
  · split
    · simp [strT, T1, T2, tXrf, tStream, tEndS, tEndO, tObj]; lia
    · simp [tEndO, tObj] at *; lia
theorem fig_lt {l : List Nat} (h : ∀ c ∈ l, isFig (c : Int) = true) : ∀ c ∈ l, c < 128 := fun c hc => by
  have := isFig_iff.mp (h c hc)
  lia
theorem asc_app {a b : List Nat} (h1 : ∀ c ∈ a, c < 128) (h2 : ∀ c ∈ b, c < 128) : ∀ c ∈ a ++ b, c < 128 := fun c hc => (List.mem_append.mp hc).elim (h1 c) (h2 c)
theorem asc_cons {a : Nat} {b : List Nat} (h1 : a < 128) (h2 : ∀ c ∈ b, c < 128) : ∀ c ∈ a :: b, c < 128 := fun c hc => by
  rcases List.mem_cons.mp hc with rfl | hc
  · exact h1
  · exact h2 c hc
theorem Rw.seg_asc (r : Rw) (o : r.Ok) : ∀ c ∈ r.segT [], c < 128 := by
  have n := fig_lt (dec_ok r.num (by have := o.num; lia)).1
  have g := fig_lt (dec_ok r.gen (by have := o.gen; lia)).1
  have c := fig_lt (dec_ok r.codes.length (by have := o.len; lia)).1
  have d := fig_lt (dec_ok (r.codes.headD 0) (by have := o.head; lia)).1
  have e : ∀ c ∈ r.codes, c < 128 := fun c hc => by have := o.codes c hc; lia
  unfold Rw.segT Rw.bodyT
  split
  · unfold strT
    repeat' (first | exact n | exact g | exact c | exact e | (with_reducible refine asc_app ?_ ?_) | (with_reducible refine asc_cons (by decide) ?_) | decide)
  · split
    · unfold strT
      repeat' (first | exact n | exact g | exact c | exact e | (with_reducible refine asc_app ?_ ?_) | (with_reducible refine asc_cons (by decide) ?_) | decide)
    · repeat' (first | exact n | exact g | exact d | (with_reducible refine asc_app ?_ ?_) | (with_reducible refine asc_cons (by decide) ?_) | decide)
theorem DataOk.step {D : List Nat} {rows : List Rw} (K : DataOk D rows) {r : Rw} (o : r.Ok) (ha : r.at' = D.length) : DataOk (D ++ r.segT []) (rows ++ [r]) := by
  refine ⟨fun s hs => ?_, fun s hs s' hs' e => ?_, fun s hs => ?_, fun c hc => ?_⟩
  · rcases List.mem_append.mp hs with hs | hs
    · obtain ⟨o', pre, t, h1, h2, h3⟩ := K.at' s hs
      refine ⟨o', pre, t ++ r.segT [], by rw [h1, List.append_assoc, s.segT_app], h2, ?_⟩
      induction t using List.casesOn with
      | nil => exact r.seg_hd o _
      | cons c l => exact h3
    · rw [List.mem_singleton] at hs
      subst hs
      exact ⟨o, D, [], rfl, ha.symm, rfl, by simp [hd]⟩
  · rcases List.mem_append.mp hs with h1 | h1 <;> rcases List.mem_append.mp hs' with h2 | h2
    · exact K.inj s h1 s' h2 e
    · have := K.lt s h1
      rw [List.mem_singleton.mp h2] at e
      lia
    · have := K.lt s' h2
      rw [List.mem_singleton.mp h1] at e
      lia
    · rw [List.mem_singleton.mp h1, List.mem_singleton.mp h2]
  · have := (r.seg_len o).1
    rw [List.length_append]
    rcases List.mem_append.mp hs with hs | hs
    · have := K.lt s hs
      lia
    · rw [List.mem_singleton] at hs; subst hs; lia
  · rcases List.mem_append.mp hc with hc | hc
    · exact K.asc c hc
    · exact r.seg_asc o c hc
theorem DataOk.rows {D : List Nat} {rows : List Rw} (K : DataOk D rows) (hl : D.length ≤ 1000000) : RowsOk D rows := ⟨hl, fun r hr => by
  obtain ⟨o, pre, t, h1, h2, h3⟩ := K.at' r hr
  refine ⟨o, t, ⟨?_, ?_⟩, h3.1, h3.2⟩
  · rw [h1, ← h2]; simp
  · rw [h1, ← h2]; simp, K.inj⟩
section
variable {d : Nat} {h : Hp} {S' : List Nat} {a b ep ep2 S T TR F p N lim : Nat} {k : KE} {v v2 v3 : V} {x n m g : Int} {h0 h' : Hp} {t : Nat}
theorem Laid.ext {t0 LA : Nat} {rA : RA} (L : Laid h t0 LA rA) (e : Ext S' h h') (hS : ∀ b ∈ S', b < t0) : Laid h' t0 LA rA :=
  ⟨L.list.ext e (fun q => by have := hS _ q; have := L.la; lia), L.la, fun x hx => ⟨(L.codes x hx).1.ext e (fun q => by have := hS _ q; have := (L.codes x hx).2.1; lia), (L.codes x hx).2⟩⟩
noncomputable def hdr : List Nat := [37, 80, 68, 70, 45, 49, 46, 55, 10]
inductive I886 (h : Hp) (t p LA N i : Nat) : Ls → Hp → Prop
  | mk {h' : Hp} {data : List Nat} {rA : RA} {x3 x4 x5 x6 x7 x8 x9 : Option V} : Ext [p] h h' → Pen t h' p (N + 1 + 8 * i) → Laid h' h.top LA rA → DataOk data (rA.map (·.1)) → rA.length = i → data.length ≤ 9 + 200 * i → I886 h t p LA N i [some (.ref p), some (.str data), some (.ref LA), x3, x4, x5, x6, x7, x8, x9] h'
theorem w886 (P : Pen t h p N) (ht : t ≤ h.top) (hN : N ≤ 900000) (q : ∀ h' LA D rA, Ext [p] h h' → Pen t h' p (N + 60) → Laid h' h.top LA rA → RowsOk D (rA.map (·.1)) → 1 ≤ rA.length → rA.length ≤ 6 → k (.tup [.bytes D, .ref LA]) h') : Cl (d + 2) 886 [.ref p] h k := by
  refine enter (fn := f886) (ls := [some (.ref p), none, none, none, none, none, none, none, none, none]) rfl rfl ?_
  have hp : p < h.top := Nat.lt_of_lt_of_le P.lt ht
  walk_at "g"
  refine fr1 fun LA h1 e1 g1 l1 => ?_
  have P1 := P.ext0 e1
  walk_at "g"
  refine w876 (lim := 6) P1 (by lia) (by decide) (by decide) fun h2 r hr e2 P2 => ?_
  have hpLA : p ≠ LA := by lia
  replace l1 := l1.ext e2 (by simpa using Ne.symm hpLA)
  walk_at "g"
  have hrr : (2 + (r : Int) - 1).toNat = r + 1 := by lia
  rw [hrr]
  refine for_ (I886 h t p LA N) (.mk (data := hdr) (rA := []) ((e1.sub (by simp)).trans e2) P2 ⟨l1, g1, by simp⟩ ⟨by simp, by simp, by simp, by decide⟩ rfl (by decide)) ?_ ?_
  · intro R i v ls h' hv hI hR
    induction hI using I886.casesOn with | @mk h' data rA x3 x4 x5 x6 x7 x8 x9 x1 P3 L K hrA hdl => ?_
    refine e02 (rngL_getQ _ _ _ _ _ hv) fun hi eq1 => ?_
    subst eq1
    clear hv P1 P2
    have hnum : (1 + 1 * (i : Int)) = ((i + 1 : Nat) : Int) := by lia
    rw [hnum]
    refine ⟨trivial, ?_⟩
    have hph : p < h'.top := Nat.lt_of_lt_of_le hp x1.top
    walk_at "g"
    refine w876 (lim := 4) P3 (by lia) (by decide) (by decide) fun h4 way hway e4 P4 => ?_
    replace L := L.ext e4 (by simpa using hp)
    replace x1 := x1.trans e4
    walk_at "g"
    refine w876 (lim := 5) P4 (by lia) (by decide) (by decide) fun h5 g5 hg5 e5 P5 => ?_
    replace L := L.ext e5 (by simpa using hp)
    replace x1 := x1.trans e5
    walk_at "g"
    have hgen : ((g5 : Int) / 4) = ((g5 / 4 : Nat) : Int) := rfl
    rw [hgen]
    refine w876 (lim := 4) P5 (by lia) (by decide) (by decide) fun h6 cn hcn e6 P6 => ?_
    replace L := L.ext e6 (by simpa using hp)
    replace x1 := x1.trans e6
    clear P3 P4 P5 e4 e5 e6
    walk_at "g"
    have hcc : (1 + (cn : Int)).toNat = cn + 1 := by lia
    rw [hcc]
    refine fr1 fun b h7 e7 g7 l7 => ?_
    have L6 := L
    clear L
    have P7 := P6.ext0 e7
    clear P6
    refine comp (fun j h' => ∃ cs : List Nat, cs.length = j ∧ (∀ c ∈ cs, 32 ≤ c ∧ c ≤ 121) ∧ Ext [p] h6 h' ∧ Lv h' b (.list (cs.map fun c => .int (c : Nat))) ∧ Pen t h' p (N + 1 + 8 * i + 3 + j)) ⟨[], rfl, by simp, e7.sub (by simp), l7, P7⟩ ?_ ?_
    · intro R j v h' hv hI hR
      refine e15 hI fun cs hcs hcr y1 lb P8 => ?_
      clear hI
      refine e02 (rngL_getQ _ _ _ _ _ hv) fun hj eq1 => ?_
      subst eq1
      clear hv
      refine ⟨trivial, ?_⟩
      walk_at "g"
      have hbt : t ≤ b := by have := P8.lt; exact Nat.le_trans ht (Nat.le_trans x1.top g7)
      have hpb : p ≠ b := by have := P8.lt; lia
      have hcl : ∀ cs : List Nat, (cs.map fun c => V.int (c : Nat)).length = cs.length := fun cs => List.length_map _
      refine w876 (lim := 90) P8 (by lia) (by decide) (by decide) fun h9 c hc e9 P9 => ?_
      replace lb := lb.ext e9 (by simpa using Ne.symm hpb)
      have hsm : small (cs.map fun c => V.int (c : Nat)).length := by rw [hcl, small]; lia
      walk_at "g"
      have e : (32 + (c : Int)) = ((32 + c : Nat) : Int) := rfl
      rw [e]
      refine hR _ ⟨cs ++ [32 + c], by simp [hcs], fun x hx => ?_, (y1.trans e9).setN g7, ?_, ?_⟩
      · rcases List.mem_append.mp hx with hx | hx
        · exact hcr x hx
        · rw [List.mem_singleton] at hx; lia
      · rw [List.map_append]; exact lb.set
      · exact P9.ext (Ext.set (S := [b]) (by simp)) (by simpa using hbt)
    · intro h' hI
      refine e15 hI fun cs hcs hcr y1 lb P8 => ?_
      clear hI
      rw [rngL_length] at hcs P8
      refine ⟨trivial, ?_⟩
      walk_at "g"
      refine fr1 fun b2 h8 e8 g8 l8 => ?_
      have nbb := lb.ne g8
      replace lb := lb.ext0 e8
      refine comp (fun j h' => h' = h8.set b2 (.list ((cs.take j).map fun c => V.str [c]))) (Hp.set_same l8.get).symm ?_ ?_
      · rintro R j v h' hv rfl hR
        refine e12 (map_get hv) fun c hc eq1 => ?_
        subst eq1
        have hcc2 := hcr c (List.mem_of_getElem? hc)
        have hcl : ((cs.take j).map fun c => V.str [c]).length ≤ 1000 := by simp; lia
        refine ⟨(lb.set_ne nbb).get, ?_⟩
        clear hv
        walk_at "g"
        refine hR _ ?_
        rw [Hp.set_set, List.take_add_one, hc, List.map_append]
        rfl
      · rintro h' rfl
        refine ⟨(lb.set_ne nbb).get, ?_⟩
        rw [List.length_map, List.take_length]
        have y2 := ((y1.tr0 e8).setN (a := b2) (o := .list (cs.map fun c => V.str [c])) (Nat.le_trans y1.top g8))
        replace lb := lb.set_ne nbb (o' := .list (cs.map fun c => V.str [c]))
        have l9 := l8.set (o' := .list (cs.map fun c => V.str [c]))
        have P9 := (P8.ext0 e8).ext (h' := h8.set b2 (.list (cs.map fun c => V.str [c]))) (Ext.set (S := [b2]) (by simp)) (by simp; have := P8.lt; have := y1.top; have := x1.top; lia)
        generalize h8.set b2 (.list (cs.map fun c => V.str [c])) = h9 at *
        clear P8 e8 l8 P7 l7
        have hlen : 1 ≤ cs.length ∧ cs.length ≤ 4 := by lia
        clear hcs
        have hbt : h.top ≤ b := Nat.le_trans x1.top g7
        have L9 : Laid h9 h.top LA rA := L6.ext y2 (by simpa using hp)
        have hbLA : b ≠ LA := by have := L6.list.lt; lia
        have hfl : strsOf (cs.map fun c => V.str [c]) = some (cs.map fun c => [c]) := strsOf_map cs
        have hff := flat_one cs
        have hcl2 : (cs.map fun c => [c]).length = cs.length := List.length_map _
        have ok : (⟨i + 1, g5 / 4, data.length, way, cs⟩ : Rw).Ok := ⟨by simp only; lia, by simp only; lia, by simp only; lia, by simp only; lia, hcr⟩
        generalize hrw : (⟨i + 1, g5 / 4, data.length, way, cs⟩ : Rw) = rw at ok
        have hfR : fRw (rw, b) = .tup [.int (i + 1 : Nat), .int (g5 / 4 : Nat), .int data.length, .int way, .ref b] := by rw [← hrw]; rfl
        have hra : rw.at' = data.length := by rw [← hrw]
        have hlr : (rA.map fRw).length ≤ 6 := by rw [List.length_map]; lia
        have d1 : (decText ((i + 1 : Nat) : Int).toNat).length ≤ 18 := (dec_ok (i + 1) (by lia)).2.2.2.1
        have d2 : (decText ((g5 / 4 : Nat) : Int).toNat).length ≤ 18 := (dec_ok (g5 / 4) (by lia)).2.2.2.1
        have d3 : (decText (cs.length : Int).toNat).length ≤ 18 := (dec_ok cs.length (by lia)).2.2.2.1
        have hdd : data.length ≤ 2000 := by lia
        have hlL := L9.list
        have fini : ∀ data' x3 x4 x5 x6 x7 x8 x9, data ++ rw.segT [] = data' → R [some (.ref p), some (.str data'), some (.ref LA), x3, x4, x5, x6, x7, x8, x9] (h9.set LA (.list (rA.map fRw ++ [.tup [.int (i + 1 : Nat), .int (g5 / 4 : Nat), .int data.length, .int way, .ref b]]))) := by
          intro data' x3 x4 x5 x6 x7 x8 x9 hseg
          rw [← hfR]
          refine hR _ _ (.mk (rA := rA ++ [(rw, b)]) ?_ ((P9.ext (Ext.set (S := [LA]) (by simp)) (by simp; exact Nat.le_trans ht L9.la)).mono (by lia)) ⟨?_, L9.la, ?_⟩ ?_ (by simp [hrA]) ?_)
          · exact (x1.trans y2).setN L9.la
          · rw [List.map_append]; exact L9.list.set
          · intro x hx
            rcases List.mem_append.mp hx with hx | hx
            · exact ⟨(L9.codes x hx).1.set_ne (L9.codes x hx).2.2, (L9.codes x hx).2⟩
            · rw [List.mem_singleton] at hx
              subst hx
              have hrc : rw.codes = cs := by rw [← hrw]
              exact ⟨by rw [hrc]; exact lb.set_ne hbLA, hbt, hbLA⟩
          · rw [List.map_append, ← hseg]
            exact K.step ok hra
          · rw [← hseg, List.length_append]
            have := (rw.seg_len ok).2
            lia
        clear hR
        walk_at "g"
        try refine ⟨⟨rfl, by rw [hff, small]; lia, by rw [hcl2, small]; lia⟩, ?_⟩
        rw [hff]
        walk_at "g"
        refine mif_dec (fun hw => ?_) (fun hw => ?_)
        · have hw1 : way = 1 := by lia
          have hseg : data ++ rw.segT [] = data ++ decText (i + 1) ++ [32] ++ decText (g5 / 4) ++ [32, 111, 98, 106, 10] ++ ([60, 60, 32, 47, 84, 121, 112, 101, 32, 47, 79, 98, 106, 83, 116, 109, 32, 47, 76, 101, 110, 103, 116, 104, 32] ++ decText cs.length ++ [32, 62, 62, 10, 115, 116, 114, 101, 97, 109, 10] ++ cs ++ [10, 101, 110, 100, 115, 116, 114, 101, 97, 109]) ++ [10, 101, 110, 100, 111, 98, 106, 10] := by
            rw [← hrw]
            simp [Rw.segT, Rw.bodyT, hw1, strT, T1, T2, tOst, tStream, tEndS, tEndO, tObj]
          have fini := fun x3 x4 x5 x6 x7 x8 x9 => fini _ x3 x4 x5 x6 x7 x8 x9 hseg
          clear hw hw1 hrw hseg
          walk_at "g"
          exact fini _ _ _ _ _ _ _
        · walk_at "g"
          refine mif_dec (fun hw2 => ?_) (fun hw2 => ?_)
          · have hw1 : way = 2 := by lia
            have hseg : data ++ rw.segT [] = data ++ decText (i + 1) ++ [32] ++ decText (g5 / 4) ++ [32, 111, 98, 106, 10] ++ [60, 60, 32, 47, 84, 121, 112, 101, 32, 47, 88, 82, 101, 102, 32, 47, 76, 101, 110, 103, 116, 104, 32, 48, 32, 62, 62, 10, 115, 116, 114, 101, 97, 109, 10, 10, 101, 110, 100, 115, 116, 114, 101, 97, 109] ++ [10, 101, 110, 100, 111, 98, 106, 10] := by
              rw [← hrw]
              simp [Rw.segT, Rw.bodyT, hw1, strT, T1, T2, tXrf, tStream, tEndS, tEndO, tObj]
            have fini := fun x3 x4 x5 x6 x7 x8 x9 => fini _ x3 x4 x5 x6 x7 x8 x9 hseg
            clear hw hw2 hw1 hrw hseg
            walk_at "g"
            exact fini _ _ _ _ _ _ _
          · have hw1 : way ≠ 1 := by lia
            have hw3 : way ≠ 2 := by lia
            obtain ⟨c0, cs', rfl⟩ : ∃ c0 cs', cs = c0 :: cs' := by
              induction cs using List.casesOn with
              | nil => simp at hlen
              | cons c l => exact ⟨c, l, rfl⟩
            have hc0 := hcr c0 (by simp)
            have d4 : (decText (c0 : Int).toNat).length ≤ 18 := (dec_ok c0 (by lia)).2.2.2.1
            have hcl5 : (cs'.map fun c => V.int (c : Nat)).length = cs'.length := List.length_map _
            have hseg : data ++ rw.segT [] = data ++ decText (i + 1) ++ [32] ++ decText (g5 / 4) ++ [32, 111, 98, 106, 10] ++ decText c0 ++ [10, 101, 110, 100, 111, 98, 106, 10] := by
              rw [← hrw]
              simp [Rw.segT, Rw.bodyT, hw1, hw3, tEndO, tObj]
            have fini := fun x3 x4 x5 x6 x7 x8 x9 => fini _ x3 x4 x5 x6 x7 x8 x9 hseg
            simp only [List.length_cons] at hlen
            rw [List.map_cons] at lb
            clear hw hw2 hw1 hw3 hrw hseg
            walk_at "g"
            exact fini _ _ _ _ _ _ _
  · intro ls h' hI
    induction hI using I886.casesOn with | @mk h' data rA x3 x4 x5 x6 x7 x8 x9 x1 P3 L K hrA hdl => ?_
    rw [rngL_length] at hrA P3 hdl
    refine ⟨trivial, ?_⟩
    walk_at "g"
    refine ⟨⟨rfl, by simp only [small]; lia, K.asc⟩, ?_⟩
    exact q _ _ _ _ x1 (P3.mono (by lia)) L (K.rows (by lia)) (by lia) (by lia)
end
end
section
theorem map_rw {l : RA} {i : Nat} {v : V} (e : (l.map fRw)[i]? = some v) : ∃ x, l[i]? = some x ∧ v = fRw x := by
  rw [List.getElem?_map] at e
  cases q : l[i]? with
  | none => rw [q] at e; cases e
  | some c => rw [q] at e; cases e; exact ⟨c, rfl, rfl⟩
theorem EsOk.put {rows : List Rw} {es : Es} (E : EsOk rows es) {n : Int} {e : Te} (ok : TeOk rows n e) : EsOk rows (pk n e es) := ⟨pk_nodup E.nd, fun m e' h => by
  rw [lk_pk] at h
  split at h
  · rename_i hh; subst hh; cases h; exact ok
  · exact E.ok m e' h⟩
theorem find_at {α : Type} {p : α → Bool} : ∀ {l : List α} {i : Nat} {x : α}, l[i]? = some x → p x = true → (∀ j, j < i → ∀ y, l[j]? = some y → p y = false) → l.find? p = some x := by
  intro l
  induction l with
  | nil => exact fun h Z Z => none_ne h
  | cons y l ih =>
    intro i x h hp hn
    induction i using Nat.casesOn with
    | zero => rw [List.find?_cons, show y = x from Option.some.inj h, hp]
    | succ i =>
      rw [List.find?_cons, hn 0 (Nat.succ_pos _) y rfl]
      exact ih (i := i) h hp fun j hj z hz => hn (j + 1) (Nat.succ_lt_succ hj) z hz
section
variable {d : Nat} {h : Hp} {S' : List Nat} {a b ep ep2 S T TR F p N lim LA t0 : Nat} {k : KE} {v v2 v3 : V} {x n m g : Int} {h0 h' : Hp} {t : Nat} {rA : RA} {es : Es} {D : List Nat}
inductive I893 (h : Hp) (t p LA F t0 N : Nat) (rA : RA) (i : Nat) : Ls → Hp → Prop
  | mk {h' : Hp} {x3 x4 x5 x6 x7 x8 x9 x10 x11 x12 : Option V} {ep : Nat} {es : Es} : Ext [p] h h' → Pen t h' p (N + 1 + 6 * i) → Laid h' t0 LA rA → Lv h' F (.dict ep (ed fT es)) → EsOk (rA.map (·.1)) es → I893 h t p LA F t0 N rA i [some (.ref p), some (.ref LA), some (.ref F), x3, x4, x5, x6, x7, x8, x9, x10, x11, x12] h'
theorem w893 (Pn : Pen t h p N) (L : Laid h t0 LA rA) (R : RowsOk D (rA.map (·.1))) (ht0 : t ≤ t0) (ht : t ≤ h.top) (hN : N ≤ 900000) (hl1 : 1 ≤ rA.length) (hl6 : rA.length ≤ 6)
    (q : ∀ h' F ep es, Ext [p] h h' → Pen t h' p (N + 60) → h.top ≤ F → Lv h' F (.dict ep (ed fT es)) → EsOk (rA.map (·.1)) es → k (.ref F) h') : Cl (d + 2) 893 [.ref p, .ref LA] h k := by
  refine enter (fn := f893) (ls := [some (.ref p), some (.ref LA), none, none, none, none, none, none, none, none, none, none, none]) rfl rfl ?_
  have hpt := Pn.lt
  walk_at "g"
  refine frD fun F ep1 h1 e1 g1 l1 => ?_
  have P1 := Pn.ext0 e1
  have L1 := L.ext e1 (by simp)
  have hpF : p ≠ F := by lia
  have hLF : LA ≠ F := L.list.ne g1
  have hcF : ∀ x ∈ rA, x.2 ≠ F := fun x hx => (L.codes x hx).1.ne g1
  walk_at "g"
  refine w876 (lim := 6) P1 (by lia) (by decide) (by decide) fun h2 r hr e2 P2 => ?_
  have L2 := L1.ext e2 (by simp; lia)
  replace l1 := l1.ext e2 (by simpa using Ne.symm hpF)
  have x2 : Ext [p] h h2 := (e1.sub (by simp)).trans e2
  clear P1 L1 e1 e2
  walk_at "g"
  have hrr : (1 + (r : Int)).toNat = r + 1 := by lia
  rw [hrr]
  refine for_ (I893 h t p LA F t0 N rA) (.mk (es := []) x2 P2 L2 l1 ⟨by simp [keys], fun Z Z q => none_ne q⟩) ?_ ?_
  · intro R' i v ls h' hv hI hR
    induction hI using I893.casesOn with | @mk h' x3 x4 x5 x6 x7 x8 x9 x10 x11 x12 ep es x1 P3 L3 lF E => ?_
    refine e02 (rngL_getQ _ _ _ _ _ hv) fun hi eq1 => ?_
    subst eq1
    clear hv P2 L2 l1 x2 hrr
    refine ⟨trivial, ?_⟩
    have hlr : (rA.map fRw).length = rA.length := List.length_map _
    have hel := E.len
    have ll := L3.list
    walk_at "g"
    rw [hlr]
    refine w876 (lim := rA.length) P3 (by lia) (by lia) (by lia) fun h4 pl hpl e4 P4 => ?_
    replace L3 := L3.ext e4 (by simp; lia)
    replace lF := lF.ext e4 (by simpa using Ne.symm hpF)
    replace x1 := x1.trans e4
    replace ll := L3.list
    have hget : (rA.map fRw)[pl]? = some (fRw rA[pl]) := by
      rw [List.getElem?_map, List.getElem?_eq_getElem hpl]; rfl
    have hmem : rA[pl] ∈ rA := List.getElem_mem hpl
    generalize rA[pl] = rr at hget hmem
    obtain ⟨rr, ca⟩ := rr
    have hfR : fRw (rr, ca) = .tup [.int rr.num, .int rr.gen, .int rr.at', .int rr.way, .ref ca] := rfl
    have hrr : rr ∈ rA.map (·.1) := List.mem_map_of_mem (f := (·.1)) hmem
    have rok := (R.at' rr hrr).ok
    have lca := (L3.codes _ hmem).1
    have hrn := rok.num
    simp only at lca
    clear e4 P3
    walk_at "g"
    refine w876 (lim := 6) P4 (by lia) (by decide) (by decide) fun h5 kd hkd e5 P5 => ?_
    replace L3 := L3.ext e5 (by simp; lia)
    replace lF := lF.ext e5 (by simpa using Ne.symm hpF)
    replace lca := (L3.codes _ hmem).1
    replace ll := L3.list
    replace x1 := x1.trans e5
    simp only at lca
    clear e5 P4
    have hFt0 : ∀ b ∈ [F], t ≤ b := by simp; lia
    have fini : ∀ x3 x4 x5 x6 x7 x8 x9 x10 x11 x12 h' n e V M o, Ext [p] h h' → Pen t h' p M → M ≤ N + 1 + 6 * (i + 1) → Laid h' t0 LA rA → Lv h' F o → TeOk (rA.map (·.1)) n e → V = fT e → ∀ ep, R' [some (.ref p), some (.ref LA), some (.ref F), x3, x4, x5, x6, x7, x8, x9, x10, x11, x12] (h'.set F (.dict ep (putI n V (ed fT es)))) := by
      intro x3 x4 x5 x6 x7 x8 x9 x10 x11 x12 h' n e V M o a1 a2 a3 a4 a5 a6 a7 ep
      subst a7
      rw [ed_put]
      exact hR _ _ (.mk (a1.setN g1) ((a2.ext (Ext.set (S := [F]) (by simp)) hFt0).mono a3)
        ⟨a4.list.set_ne hLF, a4.la, fun x hx => ⟨(a4.codes x hx).1.set_ne (hcF x hx), (a4.codes x hx).2⟩⟩ a5.set (E.put a6))
    clear hR
    have hcl : (rr.codes.map fun c => V.int (c : Nat)).length = rr.codes.length := List.length_map _
    have hrl := rok.len
    have hrc := rok.codes
    walk_at "g"
    refine mif_dec (fun hk => ?_) (fun hk => ?_)
    · have hok : ∀ m (s : Nat), 0 ≤ m → m < 10 → TeOk (rA.map (·.1)) m ⟨.packed, rr.num, s⟩ := fun m s h1 h2 => ⟨⟨h1, h2⟩, (fun q => by cases q), fun Z => by simp only; lia⟩
      clear hk
      have e1 : ((rr.codes.length : Int) + 1) = ((rr.codes.length + 1 : Nat) : Int) := rfl
      walk_at "g"
      rw [hcl]
      refine w876 (lim := rr.codes.length + 1) P5 (by lia) (by lia) (by lia) fun h6 sp hsp e6 P6 => ?_
      replace L3 := L3.ext e6 (by simp; lia)
      replace lF := lF.ext e6 (by simpa using Ne.symm hpF)
      replace lca := (L3.codes _ hmem).1
      replace ll := L3.list
      replace x1 := x1.trans e6
      simp only at lca
      clear e6 P5
      by_cases hsl : sp < rr.codes.length
      · have hgc : (rr.codes.map fun c => V.int (c : Nat))[sp]? = some (.int (rr.codes[sp] : Nat)) := by
          rw [List.getElem?_map, List.getElem?_eq_getElem hsl]; rfl
        generalize rr.codes[sp] = cc at hgc
        walk_at "g"
        refine w876 (lim := 4) P6 (by lia) (by decide) (by decide) fun h7 sg hsg e7 P7 => ?_
        replace L3 := L3.ext e7 (by simp; lia)
        replace lF := lF.ext e7 (by simpa using Ne.symm hpF)
        replace x1 := x1.trans e7
        clear e7 P6
        by_cases hs0 : 0 < sg
        · walk_at "g"
          exact fini _ _ _ _ _ _ _ _ _ _ _ _ _ _ _ _ x1 P7 (by lia) L3 lF (hok _ sp (by lia) (by lia)) rfl
        · walk_at "g"
          exact fini _ _ _ _ _ _ _ _ _ _ _ _ _ _ _ _ x1 P7 (by lia) L3 lF (hok _ sp (by lia) (by lia)) rfl
      · walk_at "g"
        refine w876 (lim := 10) P6 (by lia) (by decide) (by decide) fun h7 ii hii e7 P7 => ?_
        replace L3 := L3.ext e7 (by simp; lia)
        replace lF := lF.ext e7 (by simpa using Ne.symm hpF)
        replace x1 := x1.trans e7
        clear e7 P6
        walk_at "g"
        refine w876 (lim := 4) P7 (by lia) (by decide) (by decide) fun h8 sg hsg e8 P8 => ?_
        replace L3 := L3.ext e8 (by simp; lia)
        replace lF := lF.ext e8 (by simpa using Ne.symm hpF)
        replace x1 := x1.trans e8
        clear e8 P7
        by_cases hs0 : 0 < sg
        · walk_at "g"
          exact fini _ _ _ _ _ _ _ _ _ _ _ _ _ _ _ _ x1 P8 (by lia) L3 lF (hok _ sp (by lia) (by lia)) rfl
        · walk_at "g"
          exact fini _ _ _ _ _ _ _ _ _ _ _ _ _ _ _ _ x1 P8 (by lia) L3 lF (hok _ sp (by lia) (by lia)) rfl
    · walk_at "g"
      refine mif_dec (fun hk4 => ?_) (fun hk4 => ?_)
      · clear hk hk4
        walk_at "g"
        refine fini _ _ _ _ _ _ _ _ _ _ _ _ ⟨.free, 0, rr.gen + 1⟩ _ _ _ x1 P5 (by lia) L3 lF ⟨by first | lia | (dsimp only; lia), (fun q => by cases q), (fun q => by cases q)⟩ rfl
      · walk_at "g"
        refine mif_dec (fun hk5 => ?_) (fun hk5 => ?_)
        · clear hk hk4 hk5
          walk_at "g"
          rw [hlr]
          refine w876 (lim := rA.length) P5 (by lia) (by lia) (by lia) fun h6 p2 hp2 e6 P6 => ?_
          replace L3 := L3.ext e6 (by simp; lia)
          replace lF := lF.ext e6 (by simpa using Ne.symm hpF)
          replace lca := (L3.codes _ hmem).1
          replace ll := L3.list
          replace x1 := x1.trans e6
          simp only at lca
          clear e6 P5
          have hget2 : (rA.map fRw)[p2]? = some (fRw rA[p2]) := by
            rw [List.getElem?_map, List.getElem?_eq_getElem hp2]; rfl
          have hmem2 : rA[p2] ∈ rA := List.getElem_mem hp2
          generalize rA[p2] = r2 at hget2 hmem2
          obtain ⟨r2, ca2⟩ := r2
          have hfR2 : fRw (r2, ca2) = .tup [.int r2.num, .int r2.gen, .int r2.at', .int r2.way, .ref ca2] := rfl
          have hrr2 : r2 ∈ rA.map (·.1) := List.mem_map_of_mem (f := (·.1)) hmem2
          walk_at "g"
          refine w876 (lim := 2) P6 (by lia) (by decide) (by decide) fun h7 sg hsg e7 P7 => ?_
          replace L3 := L3.ext e7 (by simp; lia)
          replace lF := lF.ext e7 (by simpa using Ne.symm hpF)
          replace x1 := x1.trans e7
          clear e7 P6
          walk_at "g"
          refine fini _ _ _ _ _ _ _ _ _ _ _ _ ⟨.used, r2.at', rr.gen + sg⟩ _ _ _ x1 P7 (by lia) L3 lF ⟨by first | lia | (dsimp only; lia), fun Z => ⟨r2, hrr2, rfl⟩, (fun q => by cases q)⟩ rfl
        · clear hk hk4 hk5
          walk_at "g"
          refine fini _ _ _ _ _ _ _ _ _ _ _ _ ⟨.used, rr.at', rr.gen⟩ _ _ _ x1 P5 (by lia) L3 lF ⟨by first | lia | (dsimp only; lia), fun Z => ⟨rr, hrr, rfl⟩, (fun q => by cases q)⟩ rfl
  · intro ls h' hI
    induction hI using I893.casesOn with | @mk h' x3 x4 x5 x6 x7 x8 x9 x10 x11 x12 ep es x1 P3 L3 lF E => ?_
    rw [rngL_length] at P3
    refine ⟨trivial, ?_⟩
    have q := q h' F ep es x1 (P3.mono (by lia)) g1 lF E
    walk_at "g"
end
end
section
noncomputable def tl (rows : List Rw) (es : Es) (n : Int) : Option (Int × Nat × List Nat) := match lk n es with
  | none => none
  | some e => if n = 0 then none else match e.way with
    | .free => none
    | .used => (plain rows es n e.two).map fun r => (e.two, r.way, r.codes)
    | .packed => match plain rows es e.one 0 with
      | some r => if r.way = 1 ∧ got r.codes n e.two = true then some (0, 0, [r.codes.getD e.two.toNat 0]) else none
      | none => none
section
variable {d : Nat} {h : Hp} {S' : List Nat} {a b ep ep2 S T TR F p N lim LA t0 : Nat} {k : KE} {v v2 v3 : V} {x n m g : Int} {h0 h' : Hp} {t : Nat} {rA : RA} {es : Es} {D : List Nat}
theorem w900 (L : Laid h t0 LA rA) (hF : Lv h F (.dict ep (ed fT es))) (hl : rA.length ≤ 1000)
    (q1 : plain (rA.map (·.1)) es n g = none → k .none h) (q2 : ∀ x ∈ rA, plain (rA.map (·.1)) es n g = some x.1 → k (fRw x) h) : Cl (d + 1) 900 [.ref LA, .ref F, .int n, .int g] h k := by
  refine enter (fn := f900) (ls := [some (.ref LA), some (.ref F), some (.int n), some (.int g), none]) rfl rfl ?_
  have ll := L.list
  unfold plain at q1 q2
  cases he : lk n es with
  | none =>
    rw [he] at q1
    have q1 := q1 rfl
    clear q2
    walk_at "g"
  | some e =>
    rw [he] at q1 q2
    dsimp only at q1 q2
    obtain ⟨wy, one, two⟩ := e
    have hfT : fT ⟨wy, one, two⟩ = .tup [.str wy.s, .int one, .int two] := rfl
    simp only at q1 q2
    cases wy with
    | free =>
      have q1 := q1 (if_neg (fun q => by cases q.1))
      clear q2
      walk_at "g"
    | packed =>
      have q1 := q1 (if_neg (fun q => by cases q.1))
      clear q2
      walk_at "g"
    | used =>
      by_cases h1 : two = g ∧ n ≠ 0
      · simp only [h1.1, h1.2, ne_eq, not_false_eq_true, and_self, if_true] at q1 q2
        refine e02 (h1) fun eq1 => ?_
        clear h1
        subst eq1
        intro h2
        walk_at "g"
        refine for_ (fun i ls h' => ∃ x, ls = [some (.ref LA), some (.ref F), some (.int n), some (.int two), x] ∧ h' = h ∧ ∀ j, j < i → ∀ y, rA[j]? = some y → (decide ((y.1.num : Int) = n ∧ (y.1.gen : Int) = two ∧ (y.1.at' : Int) = one)) = false) ⟨none, rfl, rfl, fun j hj => absurd hj (Nat.not_lt_zero _)⟩ ?_ ?_
        · intro R i v ls h' hv hI hR
          refine e13 hI fun x eq1 => ?_
          clear hI
          subst eq1
          intro eq2
          subst eq2
          intro hn
          refine e12 (map_rw hv) fun y hy eq1 => ?_
          subst eq1
          have hfR : fRw y = .tup [.int y.1.num, .int y.1.gen, .int y.1.at', .int y.1.way, .ref y.2] := rfl
          have skip : (decide ((y.1.num : Int) = n ∧ (y.1.gen : Int) = two ∧ (y.1.at' : Int) = one)) = false → ∀ x, R [some (.ref LA), some (.ref F), some (.int n), some (.int two), x] h' := fun hd x => hR _ _ ⟨_, rfl, rfl, fun j hj z hz => by
            rcases Nat.lt_succ_iff_lt_or_eq.mp hj with hj | rfl
            · exact hn j hj z hz
            · rw [hy] at hz; cases hz; exact hd⟩
          have hit : (y.1.num : Int) = n ∧ (y.1.gen : Int) = two ∧ (y.1.at' : Int) = one → k (fRw y) h' := fun hd => q2 y (List.mem_of_getElem? hy) (by
            rw [List.find?_map]
            refine congrArg (Option.map (·.1)) (find_at (p := (fun r : Rw => decide ((r.num : Int) = n ∧ (r.gen : Int) = two ∧ (r.at' : Int) = one)) ∘ (·.1)) (i := i) hy (decide_eq_true hd) fun j hj z hz => ?_)
            exact hn j hj z hz)
          clear hv hR q1 q2 hn
          refine ⟨ll.get, ?_⟩
          walk_at "g"
          by_cases c1 : (y.1.num : Int) = n
          · by_cases c2 : (y.1.gen : Int) = two
            · by_cases c3 : (y.1.at' : Int) = one
              · have hit := hit ⟨c1, c2, c3⟩
                clear skip
                walk_at "g"
              · have skip := skip (decide_eq_false fun q => c3 q.2.2)
                clear hit
                walk_at "g"
                exact skip _
            · have skip := skip (decide_eq_false fun q => c2 q.2.1)
              clear hit
              walk_at "g"
              exact skip _
          · have skip := skip (decide_eq_false fun q => c1 q.1)
            clear hit
            walk_at "g"
            exact skip _
        · intro ls h' hI
          refine e13 hI fun x eq1 => ?_
          clear hI
          subst eq1
          intro eq2
          subst eq2
          intro hn
          have q1 := q1 (by
            rw [List.find?_eq_none]
            intro r hr
            refine e12 (List.mem_map.mp hr) fun y hy eq1 => ?_
            subst eq1
            refine e11 (List.mem_iff_getElem?.mp hy) fun j hj => ?_
            have hjl := (List.getElem?_eq_some_iff.mp hj).1
            have := hn j (by rw [List.length_map]; exact hjl) y hj
            simpa using this)
          clear q2 hn
          refine ⟨ll.get, ?_⟩
          walk_at "g"
      · have q1 := q1 (if_neg (fun q => h1 q.2))
        clear q2
        by_cases h3 : two = g
        · subst h3
          have h4 : n = 0 := Classical.byContradiction fun q => h1 ⟨rfl, q⟩
          clear h1
          subst h4
          walk_at "g"
        · walk_at "g"
theorem w907 (L : Laid h t0 LA rA) (R : RowsOk D (rA.map (·.1))) (E : EsOk (rA.map (·.1)) es) (hF : Lv h F (.dict ep (ed fT es))) (hl : rA.length ≤ 1000)
    (q1 : tl (rA.map (·.1)) es n = none → k .none h) (q2 : ∀ h' c g w cs, tl (rA.map (·.1)) es n = some (g, w, cs) → Ext [] h h' → Lv h' c (.list (cs.map fun (c : Nat) => .int c)) → k (.tup [.int g, .int w, .ref c]) h') : Cl (d + 2) 907 [.ref LA, .ref F, .int n] h k := by
  refine enter (fn := f907) (ls := [some (.ref LA), some (.ref F), some (.int n), none, none, none, none, none]) rfl rfl ?_
  unfold tl at q1 q2
  cases he : lk n es with
  | none =>
    rw [he] at q1
    have q1 := q1 rfl
    clear q2
    by_cases h0 : n = 0
    · subst h0
      walk_at "g"
    · walk_at "g"
  | some e =>
    rw [he] at q1 q2
    dsimp only at q1 q2
    have ok := E.ok n e he
    obtain ⟨wy, one, two⟩ := e
    have hfT : fT ⟨wy, one, two⟩ = .tup [.str wy.s, .int one, .int two] := rfl
    by_cases h0 : n = 0
    · have q1 := q1 (if_pos h0)
      clear q2
      subst h0
      walk_at "g"
    · rw [if_neg h0] at q1 q2
      cases wy with
      | free =>
        have q1 := q1 rfl
        clear q2
        walk_at "g"
      | used =>
        simp only at q1 q2
        walk_at "g"
        refine w900 L hF hl (fun hp => ?_) fun y hy hp => ?_
        · have q1 := q1 (by rw [hp]; rfl)
          clear q2
          walk_at "g"
        · have q2 := q2 h y.2 two y.1.way y.1.codes (by rw [hp]; rfl) .refl (L.codes y hy).1
          clear q1
          have hfR : fRw y = .tup [.int y.1.num, .int y.1.gen, .int y.1.at', .int y.1.way, .ref y.2] := rfl
          walk_at "g"
      | packed =>
        simp only at q1 q2
        refine e03 (ok.packed rfl) fun Z Z htwo => ?_
        simp only at htwo
        refine e11 (Int.eq_ofNat_of_zero_le htwo) fun t eq1 => ?_
        subst eq1
        walk_at "g"
        refine w900 L hF hl (fun hp => ?_) fun y hy hp => ?_
        · have q1 := q1 (by rw [hp])
          clear q2
          walk_at "g"
        · rw [hp] at q1 q2
          dsimp only at q1 q2
          have hfR : fRw y = .tup [.int y.1.num, .int y.1.gen, .int y.1.at', .int y.1.way, .ref y.2] := rfl
          have lc := (L.codes y hy).1
          obtain ⟨⟨num, gen, at', way, codes⟩, ca⟩ := y
          simp only at q1 q2 hfR lc
          have hcl : (codes.map fun c => V.int (c : Nat)).length = codes.length := List.length_map _
          have hcl4 := (R.at' _ (List.mem_map_of_mem (f := (·.1)) hy)).ok.len
          simp only at hcl4
          clear hp
          by_cases hw : way = 1
          · subst hw
            by_cases htl : t < codes.length
            · have hgc : (codes.map fun c => V.int (c : Nat))[t]? = some (.int (codes.getD t 0 : Nat)) := by
                rw [List.getElem?_map, List.getElem?_eq_getElem htl]
                simp [List.getD, htl]
              by_cases hc : ((codes.getD t 0 / 10 % 10 : Nat) : Int) = n
              · have hg : got codes n t = true := by
                  unfold got; rw [decide_eq_true]; exact ⟨by omega, by omega, hc⟩
                have q2 := fun h' c => q2 h' c 0 0 [codes.getD t 0] (if_pos ⟨rfl, hg⟩)
                clear q1
                generalize codes.getD t 0 = cc at *
                have hc' : ((cc : Int) / 10 % 10) = n := hc
                walk_at "g"
                refine fr1 fun c h4 e4 g4 l4 => ?_
                exact q2 _ _ e4 l4
              · have hg : got codes n t = false := by
                  unfold got; rw [decide_eq_false]; exact fun q => hc q.2.2
                have q1 := q1 (if_neg (by rw [hg]; simp))
                clear q2
                generalize codes.getD t 0 = cc at *
                have hc' : ¬ ((cc : Int) / 10 % 10) = n := hc
                walk_at "g"
            · have hg : got codes n t = false := by
                unfold got; rw [decide_eq_false]; omega
              have q1 := q1 (if_neg (by rw [hg]; simp))
              clear q2
              walk_at "g"
          · have q1 := q1 (if_neg (fun q => hw q.1))
            clear q2
            walk_at "g"
end
end
section
set_option tactic.hygienic true
noncomputable def rowV (rows : List Rw) (es : Es) (n : Int) : Option (Int × Mv) := match tl rows es n with
  | some (g, w, cs) => if w = 0 ∨ w = 3 then some (g, .int (cs.headD 0 : Nat)) else none
  | none => none
section
variable {rows : List Rw} {es : Es} {D : List Nat} {n g : Int}
theorem plain_mem {r : Rw} (h : plain rows es n g = some r) : r ∈ rows := by
  unfold plain at h
  split at h
  · split at h
    · exact List.mem_of_find?_eq_some h
    · cases h
  · cases h
theorem plain_none {e : Te} (he : lk n es = some e) (h : ¬ (e.way = .used ∧ e.two = g ∧ n ≠ 0)) : plain rows es n g = none := by
  unfold plain
  rw [he]
  dsimp only
  rw [if_neg h]
theorem plain_lk (he : lk n es = none) : plain rows es n g = none := by unfold plain; rw [he]
theorem Mu_eq {e : Te} (he : lk n es = some e) : Mu rows es n = if e.way = .used ∧ 0 < n then (plain rows es n e.two).map fun r => (e.two, r.val) else none := by
  unfold Mu; rw [he]
theorem hst_Mu (E : EsOk rows es) {hd : Int} (h1 : 1 ≤ hd) : hst (Mu rows es) hd = match plain rows es hd 0 with
    | some r => if r.way = 1 then some r.codes else none
    | none => none := by
  cases he : lk hd es with
  | none =>
    have : Mu rows es hd = none := by unfold Mu; rw [he]
    unfold hst
    rw [this, plain_lk he]
  | some e =>
    unfold hst
    rw [Mu_eq he]
    by_cases hw : e.way = .used
    · rw [if_pos ⟨hw, by lia⟩]
      by_cases h2 : e.two = 0
      · rw [h2]
        cases hp : plain rows es hd 0 with
        | none => rfl
        | some r =>
          simp only [Option.map_some]
          unfold Rw.val
          by_cases hw1 : r.way = 1
          · rw [if_pos hw1, if_pos hw1]; rfl
          · rw [if_neg hw1, if_neg hw1]
            by_cases hw2 : r.way = 2
            · rw [if_pos hw2]
            · rw [if_neg hw2]
      · rw [plain_none he (fun q => h2 q.2.1)]
        cases hp : plain rows es hd e.two with
        | none => rfl
        | some r =>
          simp only [Option.map_some]
          split
          · rename_i g l q
            simp only [Option.some.injEq, Prod.mk.injEq] at q
            rw [← q.1, if_neg h2]
          · rfl
    · rw [if_neg (fun q => hw q.1), plain_none he (fun q => hw q.1)]
theorem shelf_eq (R : RowsOk D rows) (E : EsOk rows es) (n : Int) : Md (pv (Mu rows es) es) n = rowV rows es n := by
  unfold Md rowV tl pv
  cases he : lk n es with
  | none =>
    have : Mu rows es n = none := by unfold Mu; rw [he]
    dsimp only
    rw [this]
  | some e =>
    have ok := E.ok n e he
    have hk := ok.key
    obtain ⟨wy, one, two⟩ := e
    dsimp only
    by_cases h0 : n = 0
    · have : Mu rows es n = none := by rw [Mu_eq he, if_neg (by lia)]
      rw [if_neg (by lia), this, if_pos h0]
    · rw [if_neg h0]
      have hn : 0 < n := by lia
      cases wy with
      | free =>
        have : Mu rows es n = none := by rw [Mu_eq he, if_neg (fun q => by cases q.1)]
        rw [if_neg (fun q => by cases q.1), this]
      | used =>
        rw [if_neg (fun q => by cases q.1), Mu_eq he, if_pos ⟨rfl, hn⟩]
        dsimp only
        cases hp : plain rows es n two with
        | none => rfl
        | some r =>
          have hr := (R.at' r (plain_mem hp)).ok.way
          simp only [Option.map_some]
          unfold Rw.val
          by_cases w1 : r.way = 1
          · simp [w1, isOst]
          · by_cases w2 : r.way = 2
            · simp [w2, isOst, isXrf]
            · have hw : r.way = 0 ∨ r.way = 3 := by lia
              simp [w1, w2, hw, isOst, isXrf]
      | packed =>
        have hm : Mu rows es n = none := by rw [Mu_eq he, if_neg (fun q => by cases q.1)]
        have hone := (ok.packed rfl).1
        simp only at hone
        rw [if_pos ⟨rfl, hn⟩, hst_Mu E hone, hm]
        dsimp only
        cases hp : plain rows es one 0 with
        | none => rfl
        | some r =>
          dsimp only
          by_cases w1 : r.way = 1
          · rw [if_pos w1]
            dsimp only
            cases hg : got r.codes n two with
            | true => simp [isOst, isXrf, w1]
            | false => simp [w1]
          · rw [if_neg w1]
            simp [w1]
noncomputable def gT : Option (Int × Nat × List Nat) → Int
  | some (g, _, _) => g
  | none => 0
noncomputable def wT : Option (Int × Nat × List Nat) → Mv
  | some (_, w, cs) => if w = 1 then .ost cs else if w = 2 then .xrf else .int (cs.headD 0 : Nat)
  | none => .none
theorem usedv_none (h : plain rows es n g = none) : usedv rows es n g = .none := by unfold usedv; rw [h]
theorem hst_M0 {e : Te} : hst (M0 rows es e) e.one = match plain rows es e.one 0 with
    | some r => if r.way = 1 then some r.codes else none
    | none => none := by
  unfold hst M0
  rw [if_pos rfl]
  unfold usedv
  cases hp : plain rows es e.one 0 with
  | none => rfl
  | some r =>
    dsimp only
    unfold Rw.val
    by_cases w1 : r.way = 1
    · simp [w1]
    · by_cases w2 : r.way = 2
      · simp [w2]
      · simp [w1, w2]
theorem tl_none (he : lk n es = none) : tl rows es n = none := by unfold tl; rw [he]
theorem tl_zero (hn : n = 0) : tl rows es n = none := by
  unfold tl
  cases lk n es with
  | none => rfl
  | some e => exact if_pos hn
theorem tl_free {one two : Int} (he : lk n es = some ⟨.free, one, two⟩) : tl rows es n = none := by
  unfold tl; rw [he]; dsimp only; split <;> rfl
theorem tl_used {one two : Int} (he : lk n es = some ⟨.used, one, two⟩) (hn : n ≠ 0) : tl rows es n = (plain rows es n two).map fun r => (two, r.way, r.codes) := by
  unfold tl; rw [he]; dsimp only; rw [if_neg hn]
theorem tl_packed {one two : Int} (he : lk n es = some ⟨.packed, one, two⟩) (hn : n ≠ 0) : tl rows es n = match plain rows es one 0 with
      | some r => if r.way = 1 ∧ got r.codes n two = true then some (0, 0, [r.codes.getD two.toNat 0]) else none
      | none => none := by
  unfold tl; rw [he]; dsimp only; rw [if_neg hn]; try rfl
theorem gT_packed {one two : Int} (he : lk n es = some ⟨.packed, one, two⟩) : gT (tl rows es n) = 0 := by
  by_cases hn : n = 0
  · rw [tl_zero hn]; rfl
  · rw [tl_packed he hn]
    cases plain rows es one 0 with
    | none => rfl
    | some r =>
      dsimp only
      split <;> rfl
theorem obv_p0 {e : Te} (he : lk n es = some e) (hw : e.way = .packed) : obv rows es n 0 = match pv (M0 rows es e) [(n, e)] n with
      | some (g, mv) => if g = 0 then mv else .none
      | none => .none := by
  unfold obv; rw [he]; dsimp only; rw [if_pos hw, if_neg (by simp)]; try rfl
theorem obv_p {e : Te} (he : lk n es = some e) (hw : e.way = .packed) (hg : g ≠ 0) : obv rows es n g = .none := by
  unfold obv; rw [he]; dsimp only; rw [if_pos hw, if_pos hg]
theorem obv_u {e : Te} (he : lk n es = some e) (hw : e.way ≠ .packed) : obv rows es n g = usedv rows es n g := by
  unfold obv; rw [he]; dsimp only; rw [if_neg hw]
theorem obv_n (he : lk n es = none) : obv rows es n g = .none := by
  unfold obv; rw [he]; exact usedv_none (plain_lk he)
theorem obv_want (R : RowsOk D rows) (E : EsOk rows es) (n : Int) (h0 : 0 ≤ n) : obv rows es n (gT (tl rows es n)) = wT (tl rows es n) := by
  cases he : lk n es with
  | none => rw [tl_none he, obv_n he]; rfl
  | some e =>
    have ok := E.ok n e he
    obtain ⟨wy, one, two⟩ := e
    cases wy with
    | free => rw [tl_free he, obv_u he (by simp), usedv_none (plain_none he (by simp))]; rfl
    | used =>
      rw [obv_u he (by simp)]
      by_cases hn : n = 0
      · rw [tl_zero hn, usedv_none (plain_none he (by simp [hn]))]; rfl
      · rw [tl_used he hn]
        cases hp : plain rows es n two with
        | none =>
          dsimp only [Option.map_none, gT, wT]
          refine usedv_none ?_
          by_cases h2 : two = 0
          · rw [h2] at hp; exact hp
          · exact plain_none he (by simp [h2])
        | some r =>
          simp only [Option.map_some, gT, wT]
          unfold usedv
          rw [hp]
          rfl
    | packed =>
      have hone := (ok.packed rfl).1
      simp only at hone
      rw [gT_packed he, obv_p0 he rfl]
      have hM : ∀ g mv, M0 rows es ⟨.packed, one, two⟩ n = some (g, mv) → mv = .none := by
        intro g mv hm
        unfold M0 at hm
        split at hm
        · rename_i hh
          simp only at hh
          subst hh
          rw [usedv_packed he (by simp)] at hm
          cases hm
          rfl
        · cases hm
      have fin : (match M0 rows es ⟨.packed, one, two⟩ n with | some (g, mv) => if g = 0 then mv else Mv.none | none => Mv.none) = .none := by
        split
        · rename_i g mv hm
          rw [hM g mv hm]; simp
        · rfl
      by_cases hn : n = 0
      · rw [tl_zero hn]
        have : pv (M0 rows es ⟨.packed, one, two⟩) [(n, ⟨.packed, one, two⟩)] n = M0 rows es ⟨.packed, one, two⟩ n := by
          unfold pv
          rw [lk_cons, if_pos rfl]
          dsimp only
          rw [if_neg (by simp; lia)]
        rw [this]
        exact fin
      · have hpv : pv (M0 rows es ⟨.packed, one, two⟩) [(n, ⟨.packed, one, two⟩)] n = match plain rows es one 0 with
            | some r => if r.way = 1 ∧ got r.codes n two = true then some (0, .int (r.codes.getD two.toNat 0 : Nat)) else M0 rows es ⟨.packed, one, two⟩ n
            | none => M0 rows es ⟨.packed, one, two⟩ n := by
          have hk := ok.key
          unfold pv
          rw [lk_cons, if_pos rfl]
          dsimp only
          rw [if_pos ⟨rfl, by lia⟩, show hst (M0 rows es ⟨.packed, one, two⟩) one = _ from hst_M0 (e := ⟨.packed, one, two⟩)]
          cases hp : plain rows es one 0 with
          | none => rfl
          | some r =>
            dsimp only
            by_cases w1 : r.way = 1
            · rw [if_pos w1]
              simp [w1]
            · rw [if_neg w1]
              simp [w1]
        rw [hpv, tl_packed he hn]
        cases hp : plain rows es one 0 with
        | none => exact fin
        | some r =>
          dsimp only
          by_cases hc : r.way = 1 ∧ got r.codes n two = true
          · rw [if_pos hc, if_pos hc]
            simp [wT]
          · rw [if_neg hc, if_neg hc]
            exact fin
theorem obv_next (E : EsOk rows es) (n : Int) (h : plain rows es n (gT (tl rows es n) + 1) = none) : obv rows es n (gT (tl rows es n) + 1) = .none := by
  cases he : lk n es with
  | none => exact obv_n he
  | some e =>
    by_cases hw : e.way = .packed
    · obtain ⟨wy, one, two⟩ := e
      simp only at hw
      subst hw
      rw [gT_packed he]
      exact obv_p he rfl (by decide)
    · rw [obv_u he hw]; exact usedv_none h
end
end
section
theorem tl_ok {rows : List Rw} {es : Es} {D : List Nat} (R : RowsOk D rows) {n g : Int} {w : Nat} {cs : List Nat} (h : tl rows es n = some (g, w, cs)) : w ≤ 3 ∧ 1 ≤ cs.length ∧ cs.length ≤ 4 := by
  unfold tl at h
  split at h
  · cases h
  · split at h
    · cases h
    · split at h
      · cases h
      · cases hp : plain rows es n _ with
        | none => rw [hp] at h; cases h
        | some r =>
          rw [hp] at h
          have o := (R.at' r (plain_mem hp)).ok
          cases h
          exact ⟨o.way, o.len⟩
      · split at h
        · split at h
          · cases h; exact ⟨by decide, by simp, by simp⟩
          · cases h
        · cases h
section
variable {d : Nat} {h : Hp} {S' : List Nat} {a b ep ep2 S T TR F p N lim LA t0 Nw En ep3 SC TB SX SH RS : Nat} {k : KE} {v v2 v3 : V} {x n m g : Int} {h0 h' : Hp} {t : Nat} {rA : RA} {es : Es} {D : List Nat} {ct : Int} {x4 x8 x11 x14 x15 x16 : Option V}
theorem isv_two {m : Mv} {v : V} (i : IsV h m v) : v = .none ∨ m ≠ .none ∧ isNone v = false :=
  IsV.casesOn (motive := fun m v Z => v = .none ∨ m ≠ .none ∧ isNone v = false) i (.inl rfl) (fun Z => .inr ⟨fun e => (nomatch e), rfl⟩) (fun Z => .inr ⟨fun e => (nomatch e), rfl⟩) (fun Z => .inr ⟨fun e => (nomatch e), rfl⟩)
theorem lawEt {R' : Ls → Hp → Prop} {w14 w16 : V} (L : Laid h t0 LA rA) (R : RowsOk D (rA.map (·.1))) (hl : rA.length ≤ 1000) (E : EsOk (rA.map (·.1)) es) (hN : Lv h Nw (.dict ep (ed fT es))) (hE : Lv h En (.dict ep2 (ed fE es)))
    (hx : plain (rA.map (·.1)) es n (g + 1) = none → obv (rA.map (·.1)) es n (g + 1) = .none)
    (hend : ∀ x8 x14 x15 x16 h2, Ext [] h h2 → R' [some (.ref SC), some (.ref p), some (.bytes D), some (.ref LA), x4, some (.ref TB), some (.ref SX), some (.ref En), x8, some (.int ct), some (.ref Nw), x11, some (.ref SH), some (.ref RS), x14, x15, x16] h2) :
    Cl (d + 10) 864 [.bytes D, .ref En, .int n, .int (g + 1), .fn 881] h (kCmp (dAll P (Cl (d + 10)) 14) [(.isnt, .cst .none)] (setL (setL (setL (setL [some (.ref SC), some (.ref p), some (.bytes D), some (.ref LA), x4, some (.ref TB), some (.ref SX), some (.ref En), x8, some (.int ct), some (.ref Nw), x11, some (.ref SH), some (.ref RS), x14, x15, x16] 8 (.int n)) 14 w14) 15 (.int g)) 16 w16)
      (kTru (kGoA (dAll P (Cl (d + 10)) 16) [.cmp (.call (.cst (.fn 900)) [.loc 3, .loc 10, .loc 8, .bin .add (.loc 15) (.cst (.int 1))]) [(.is, .cst .none)]] (setL (setL (setL (setL [some (.ref SC), some (.ref p), some (.bytes D), some (.ref LA), x4, some (.ref TB), some (.ref SX), some (.ref En), x8, some (.int ct), some (.ref Nw), x11, some (.ref SH), some (.ref RS), x14, x15, x16] 8 (.int n)) 14 w14) 15 (.int g)) 16 w16)
        (kIf (denSs (denS P (Cl (d + 10)) 18) [.ret (.cst (.bool false))]) (denSs (denS P (Cl (d + 10)) 18) []) (setL (setL (setL (setL [some (.ref SC), some (.ref p), some (.bytes D), some (.ref LA), x4, some (.ref TB), some (.ref SX), some (.ref En), x8, some (.int ct), some (.ref Nw), x11, some (.ref SH), some (.ref RS), x14, x15, x16] 8 (.int n)) 14 w14) 15 (.int g)) 16 w16)
          (fk R' (nxt (denSs (denS P (Cl (d + 10)) 20) [.ret (.cst (.bool true))]) (fin k))))))) := by
  refine w864 R E hE fun h8 u e8 iu => ?_
  replace hend := fun x8 x14 x15 x16 => hend x8 x14 x15 x16 _ e8
  have hN8 := hN.ext0 e8
  have L8 := L.ext e8 (by simp)
  refine Or.elim (isv_two iu) (fun hu => ?_) fun hu => ?_
  · rw [hu]
    walk_at "g"
    exact hend _ _ _ _
  · have hu2 := hu.2
    have hu3 : (!isNone u) = true := by rw [hu2]; rfl
    walk_at "g"
    refine w900 L8 hN8 hl (fun hp => absurd (hx hp) hu.1) fun y hy hp => ?_
    have hfR : fRw y = .tup [.int y.1.num, .int y.1.gen, .int y.1.at', .int y.1.way, .ref y.2] := rfl
    walk_at "g"
    exact hend _ _ _ _
theorem lawE (L : Laid h t0 LA rA) (R : RowsOk D (rA.map (·.1))) (hl : rA.length ≤ 1000) (E : EsOk (rA.map (·.1)) es) (hN : Lv h Nw (.dict ep (ed fT es))) (hE : Lv h En (.dict ep2 (ed fE es)))
    (q : ∀ h', k (.bool true) h') :
    denSs (denS P (Cl (d + 10)) 20) (b912.drop 14) [some (.ref SC), some (.ref p), some (.bytes D), some (.ref LA), x4, some (.ref TB), some (.ref SX), some (.ref En), x8, some (.int ct), some (.ref Nw), x11, some (.ref SH), some (.ref RS), x14, x15, x16] h (fin k) := by
  walk_at "g"
  refine for_ (fun i ls h' => ∃ x8 x14 x15 x16, ls = [some (.ref SC), some (.ref p), some (.bytes D), some (.ref LA), x4, some (.ref TB), some (.ref SX), some (.ref En), x8, some (.int ct), some (.ref Nw), x11, some (.ref SH), some (.ref RS), x14, x15, x16] ∧ Ext [] h h') ⟨x8, x14, x15, x16, rfl, .refl⟩ ?_ ?_
  · intro R' i v ls h' hv hI hR
    refine e42 hI fun x8 x14 x15 x16 eq1 => ?_
    clear hI
    subst eq1
    intro e1
    obtain ⟨hi, rfl⟩ := rngL_getQ _ _ _ _ _ hv
    have hin : (0 + 1 * (i : Int)) = (i : Int) := by lia
    rw [hin]
    generalize hn : (i : Int) = n
    have hn0 : 0 ≤ n := by lia
    clear hv hin
    have hend : ∀ x8 x14 x15 x16 h2, Ext [] h' h2 → R' [some (.ref SC), some (.ref p), some (.bytes D), some (.ref LA), x4, some (.ref TB), some (.ref SX), some (.ref En), x8, some (.int ct), some (.ref Nw), x11, some (.ref SH), some (.ref RS), x14, x15, x16] h2 := fun x8 x14 x15 x16 h2 e2 => hR _ _ (i42 rfl (e1.trans e2))
    clear hR hn
    replace L := L.ext e1 (by simp)
    replace hN := hN.ext0 e1
    replace hE := hE.ext0 e1
    clear e1 q
    refine ⟨trivial, ?_⟩
    walk_at "g"
    have hw := obv_want R E n hn0
    have hx := obv_next E n
    refine w907 L R E hN hl (fun ht => ?_) fun h1 c g w cs ht e1 lc => ?_
    · rw [ht] at hw hx
      dsimp only [gT, wT] at hw hx
      walk_at "g"
      refine w864 R E hE fun h2 v e2 iv => ?_
      rw [hw] at iv
      cases iv
      walk_at "g"
      refine w414none ?_
      walk_at "g"
      refine meqT rfl ?_
      walk_at "g"
      exact lawEt (L.ext e2 (by simp)) R hl E (hN.ext0 e2) (hE.ext0 e2) hx fun a b c d h e => hend a b c d h ((e2).trans e)
    · obtain ⟨hw3, hc1, hc4⟩ := tl_ok R ht
      rw [ht] at hw hx
      dsimp only [gT, wT] at hw hx
      replace L := L.ext e1 (by simp)
      replace hN := hN.ext0 e1
      replace hE := hE.ext0 e1
      walk_at "g"
      refine w864 R E hE fun h2 v e2 iv => ?_
      rw [hw] at iv
      replace lc := lc.ext0 e2
      have x2 := e1.trans e2
      have hcl : (cs.map fun (c : Nat) => V.int c).length = cs.length := List.length_map _
      by_cases w1 : w = 1
      · rw [if_pos w1] at iv
        subst w1
        cases iv with
        | ost lb =>
        walk_at "g"
        refine w414st lb (by lia) fun y h4 e4 => ?_
        walk_at "g"
        exact lawEt ((L.ext e2 (by simp)).ext e4 (by simp)) R hl E ((hN.ext0 e2).ext0 e4) ((hE.ext0 e2).ext0 e4) hx fun a b c d h e => hend a b c d h ((x2.trans e4).trans e)
      · rw [if_neg w1] at iv
        by_cases w2 : w = 2
        · rw [if_pos w2] at iv
          subst w2
          cases iv with
          | xrf lb =>
          walk_at "g"
          refine w414st lb (by simp) fun y h4 e4 => ?_
          walk_at "g"
          exact lawEt ((L.ext e2 (by simp)).ext e4 (by simp)) R hl E ((hN.ext0 e2).ext0 e4) ((hE.ext0 e2).ext0 e4) hx fun a b c d h e => hend a b c d h ((x2.trans e4).trans e)
        · rw [if_neg w2] at iv
          cases iv with
          | int cc =>
          obtain ⟨c0, cs', rfl⟩ : ∃ c0 cs', cs = c0 :: cs' := by
            induction cs using List.casesOn with
            | nil => simp at hc1
            | cons c l => exact ⟨c, l, rfl⟩
          rw [List.map_cons] at lc
          have hhd : (c0 :: cs').headD 0 = c0 := rfl
          have hcl5 : (cs'.map fun (c : Nat) => V.int c).length = cs'.length := List.length_map _
          simp only [List.length_cons] at hc1 hc4
          clear hcl
          walk_at "g"
          refine w414int ?_
          walk_at "g"
          refine ⟨⟨rfl, rfl⟩, meqT rfl ?_⟩
          walk_at "g"
          exact lawEt (L.ext e2 (by simp)) R hl E (hN.ext0 e2) (hE.ext0 e2) hx fun a b c d h e => hend a b c d h ((x2).trans e)
  · intro ls h' hI
    refine e42 hI fun x8 x14 x15 x16 eq1 => ?_
    clear hI
    subst eq1
    intro e1
    refine ⟨trivial, ?_⟩
    have q := q h'
    walk_at "g"
end
end
section
theorem pk_new {α : Type} {n : Int} {x : α} {l : List (Int × α)} (h : n ∉ keys l) : pk n x l = l ++ [(n, x)] := by
  induction l with
  | nil => rfl
  | cons p r ih =>
    rw [pk_cons]
    have h1 : n ≠ p.1 := fun e => h (by simp [keys, e])
    have h2 : n ∉ keys r := fun q => h (by simp only [keys, List.map_cons, List.mem_cons]; exact .inr q)
    rw [if_neg h1, ih h2]; rfl
theorem es_at {es : Es} (nd : (keys es).Nodup) {j : Nat} {n : Int} (h : (keys es)[j]? = some n) : ∃ e, es[j]? = some (n, e) ∧ lk n es = some e := by
  unfold keys at h
  rw [List.getElem?_map] at h
  cases q : es[j]? with
  | none => rw [q] at h; cases h
  | some p =>
    rw [q] at h
    obtain ⟨m, e⟩ := p
    cases h
    exact ⟨e, rfl, lk_some nd (List.mem_of_getElem? q)⟩
section
variable {d : Nat} {h : Hp} {S' : List Nat} {a b ep ep2 S T TR F p N lim LA t0 Nw En ep3 SC TB SX SH RS : Nat} {k : KE} {v v2 v3 : V} {x n m g : Int} {h0 h' : Hp} {t : Nat} {rA : RA} {es : Es} {D : List Nat} {ct : Int} {x4 x7 x8 x11 x12 x13 x14 x15 x16 : Option V}
theorem Laid.ext3 (L : Laid h t0 LA rA) (e : Ext S' h h') (hS : ∀ b ∈ S', b ≠ LA ∧ ∀ x ∈ rA, b ≠ x.2) : Laid h' t0 LA rA :=
  ⟨L.list.ext e (fun q => (hS _ q).1 rfl), L.la, fun x hx => ⟨(L.codes x hx).1.ext e (fun q => (hS _ q).2 x hx rfl), (L.codes x hx).2⟩⟩
theorem Laid.ne (L : Laid h t0 LA rA) (g : h.top ≤ b) : b ≠ LA ∧ ∀ x ∈ rA, b ≠ x.2 := ⟨(L.list.ne g).symm, fun x hx => ((L.codes x hx).1.ne g).symm⟩
theorem lawD2 (L : Laid h t0 LA rA) (R : RowsOk D (rA.map (·.1))) (hl : rA.length ≤ 1000) (E : EsOk (rA.map (·.1)) es) (hN : Lv h Nw (.dict ep (ed fT es)))
    (q : ∀ h', k (.bool true) h') :
    denSs (denS P (Cl (d + 10)) 20) (b912.drop 12) [some (.ref SC), some (.ref p), some (.bytes D), some (.ref LA), x4, some (.ref TB), some (.ref SX), x7, x8, some (.int ct), some (.ref Nw), x11, some (.ref SH), some (.ref RS), x14, x15, x16] h (fin k) := by
  have he := fun (h : Hp) L hN ep2 En x8 hE => @lawE d h ep ep2 p LA t0 Nw En SC TB SX SH RS k rA es D ct x4 x8 x11 x14 x15 x16 L R hl E hN hE q
  walk_at "g"
  refine frD fun En ep2 h1 e1 g1 lE => ?_
  have nNE := hN.ne g1
  have nLE := L.ne g1
  replace L := L.ext e1 (by simp)
  replace hN := hN.ext0 e1
  have hel := E.len
  walk_at "g"
  refine for_ (fun j ls h' => ∃ x8 ep2, ls = [some (.ref SC), some (.ref p), some (.bytes D), some (.ref LA), x4, some (.ref TB), some (.ref SX), some (.ref En), x8, some (.int ct), some (.ref Nw), x11, some (.ref SH), some (.ref RS), x14, x15, x16] ∧ Ext [En] h1 h' ∧ Lv h' En (.dict ep2 (ed fE (es.take j)))) ⟨x8, ep2, rfl, .refl, by simpa [ed] using lE⟩ ?_ ?_
  · intro R' j v ls h' hv hI hR
    refine e23 hI fun x8 ep2 eq1 => ?_
    clear hI
    subst eq1
    intro x1 lE
    rw [ed_fst] at hv
    refine e12 (map_int hv) fun n hn eq1 => ?_
    subst eq1
    refine e12 (es_at E.nd hn) fun e hej he2 => ?_
    have hnt : n ∉ keys (es.take j) := by
      have := take_not E.nd hn
      unfold keys at this ⊢
      rw [List.map_take]; exact this
    have hpk := pk_new (x := e) hnt
    have htk : es.take (j + 1) = es.take j ++ [(n, e)] := by rw [List.take_add_one, hej]; rfl
    have hN2 := hN.ext x1 (ne1 nNE)
    have hle : (es.take j).length ≤ 10 := by simp; omega
    obtain ⟨wy, one, two⟩ := e
    have hfT : fT ⟨wy, one, two⟩ = .tup [.str wy.s, .int one, .int two] := rfl
    have hR2 : ∀ h2 ep2 x8, Ext [En] h1 h2 → Lv h2 En (.dict ep2 (ed fE (es.take (j + 1)))) → R' [some (.ref SC), some (.ref p), some (.bytes D), some (.ref LA), x4, some (.ref TB), some (.ref SX), some (.ref En), x8, some (.int ct), some (.ref Nw), x11, some (.ref SH), some (.ref RS), x14, x15, x16] h2 := fun h2 ep2 x8 a b => hR _ _ (i23 rfl a b)
    rw [htk] at hR2
    clear hv hR he q hn hej hnt htk L
    refine ⟨(i12 hN2.get rfl), ?_⟩
    walk_at "g"
    refine mk730 fun h3 e3 => ?_
    have lE3 := lE.ext0 e3
    walk_at "g"
    intro ep5
    rw [show putI n (V.obj 730 [.str wy.s, .int one, .int two]) (ed fE (es.take j)) = ed fE (pk n ⟨wy, one, two⟩ (es.take j)) from ed_put (f := fE) (x := ⟨wy, one, two⟩), hpk]
    exact hR2 _ _ _ ((x1.tr0 e3).trans (Ext.set (by simp))) lE3.set
  · intro ls h' hI
    refine e23 hI fun x8 ep2 eq1 => ?_
    clear hI
    subst eq1
    intro x1 lE
    rw [List.length_map, ed_len, List.take_length] at lE
    have hN2 := hN.ext x1 (ne1 nNE)
    have L2 : Laid h' t0 LA rA := L.ext3 x1 (fun b hb => by rw [List.mem_singleton] at hb; subst hb; exact nLE)
    refine ⟨(i12 hN2.get rfl), ?_⟩
    exact he _ L2 hN2 _ _ _ lE
theorem plain_cg {rows : List Rw} {es es' : Es} (h : ∀ n, lk n es = lk n es') (n g : Int) : plain rows es n g = plain rows es' n g := by
  unfold plain; rw [h n]
theorem tl_cg {rows : List Rw} {es es' : Es} (h : ∀ n, lk n es = lk n es') (n : Int) : tl rows es n = tl rows es' n := by
  unfold tl
  rw [h n]
  cases lk n es' with
  | none => rfl
  | some e =>
    dsimp only
    rw [plain_cg h, plain_cg h]
theorem rowV_cg {rows : List Rw} {es es' : Es} (h : ∀ n, lk n es = lk n es') (n : Int) : rowV rows es n = rowV rows es' n := by
  unfold rowV; rw [tl_cg h]
noncomputable def rv (M : Int → Option (Int × Mv)) (n : Int) : Option V := match M n with
  | some (g, .int c) => some (.tup [.int n, .int g, .tup [.str [105, 110, 116], .int c]])
  | _ => none
theorem rows_eq {tb : Tb} {M : Int → Option (Int × Mv)} {ks : List Int} (tR : TbR h tb M) (hI : ∀ n g mv, M n = some (g, mv) → ∃ c, mv = .int c) (hs : ks.Pairwise (· ≤ ·)) (hnd : ks.Nodup) (hk : ∀ n, M n ≠ none → n ∈ ks) :
    (sortI (keys tb)).map (rowOf M) = ks.filterMap (rv M) := by
  have e : sortI (keys tb) = ks.filter (fun n => (M n).isSome) := by
    refine sort_unique ?_ (sortI_sorted _) (hs.sublist List.filter_sublist)
    refine (List.perm_ext_iff_of_nodup ((sortI_perm _).nodup_iff.mpr tR.1) (hnd.sublist List.filter_sublist)).mpr fun n => ?_
    rw [(sortI_perm _).mem_iff, tR.keys n, List.mem_filter]
    constructor
    · intro h; exact ⟨hk n h, by cases q : M n with | none => exact absurd q h | some p => rfl⟩
    · rintro ⟨_, h⟩ q; rw [q] at h; cases h
  rw [e]
  clear e hs hnd hk
  induction ks with
  | nil => rfl
  | cons n ks ih =>
    rw [List.filter_cons, List.filterMap_cons]
    cases q : M n with
    | none =>
      have : rv M n = none := by unfold rv; rw [q]
      rw [this]
      exact ih
    | some p =>
      obtain ⟨g, mv⟩ := p
      obtain ⟨c, rfl⟩ := hI n g mv q
      have h1 : rv M n = some (.tup [.int n, .int g, .tup [.str [105, 110, 116], .int c]]) := by unfold rv; rw [q]
      have h2 : rowOf M n = .tup [.int n, .int g, .tup [.str [105, 110, 116], .int c]] := by unfold rowOf; rw [q]
      rw [h1]
      show rowOf M n :: (ks.filter _).map (rowOf M) = _
      rw [h2, ih]
theorem rowV_int {rows : List Rw} {es : Es} : ∀ n g mv, rowV rows es n = some (g, mv) → ∃ c, mv = .int c := by
  intro n g mv h
  unfold rowV at h
  split at h
  · split at h
    · cases h
      exact ⟨_, rfl⟩
    · cases h
  · cases h
theorem rv_ok {M : Int → Option (Int × Mv)} {n : Int} {v : V} (h : rv M n = some v) : pyOk 6 v = true := by
  unfold rv at h
  cases q : M n with
  | none => rw [q] at h; exact none_ne h
  | some p =>
    obtain ⟨g, mv⟩ := p
    rw [q] at h
    induction mv using Mv.casesOn <;> first | exact none_ne h | (rw [← Option.some.inj h]; rfl)
theorem lawD1 {ep7 ep8 : Nat} {tb : Tb} (L : Laid h t0 LA rA) (R : RowsOk D (rA.map (·.1))) (hl : rA.length ≤ 1000) (E : EsOk (rA.map (·.1)) es) (hN : Lv h Nw (.dict ep (ed fT es)))
    (hS : Lv h SH (.inst 500 [.ref T, .ref TR])) (hT : Lv h T (.dict ep7 (ed fS tb))) (tR : TbR h tb (rowV (rA.map (·.1)) es)) (hTR : Lv h TR (.dict ep8 [(.str kInfo, .int ct)]))
    (q : ∀ h', k (.bool true) h') :
    denSs (denS P (Cl (d + 10)) 20) (b912.drop 9) [some (.ref SC), some (.ref p), some (.bytes D), some (.ref LA), x4, some (.ref TB), some (.ref SX), x7, x8, some (.int ct), some (.ref Nw), x11, some (.ref SH), x13, x14, x15, x16] h (fin k) := by
  have he := fun (h : Hp) L hN RS x8 x14 => @lawD2 d h ep p LA t0 Nw SC TB SX SH RS k rA es D ct x4 x7 x8 x11 x14 x15 x16 L R hl E hN q
  walk_at "g"
  refine fr1 fun RS h1 e1 g1 lR => ?_
  have nNR := hN.ne g1
  have nLR := L.ne g1
  have nSR := hS.ne g1
  have nTR := hT.ne g1
  have nTRR := hTR.ne g1
  have tR1 := tR.ext0 e1
  replace L := L.ext e1 (by simp)
  replace hN := hN.ext0 e1
  replace hS := hS.ext0 e1
  replace hT := hT.ext0 e1
  replace hTR := hTR.ext0 e1
  have hel := E.len
  walk_at "g"
  refine sorted_ed (by omega) fun sl h2 e2 g2 l2 => ?_
  have nsR := lR.ne g2
  replace lR := lR.ext0 e2
  replace L := L.ext e2 (by simp)
  replace hN := hN.ext0 e2
  replace hS := hS.ext0 e2
  replace hT := hT.ext0 e2
  replace hTR := hTR.ext0 e2
  have tR2 := tR1.ext0 e2
  have lR0 := lR
  walk_at "g"
  refine for_ (fun j ls h' => ∃ x8 x14, ls = [some (.ref SC), some (.ref p), some (.bytes D), some (.ref LA), x4, some (.ref TB), some (.ref SX), x7, x8, some (.int ct), some (.ref Nw), x11, some (.ref SH), some (.ref RS), x14, x15, x16] ∧ Ext [RS] h2 h' ∧ Lv h' RS (.list (((sortI (keys es)).take j).filterMap (rv (rowV (rA.map (·.1)) es))))) ⟨x8, x14, rfl, .refl, by simpa using lR⟩ ?_ ?_
  · intro R' j v ls h' hv hI hR
    refine e23 hI fun x8 x14 eq1 => ?_
    clear hI
    subst eq1
    intro x1 lR
    refine e12 (map_int hv) fun n hn eq1 => ?_
    subst eq1
    have hsnoc : ((sortI (keys es)).take (j + 1)).filterMap (rv (rowV (rA.map (·.1)) es)) = ((sortI (keys es)).take j).filterMap (rv (rowV (rA.map (·.1)) es)) ++ (rv (rowV (rA.map (·.1)) es) n).toList := by
      rw [List.take_add_one, hn, List.filterMap_append]
      show _ ++ List.filterMap _ [n] = _
      rw [List.filterMap_cons]
      cases rv (rowV (rA.map (·.1)) es) n <;> simp
    have hR2 : ∀ h3 x14, Ext [RS] h2 h3 → Lv h3 RS (.list (((sortI (keys es)).take j).filterMap (rv (rowV (rA.map (·.1)) es)) ++ (rv (rowV (rA.map (·.1)) es) n).toList)) → R' [some (.ref SC), some (.ref p), some (.bytes D), some (.ref LA), x4, some (.ref TB), some (.ref SX), x7, some (.int n), some (.int ct), some (.ref Nw), x11, some (.ref SH), some (.ref RS), x14, x15, x16] h3 := fun h3 x14 a b => hR _ _ (i23 rfl a (by rw [hsnoc]; exact b))
    have hrow : rv (rowV (rA.map (·.1)) es) n = match tl (rA.map (·.1)) es n with
        | some (g, w, cs) => if w = 0 ∨ w = 3 then some (.tup [.int n, .int g, .tup [.str [105, 110, 116], .int (cs.headD 0 : Nat)]]) else none
        | none => none := by
      unfold rv rowV
      cases tl (rA.map (·.1)) es n with
      | none => rfl
      | some t =>
        obtain ⟨g, w, cs⟩ := t
        dsimp only
        by_cases hw : w = 0 ∨ w = 3
        · rw [if_pos hw, if_pos hw]
        · rw [if_neg hw, if_neg hw]
    have hlen : (((sortI (keys es)).take j).filterMap (rv (rowV (rA.map (·.1)) es))).length ≤ 1000 := by
      refine Nat.le_trans (List.length_filterMap_le _ _) ?_
      have := (sortI_perm (keys es)).length_eq
      simp [keys] at this ⊢; omega
    generalize ((sortI (keys es)).take j).filterMap (rv (rowV (rA.map (·.1)) es)) = acc at lR hR2 hlen
    have lsl := l2.ext x1 (by simpa using Ne.symm nsR)
    have L' := L.ext3 x1 (fun b hb => by rw [List.mem_singleton] at hb; subst hb; exact nLR)
    have hN' := hN.ext x1 (ne1 nNR)
    clear hv hR hsnoc he q hn tR tR1 tR2 hS hT hTR
    refine ⟨lsl.get, ?_⟩
    walk_at "g"
    refine w907 L' R E hN' hl (fun ht => ?_) fun h4 c g w cs ht e4 lc => ?_
    · rw [ht] at hrow
      simp only at hrow
      rw [hrow] at hR2
      have hR3 := hR2 h' (some .none) x1 (by simpa using lR)
      clear hR2 hrow
      walk_at "g"
      exact hR3
    · refine e03 (tl_ok R ht) fun hw3 hc1 hc4 => ?_
      rw [ht] at hrow
      simp only at hrow
      obtain ⟨c0, cs', rfl⟩ : ∃ c0 cs', cs = c0 :: cs' := by
        induction cs using List.casesOn with
        | nil => simp at hc1
        | cons c l => exact ⟨c, l, rfl⟩
      rw [List.map_cons] at lc
      have hcl5 : (cs'.map fun (c : Nat) => V.int c).length = cs'.length := List.length_map _
      simp only [List.length_cons] at hc1 hc4
      have lR4 := lR.ext0 e4
      by_cases hw : w = 0 ∨ w = 3
      · rw [if_pos hw] at hrow
        rw [hrow] at hR2
        have hR3 := hR2 (h4.set RS (.list (acc ++ [.tup [.int n, .int g, .tup [.str [105, 110, 116], .int c0]]]))) (some (.tup [.int g, .int w, .ref c])) ((x1.tr0 e4).trans (Ext.set (by simp))) lR4.set
        clear hR2 hrow ht
        walk_at "g"
        exact hR3
      · rw [if_neg hw] at hrow
        rw [hrow] at hR2
        have hR3 := hR2 h4 (some (.tup [.int g, .int w, .ref c])) (x1.tr0 e4) (by simpa using lR4)
        clear hR2 hrow ht
        walk_at "g"
        exact hR3
  · intro ls h' hI
    refine e23 hI fun x8 x14 eq1 => ?_
    clear hI
    subst eq1
    intro x1 lR
    rw [List.length_map, List.take_length] at lR
    have lsl := l2.ext x1 (by simpa using Ne.symm nsR)
    have L' := L.ext3 x1 (fun b hb => by rw [List.mem_singleton] at hb; subst hb; exact nLR)
    have hN' := hN.ext x1 (ne1 nNR)
    have hS' := hS.ext x1 (ne1 nSR)
    have hT' := hT.ext x1 (ne1 nTR)
    have hTR' := hTR.ext x1 (ne1 nTRR)
    have tR' := tR2.ext1 lR0 noHd_list x1
    have hM : ∀ n, rowV (rA.map (·.1)) es n ≠ none → lk n es ≠ none := fun n hn hk => hn (by unfold rowV; rw [tl_none hk])
    have hM2 : ∀ n, rowV (rA.map (·.1)) es n ≠ none → 0 ≤ n ∧ n < 10 := fun n hn => by
      cases q : lk n es with
      | none => exact absurd q (hM n hn)
      | some e => exact (E.ok n e q).key
    have hrows := rows_eq (ks := sortI (keys es)) tR' rowV_int (sortI_sorted _) ((sortI_perm _).nodup_iff.mpr E.nd) fun n hn => (sortI_perm _).mem_iff.mpr (lk_mem.mp (hM n hn))
    have hln : ((sortI (keys es)).filterMap (rv (rowV (rA.map (·.1)) es))).length ≤ 1000 := by
      refine Nat.le_trans (List.length_filterMap_le _ _) ?_
      have := (sortI_perm (keys es)).length_eq
      simp [keys] at this ⊢; omega
    have hpy : pyOk 7 (.tup ((sortI (keys es)).filterMap (rv (rowV (rA.map (·.1)) es)))) = true := by
      show ((sortI (keys es)).filterMap (rv (rowV (rA.map (·.1)) es))).all (pyOk 6) = true
      rw [List.all_eq_true]
      intro v hv
      refine e12 (List.mem_filterMap.mp hv) fun n Z hn => ?_
      exact rv_ok hn
    refine ⟨lsl.get, ?_⟩
    clear hM x1 tR tR1 tR2 q
    walk_at "g"
    refine w497 hM2 rowV_int hS' hT' tR' hTR' fun h5 e5 => ?_
    rw [hrows]
    replace lR := lR.ext0 e5
    generalize (sortI (keys es)).filterMap (rv (rowV (rA.map (·.1)) es)) = acc at *
    walk_at "g"
    have hpk : pyOk 8 (.tup [.tup acc, .tup [.str [100, 105, 99, 116], .tup [.str kInfo, .tup [.str [105, 110, 116], .int ct]]]]) = true := by
      show (pyOk 7 (.tup acc) && (pyOk 7 (.tup [.str [100, 105, 99, 116], .tup [.str kInfo, .tup [.str [105, 110, 116], .int ct]]]) && true)) = true
      rw [hpy]; rfl
    refine ⟨⟨hpk, hpk⟩, meqT rfl ?_⟩
    walk_at "g"
    exact he _ (L'.ext e5 (by simp)) (hN'.ext0 e5) _ _ _
end
end
section
section
variable {d : Nat} {h : Hp} {S' : List Nat} {a b ep ep2 S T TR F p N lim LA t0 Nw En ep3 SC TB SX SH RS : Nat} {k : KE} {v v2 v3 : V} {x n m g : Int} {h0 h' : Hp} {t : Nat} {rA : RA} {es : Es} {D : List Nat} {ct : Int} {x4 x7 x8 x9 x10 x11 x12 x13 x14 x15 x16 : Option V} {ess : List Es} {secs : List Sec} {c : Nat}
theorem TabL.drop {refs : List Nat} (tL : TabL h refs ess) (c : Nat) : TabL h (refs.drop c) (ess.drop c) := by
  refine ⟨by simp [tL.len], fun i r es h1 h2 => ?_, fun es h => tL.nd es (List.mem_of_mem_drop h), fun es h => tL.key es (List.mem_of_mem_drop h)⟩
  rw [List.getElem?_drop] at h1 h2
  exact tL.at' _ r es h1 h2
theorem lawD0 (L : Laid h t0 LA rA) (R : RowsOk D (rA.map (·.1))) (hl : rA.length ≤ 1000) (E : EsOk (rA.map (·.1)) es) (hN : Lv h Nw (.dict ep (ed fT es)))
    (hX : Lv h SX (.list (secs.map fX))) (hsl : secs.length ≤ 100) (tL : TabL h (secs.map (·.e)) ess) (hE : ∀ es ∈ ess, EsOk (rA.map (·.1)) es) (hT : ∀ s ∈ secs, ∃ ep, Lv h s.tr (.dict ep (trl s.t)))
    (ht : ∀ (i : Nat) (s : Sec), secs[i]? = some s → s.t = i) (hc : c < secs.length) (hlk : ∀ n, lk n es = ov (ess.drop c) n)
    (q : ∀ h', k (.bool true) h') :
    denSs (denS P (Cl (d + 10)) 20) (b912.drop 8) [some (.ref SC), some (.ref p), some (.bytes D), some (.ref LA), x4, some (.ref TB), some (.ref SX), x7, x8, some (.int c), some (.ref Nw), x11, x12, x13, x14, x15, x16] h (fin k) := by
  have he := fun (h : Hp) SH T TR ep7 ep8 tb L hN hS hT tR hTR => @lawD1 d h ep T TR p LA t0 Nw SC TB SX SH k rA es D c x4 x7 x8 x11 x13 x14 x15 x16 ep7 ep8 tb L R hl E hN hS hT tR hTR q
  have hsl2 : (secs.map fX).length = secs.length := List.length_map _
  walk_at "g"
  refine fr1 fun SL h1 e1 g1 lS => ?_
  rw [Int.toNat_natCast, ← List.map_drop] at lS
  have tL2 := (tL.ext e1 (by simp)).drop c
  rw [← List.map_drop] at tL2
  obtain ⟨s, rest, hs⟩ : ∃ s rest, secs.drop c = s :: rest := (i21 (List.drop_eq_getElem_cons hc))
  have hsc : secs[c]? = some s := (drop_get hs).1
  have hrl : rest.length ≤ 100 := by
    have := congrArg List.length hs
    simp at this; lia
  have hst := ht c s hsc
  obtain ⟨eps, lsT⟩ := hT s (List.mem_of_getElem? hsc)
  rw [hs] at lS tL2
  have L1 := L.ext e1 (by simp)
  have hN1 := hN.ext0 e1
  refine w843 R (fun es hes => hE es (List.mem_of_mem_drop hes)) lS (by lia) tL2 (lsT.ext0 e1) fun h2 SH T TR es2 ep7 ep8 tb e2 lSH lT tR lTR E2 hlk2 => ?_
  rw [hst] at lTR
  refine he _ SH T TR ep7 ep8 tb (L1.ext e2 (by simp)) (hN1.ext0 e2) lSH lT (tR.congr fun n => ?_) lTR
  rw [shelf_eq R E2]
  exact rowV_cg (fun n => by rw [hlk n, hlk2 n]) n
noncomputable def pkAll {α : Type} : List (Int × α) → List (Int × α) → List (Int × α)
  | [], l => l
  | p :: r, l => pkAll r (pk p.1 p.2 l)
theorem putAll_ed {α : Type} {f : α → V} : ∀ (r l : List (Int × α)), putAll (ed f r) (ed f l) = some (ed f (pkAll r l))
  | [], l => rfl
  | p :: r, l => by
    show (match putV (.int p.1, f p.2) (ed f l) with | some es => putAll (ed f r) es | none => none) = _
    show putAll (ed f r) (putI p.1 (f p.2) (ed f l)) = _
    rw [ed_put, putAll_ed r]; rfl
theorem lk_pkAll {α : Type} : ∀ {r : List (Int × α)} (l : List (Int × α)) (n : Int), (keys r).Nodup → lk n (pkAll r l) = (lk n r).or (lk n l) := by
  intro L0
  induction L0 with
  | nil => exact fun l n Z => rfl
  | cons p r ih =>
    intro l n nd
    have nd' := List.nodup_cons.mp nd
    show lk n (pkAll r (pk p.1 p.2 l)) = _
    rw [ih _ n nd'.2, lk_pk, lk_cons]
    by_cases h : n = p.1
    · have : lk n r = none := by
        cases q : lk n r with
        | none => rfl
        | some x => exact absurd (lk_mem.mp (by rw [q]; simp)) (by rw [h]; exact nd'.1)
      rw [if_pos h, if_pos h, this]; rfl
    · rw [if_neg h, if_neg h]
theorem pkAll_nd {α : Type} : ∀ {r l : List (Int × α)}, (keys l).Nodup → (keys (pkAll r l)).Nodup
  | [], l, h => h
  | p :: r, l, h => pkAll_nd (r := r) (pk_nodup h)
structure TabT (h : Hp) (rows : List Rw) (refs : List Nat) (ess : List Es) : Prop where
  len : refs.length = ess.length
  at' : ∀ (i : Nat) (r : Nat) (es : Es), refs[i]? = some r → ess[i]? = some es → ∃ ep, Lv h r (.dict ep (ed fT es))
  ok : ∀ es ∈ ess, EsOk rows es
theorem TabT.ext {refs : List Nat} {rows : List Rw} (t : TabT h rows refs ess) (e : Ext S' h h') (hn : ∀ r ∈ refs, r ∉ S') : TabT h' rows refs ess := ⟨t.len, fun i r es h1 h2 => by
  refine e11 (t.at' i r es h1 h2) fun ep l => ?_
  exact ⟨ep, l.ext e (hn r (List.mem_of_getElem? h1))⟩, t.ok⟩
theorem TabT.lt {refs : List Nat} {rows : List Rw} (t : TabT h rows refs ess) : ∀ r ∈ refs, r < h.top := fun r hr => by
  refine e11 (List.mem_iff_getElem?.mp hr) fun i hi => ?_
  have hlt := (List.getElem?_eq_some_iff.mp hi).1
  refine e11 (t.at' i r _ hi (List.getElem?_eq_getElem (by rw [← t.len]; exact hlt))) fun ep l => ?_
  exact l.lt
theorem lawC {refs : List Nat} (L : Laid h t0 LA rA) (R : RowsOk D (rA.map (·.1))) (hl : rA.length ≤ 1000) (hTB : Lv h TB (.list (refs.map .ref))) (tT : TabT h (rA.map (·.1)) refs ess) (Pn : Pen t h p N) (hN : N ≤ 900000) (hpt0 : p < t0)
    (hX : Lv h SX (.list (secs.map fX))) (hr1 : 1 ≤ refs.length) (hr3 : refs.length ≤ 3) (hsr : secs.length = refs.length) (tL : TabL h (secs.map (·.e)) ess) (hT : ∀ s ∈ secs, ∃ ep, Lv h s.tr (.dict ep (trl s.t)))
    (ht : ∀ (i : Nat) (s : Sec), secs[i]? = some s → s.t = i) (hpe : ∀ s ∈ secs, s.e ≠ p ∧ s.tr ≠ p) (hpr : ∀ r ∈ refs, r ≠ p) (hpx : p ≠ SX ∧ p ≠ TB)
    (q : ∀ h', k (.bool true) h') :
    denSs (denS P (Cl (d + 10)) 20) (b912.drop 5) [some (.ref SC), some (.ref p), some (.bytes D), some (.ref LA), x4, some (.ref TB), some (.ref SX), x7, x8, x9, x10, x11, x12, x13, x14, x15, x16] h (fin k) := by
  have he := fun (h : Hp) Nw ep es c x11 L E hN hX tL hT hc hlk => @lawD0 d h ep p LA t0 Nw SC TB SX k rA es D x4 x7 x8 x11 x12 x13 x14 x15 x16 ess secs c L R hl E hN hX (by lia) tL tT.ok hT ht hc hlk q
  have hrl : (refs.map V.ref).length = refs.length := List.length_map _
  walk_at "g"
  rw [hrl]
  refine w876 (lim := refs.length) Pn (by lia) (by lia) (by lia) fun h1 c hc e1 P1 => ?_
  replace L := L.ext e1 (by simpa using hpt0)
  replace hTB := hTB.ext e1 (by simpa using Ne.symm hpx.2)
  replace hX := hX.ext e1 (by simpa using Ne.symm hpx.1)
  replace tT := tT.ext e1 (by simpa using hpr)
  replace tL := tL.ext e1 (by simp; exact fun s hs => (hpe s hs).1)
  replace hT : ∀ s ∈ secs, ∃ ep, Lv h1 s.tr (.dict ep (trl s.t)) := fun s hs => by
    refine e11 (hT s hs) fun ep l => ?_
    exact ⟨ep, l.ext e1 (by simpa using (hpe s hs).2)⟩
  have hclen : c < refs.length := hc
  clear e1 Pn
  walk_at "g"
  refine frD fun Nw ep1 h2 e2 g2 lN => ?_
  have nLN := L.ne g2
  have nXN := hX.ne g2
  have nBN := hTB.ne g2
  have ntN := fun r hr => Nat.ne_of_lt (Nat.lt_of_lt_of_le (tT.lt r hr) g2)
  have neN := fun r hr => Nat.ne_of_lt (Nat.lt_of_lt_of_le (tL.lt r hr) g2)
  have nsN : ∀ s ∈ secs, s.tr ≠ Nw := fun s hs => by obtain ⟨ep, l⟩ := hT s hs; exact l.ne g2
  replace L := L.ext e2 (by simp)
  replace hTB := hTB.ext0 e2
  replace hX := hX.ext0 e2
  replace tT := tT.ext e2 (by simp)
  replace tL := tL.ext e2 (by simp)
  replace hT : ∀ s ∈ secs, ∃ ep, Lv h2 s.tr (.dict ep (trl s.t)) := fun s hs => by
    refine e11 (hT s hs) fun ep l => ?_
    exact ⟨ep, l.ext0 e2⟩
  clear e2
  walk_at "g"
  refine fr1 fun A1 h3 e3 g3 l3 => ?_
  have nNA := lN.ne g3
  replace L := L.ext e3 (by simp)
  replace hTB := hTB.ext0 e3
  replace hX := hX.ext0 e3
  replace lN := lN.ext0 e3
  replace tT := tT.ext e3 (by simp)
  replace tL := tL.ext e3 (by simp)
  replace hT : ∀ s ∈ secs, ∃ ep, Lv h3 s.tr (.dict ep (trl s.t)) := fun s hs => by
    refine e11 (hT s hs) fun ep l => ?_
    exact ⟨ep, l.ext0 e3⟩
  clear e3
  rw [Int.toNat_natCast, ← List.map_drop] at l3
  have hrl2 : ((refs.drop c).map V.ref).length ≤ 3 := by simp; lia
  walk_at "g"
  refine fr1 fun A2 h4 e4 g4 l4 => ?_
  have nNA2 := lN.ne g4
  replace L := L.ext e4 (by simp)
  replace hTB := hTB.ext0 e4
  replace hX := hX.ext0 e4
  replace lN := lN.ext0 e4
  replace tT := tT.ext e4 (by simp)
  replace tL := tL.ext e4 (by simp)
  replace hT : ∀ s ∈ secs, ∃ ep, Lv h4 s.tr (.dict ep (trl s.t)) := fun s hs => by
    refine e11 (hT s hs) fun ep l => ?_
    exact ⟨ep, l.ext0 e4⟩
  clear e4
  rw [← List.map_reverse] at l4
  walk_at "g"
  have hel : ess.length = refs.length := tT.len.symm
  have lN : Lv h4 Nw (.dict ep1 (ed fT [])) := lN
  refine for_ (fun i ls h' => ∃ x11 ep es, ls = [some (.ref SC), some (.ref p), some (.bytes D), some (.ref LA), x4, some (.ref TB), some (.ref SX), x7, x8, some (.int c), some (.ref Nw), x11, x12, x13, x14, x15, x16] ∧ Ext [Nw] h4 h' ∧ Lv h' Nw (.dict ep (ed fT es)) ∧ (keys es).Nodup ∧ ∀ n, lk n es = ov ((ess.drop c).drop (refs.length - c - i)) n) ⟨x11, _, [], rfl, .refl, lN, by simp [keys], fun n => by
    have : (ess.drop c).drop (refs.length - c - 0) = [] := by
      rw [List.drop_eq_nil_iff]; simp; lia
    rw [this]; rfl⟩ ?_ ?_
  · intro R' i v ls h' hv hI hR
    refine e35 hI fun x11 ep es eq1 => ?_
    clear hI
    subst eq1
    intro x1 lN nd hlk
    refine e12 (map_ref hv) fun r hr eq1 => ?_
    subst eq1
    have hil : i < refs.length - c := by
      have := (List.getElem?_eq_some_iff.mp hr).1
      simpa using this
    rw [List.getElem?_reverse (by simpa using hil), List.getElem?_drop] at hr
    have hidx : c + ((refs.drop c).length - 1 - i) = c + (refs.length - c - (i + 1)) := by simp; lia
    rw [hidx] at hr
    obtain ⟨fs, hfs⟩ : ∃ fs, ess[c + (refs.length - c - (i + 1))]? = some fs := ⟨_, List.getElem?_eq_getElem (by lia)⟩
    refine e11 (tT.at' _ r fs hr hfs) fun epf lf => ?_
    have hrN := ntN r (List.mem_of_getElem? hr)
    have Ef := tT.ok fs (List.mem_of_getElem? hfs)
    have hNr : Nw ≠ r := Ne.symm hrN
    have lf2 := lf.ext x1 (ne1 hrN)
    have hdr : (ess.drop c).drop (refs.length - c - (i + 1)) = fs :: (ess.drop c).drop (refs.length - c - i) := by
      have h1 : (ess.drop c)[refs.length - c - (i + 1)]? = some fs := by rw [List.getElem?_drop]; exact hfs
      refine e11 (List.getElem?_eq_some_iff.mp h1) fun h2 h3 => ?_
      rw [List.drop_eq_getElem_cons h2, h3]
      congr 2
      lia
    have hes : es.length ≤ 10 := keys_len (n := 10) nd fun x hx => by
      have := lk_mem.mpr hx
      rw [hlk x] at this
      cases q : ov ((ess.drop c).drop (refs.length - c - i)) x with
      | none => exact absurd q this
      | some e => exact (ov_ok (fun es hes => tT.ok es (List.mem_of_mem_drop (List.mem_of_mem_drop hes))) x e q).key
    have hfl := Ef.len
    have hA2 := l4.ext x1 (by simpa using Ne.symm nNA2)
    have hR2 : ∀ h5 ep, Ext [Nw] h4 h5 → Lv h5 Nw (.dict ep (ed fT (pkAll fs es))) → R' [some (.ref SC), some (.ref p), some (.bytes D), some (.ref LA), x4, some (.ref TB), some (.ref SX), x7, x8, some (.int c), some (.ref Nw), some (.ref r), x12, x13, x14, x15, x16] h5 := fun h5 ep a b =>
      hR _ _ ⟨_, _, _, rfl, a, b, pkAll_nd nd, fun n => by
        rw [lk_pkAll _ _ Ef.nd, hlk n, hdr]; rfl⟩
    clear hv hR he q hlk hdr hr hfs
    refine ⟨hA2.get, ?_⟩
    walk_at "g"
    refine ⟨⟨ed_keysN, ed_keysN, by rw [ed_len, ed_len, small]; lia, hNr⟩, somG (putAll_ed _ _) ?_⟩
    intro ep5
    exact hR2 _ _ (x1.trans (Ext.set (by simp))) lN.set
  · intro ls h' hI
    refine e35 hI fun x11 ep es eq1 => ?_
    clear hI
    subst eq1
    intro x1 lN nd hlk
    rw [List.length_map, List.length_reverse, List.length_drop, Nat.sub_self, List.drop_zero] at hlk
    have hA2 := l4.ext x1 (by simpa using Ne.symm nNA2)
    refine ⟨hA2.get, ?_⟩
    refine he _ Nw ep es c _ (L.ext3 x1 (fun b hb => by rw [List.mem_singleton] at hb; subst hb; exact nLN)) ⟨nd, fun n e hn => ov_ok (fun es hes => tT.ok es (List.mem_of_mem_drop hes)) n e (by rw [← hlk n]; exact hn)⟩ lN (hX.ext x1 (ne1 nXN)) (tL.ext x1 (by simp; exact fun s hs q => neN s.e (List.mem_map_of_mem (f := (·.e)) hs) q)) (fun s hs => by
      refine e11 (hT s hs) fun ep l => ?_
      exact ⟨ep, l.ext x1 (by simpa using nsN s hs)⟩) (by lia) hlk
end
end
section
section
variable {d : Nat} {h : Hp} {S' : List Nat} {a b ep ep2 S T TR F p N lim LA t0 Nw En ep3 SC TB SX SH RS : Nat} {k : KE} {v v2 v3 : V} {x n m g : Int} {h0 h' : Hp} {t : Nat} {rA : RA} {es : Es} {D : List Nat} {ct : Int} {x4 x6 x7 x8 x9 x10 x11 x12 x13 x14 x15 x16 : Option V} {ess : List Es} {secs : List Sec} {c : Nat}
structure SecL (h : Hp) (t0 SX : Nat) (secs : List Sec) (ess : List Es) : Prop where
  tL : TabL h (secs.map (·.e)) ess
  tr : ∀ s ∈ secs, ∃ ep, Lv h s.tr (.dict ep (trl s.t))
  t : ∀ (i : Nat) (s : Sec), secs[i]? = some s → s.t = i
  ge : ∀ s ∈ secs, t0 ≤ s.e ∧ t0 ≤ s.tr ∧ s.e ≠ SX ∧ s.tr ≠ SX
theorem SecL.ext (s : SecL h t0 SX secs ess) (e : Ext [] h h') : SecL h' t0 SX secs ess := ⟨s.tL.ext e (by simp), fun x hx => by
  refine e11 (s.tr x hx) fun ep l => ?_
  exact ⟨ep, l.ext0 e⟩, s.t, s.ge⟩
theorem SecL.setX {o : O} (s : SecL h t0 SX secs ess) : SecL (h.set SX o) t0 SX secs ess := ⟨s.tL.ext (Ext.set (S := [SX]) (by simp)) (by
  intro r hr
  refine e12 (List.mem_map.mp hr) fun x hx eq1 => ?_
  subst eq1
  simpa using (s.ge x hx).2.2.1), fun x hx => by
  refine e11 (s.tr x hx) fun ep l => ?_
  exact ⟨ep, l.set_ne (s.ge x hx).2.2.2⟩, s.t, s.ge⟩
theorem SecL.ext2 (s : SecL h t0 SX secs ess) (e : Ext S' h h') (hS : ∀ b ∈ S', ∀ x ∈ secs, b ≠ x.e ∧ b ≠ x.tr) : SecL h' t0 SX secs ess := ⟨s.tL.ext e (by
  intro r hr q
  refine e12 (List.mem_map.mp hr) fun x hx eq1 => ?_
  subst eq1
  exact (hS _ q x hx).1 rfl), fun x hx => by
  refine e11 (s.tr x hx) fun ep l => ?_
  exact ⟨ep, l.ext e fun q => (hS _ q x hx).2 rfl⟩, s.t, s.ge⟩
theorem SecL.lt (s : SecL h t0 SX secs ess) : ∀ x ∈ secs, x.e < h.top ∧ x.tr < h.top := fun x hx => ⟨s.tL.lt x.e (List.mem_map_of_mem (f := (·.e)) hx), by
  refine e11 (s.tr x hx) fun ep l => ?_
  exact l.lt⟩
theorem SecL.add {x : Sec} {es : Es} {ep ep2 : Nat} (s : SecL h t0 SX secs ess) (h1 : Lv h x.e (.dict ep (ed fE es))) (h2 : Lv h x.tr (.dict ep2 (trl x.t))) (h3 : x.t = secs.length) (hnd : (keys es).Nodup) (hk : ∀ y ∈ keys es, 0 ≤ y ∧ y < 10) (hg : t0 ≤ x.e ∧ t0 ≤ x.tr ∧ x.e ≠ SX ∧ x.tr ≠ SX) : SecL h t0 SX (secs ++ [x]) (ess ++ [es]) := by
  have hl := s.tL.len
  rw [List.length_map] at hl
  refine ⟨⟨by simp [hl], fun i r es' q1 q2 => ?_, fun es' q => ?_, fun es' q => ?_⟩, fun y hy => ?_, fun i y hy => ?_, fun y hy => ?_⟩
  · rw [List.map_append] at q1
    by_cases hi : i < secs.length
    · rw [List.getElem?_append_left (by simpa using hi)] at q1
      rw [List.getElem?_append_left (by lia)] at q2
      exact s.tL.at' i r es' q1 q2
    · rw [List.getElem?_append_right (by simp; lia)] at q1
      rw [List.getElem?_append_right (by lia)] at q2
      have hi0 : i - (secs.map (·.e)).length = 0 := by
        have := (List.getElem?_eq_some_iff.mp q1).1
        simp at this ⊢; lia
      have hi1 : i - ess.length = 0 := by simp at hi0; lia
      rw [hi0] at q1
      rw [hi1] at q2
      cases q1
      cases q2
      exact ⟨ep, h1⟩
  · rcases List.mem_append.mp q with q | q
    · exact s.tL.nd es' q
    · rw [List.mem_singleton] at q; rw [q]; exact hnd
  · rcases List.mem_append.mp q with q | q
    · exact s.tL.key es' q
    · rw [List.mem_singleton] at q; rw [q]; exact hk
  · rcases List.mem_append.mp hy with hy | hy
    · exact s.tr y hy
    · rw [List.mem_singleton] at hy; rw [hy]; exact ⟨ep2, h2⟩
  · by_cases hi : i < secs.length
    · rw [List.getElem?_append_left hi] at hy
      exact s.t i y hy
    · have hi2 : i = secs.length := by
        have := (List.getElem?_eq_some_iff.mp hy).1
        simp at this; lia
      subst hi2
      simp at hy
      rw [← hy]; exact h3
  · rcases List.mem_append.mp hy with hy | hy
    · exact s.ge y hy
    · rw [List.mem_singleton] at hy; rw [hy]; exact hg
theorem lawB {refs : List Nat} (L : Laid h t0 LA rA) (R : RowsOk D (rA.map (·.1))) (hl : rA.length ≤ 1000) (hTB : Lv h TB (.list (refs.map .ref))) (tT : TabT h (rA.map (·.1)) refs ess) (Pn : Pen t h p N) (hN : N ≤ 900000) (hpt0 : p < t0) (htt : t ≤ h.top)
    (hr1 : 1 ≤ refs.length) (hr3 : refs.length ≤ 3) (hpr : ∀ r ∈ refs, r ≠ p) (hpx : p ≠ TB)
    (q : ∀ h', k (.bool true) h') :
    denSs (denS P (Cl (d + 10)) 20) (b912.drop 3) [some (.ref SC), some (.ref p), some (.bytes D), some (.ref LA), x4, some (.ref TB), x6, x7, x8, x9, x10, x11, x12, x13, x14, x15, x16] h (fin k) := by
  have he := fun (h : Hp) SX secs x4 x7 x8 L hTB tT Pn hX hsr tL hT ht hpe hpx => @lawC d h p N LA t0 SC TB SX k t rA D x4 x7 x8 x9 x10 x11 x12 x13 x14 x15 x16 ess secs refs L R hl hTB tT Pn hN hpt0 hX hr1 hr3 hsr tL hT ht hpe hpr hpx q
  have hrl : (refs.map V.ref).length = refs.length := List.length_map _
  have hel : ess.length = refs.length := tT.len.symm
  have hph : p < h.top := Nat.lt_of_lt_of_le Pn.lt htt
  walk_at "g"
  refine fr1 fun SX h1 e1 g1 lX => ?_
  have nLX := L.ne g1
  have nBX := hTB.ne g1
  have ntX := fun r hr => Nat.ne_of_lt (Nat.lt_of_lt_of_le (tT.lt r hr) g1)
  replace L := L.ext e1 (by simp)
  replace hTB := hTB.ext0 e1
  replace tT := tT.ext e1 (by simp)
  replace Pn := Pn.ext0 e1
  walk_at "g"
  rw [List.length_map, Int.toNat_natCast]
  refine for_ (fun i ls h' => ∃ x4 x7 x8 secs, ls = [some (.ref SC), some (.ref p), some (.bytes D), some (.ref LA), x4, some (.ref TB), some (.ref SX), x7, x8, x9, x10, x11, x12, x13, x14, x15, x16] ∧ Ext [SX] h1 h' ∧ Lv h' SX (.list (secs.map fX)) ∧ secs.length = i ∧ SecL h' h.top SX secs (ess.take i)) ⟨x4, x7, x8, [], rfl, .refl, by simpa using lX, rfl, ⟨⟨by simp, by simp, by simp, by simp⟩, by simp, by simp, by simp⟩⟩ ?_ ?_
  · intro R' i v ls h' hv hI hR
    refine e45 hI fun x4 x7 x8 secs eq1 => ?_
    clear hI
    subst eq1
    intro x1 lX hsl sL
    refine e02 (rngL_getQ _ _ _ _ _ hv) fun hi eq1 => ?_
    subst eq1
    have hin : (0 + 1 * (i : Int)) = (i : Int) := by lia
    rw [hin]
    clear hv hin
    obtain ⟨r, hr⟩ : ∃ r, refs[i]? = some r := ⟨_, List.getElem?_eq_getElem hi⟩
    obtain ⟨es, hes⟩ : ∃ es, ess[i]? = some es := ⟨_, List.getElem?_eq_getElem (by lia)⟩
    refine e11 (tT.at' i r es hr hes) fun epr lr1 => ?_
    have hgr : (refs.map V.ref)[i]? = some (.ref r) := by rw [List.getElem?_map, hr]; rfl
    have E := tT.ok es (List.mem_of_getElem? hes)
    have hrX := ntX r (List.mem_of_getElem? hr)
    have hE10 := E.len
    have htk : ess.take (i + 1) = ess.take i ++ [es] := by rw [List.take_add_one, hes]; rfl
    have lB := hTB.ext x1 (ne1 nBX)
    have lr := lr1.ext x1 (ne1 hrX)
    clear lr1
    have hR2 : ∀ h5 x4 x7 x8 secs, Ext [SX] h1 h5 → Lv h5 SX (.list (secs.map fX)) → secs.length = i + 1 → SecL h5 h.top SX secs (ess.take i ++ [es]) → R' [some (.ref SC), some (.ref p), some (.bytes D), some (.ref LA), x4, some (.ref TB), some (.ref SX), x7, x8, x9, x10, x11, x12, x13, x14, x15, x16] h5 := fun h5 x4 x7 x8 secs a b c d => hR _ _ ⟨_, _, _, secs, rfl, a, b, c, by rw [htk]; exact d⟩
    clear hR he q hes hr htk
    refine ⟨trivial, ?_⟩
    walk_at "g"
    refine frD fun En ep2 h2 e2 g2 lE => ?_
    have nEB := lB.ne g2
    have nEr := lr.ne g2
    have nEX := lX.ne g2
    have nEs : ∀ x ∈ secs, En ≠ x.e ∧ En ≠ x.tr := fun x hx => by have := sL.lt x hx; lia
    have hEn : h.top ≤ En := Nat.le_trans e1.top (Nat.le_trans x1.top g2)
    have y1 := x1.tr0 e2
    replace lB := lB.ext0 e2
    replace lr := lr.ext0 e2
    replace lX := lX.ext0 e2
    replace sL := sL.ext e2
    have lE : Lv h2 En (.dict ep2 (ed fE (es.take 0))) := lE
    walk_at "g"
    refine for_ (fun j ls h' => ∃ x8 ep2, ls = [some (.ref SC), some (.ref p), some (.bytes D), some (.ref LA), some (.int i), some (.ref TB), some (.ref SX), some (.ref En), x8, x9, x10, x11, x12, x13, x14, x15, x16] ∧ Ext [En] h2 h' ∧ Lv h' En (.dict ep2 (ed fE (es.take j)))) ⟨x8, ep2, rfl, .refl, lE⟩ ?_ ?_
    · intro R2 j v ls h'' hv hI hRR
      refine e23 hI fun x8 ep2 eq1 => ?_
      clear hI
      subst eq1
      intro z1 lE
      rw [ed_fst] at hv
      refine e12 (map_int hv) fun n hn eq1 => ?_
      subst eq1
      refine e12 (es_at E.nd hn) fun e hej he2 => ?_
      have hnt : n ∉ keys (es.take j) := by
        have := take_not E.nd hn
        unfold keys at this ⊢
        rw [List.map_take]; exact this
      have hpk := pk_new (x := e) hnt
      have htk : es.take (j + 1) = es.take j ++ [(n, e)] := by rw [List.take_add_one, hej]; rfl
      have lB2 := lB.ext z1 (ne1 nEB)
      have lr2 := lr.ext z1 (ne1 nEr)
      have hle : (es.take j).length ≤ 10 := by simp; lia
      obtain ⟨wy, one, two⟩ := e
      have hfT : fT ⟨wy, one, two⟩ = .tup [.str wy.s, .int one, .int two] := rfl
      have hR3 : ∀ h3 ep2 x8, Ext [En] h2 h3 → Lv h3 En (.dict ep2 (ed fE (es.take (j + 1)))) → R2 [some (.ref SC), some (.ref p), some (.bytes D), some (.ref LA), some (.int i), some (.ref TB), some (.ref SX), some (.ref En), x8, x9, x10, x11, x12, x13, x14, x15, x16] h3 := fun h3 ep2 x8 a b => hRR _ _ (i23 rfl a b)
      rw [htk] at hR3
      clear hv hRR hR2 hn hej hnt htk L
      refine ⟨(i12 lr2.get rfl), ?_⟩
      walk_at "g"
      refine mk730 fun h3 e3 => ?_
      have lE3 := lE.ext0 e3
      walk_at "g"
      intro ep5
      rw [show putI n (V.obj 730 [.str wy.s, .int one, .int two]) (ed fE (es.take j)) = ed fE (pk n ⟨wy, one, two⟩ (es.take j)) from ed_put (f := fE) (x := ⟨wy, one, two⟩), hpk]
      exact hR3 _ _ _ ((z1.tr0 e3).trans (Ext.set (by simp))) lE3.set
    · intro ls h'' hI
      refine e23 hI fun x8 ep2 eq1 => ?_
      clear hI
      subst eq1
      intro z1 lE
      rw [List.length_map, ed_len, List.take_length] at lE
      have lr2 := lr.ext z1 (ne1 nEr)
      have lX2 := lX.ext z1 (ne1 nEX)
      have sL2 := sL.ext2 z1 (by simpa using nEs)
      have y2 : Ext [SX] h1 h'' := by
        have := (y1.sub (T := [En, SX]) (by simp)).trans (z1.sub (T := [En, SX]) (by simp))
        exact this.new (Nat.le_trans x1.top g2)
      refine ⟨(i12 lr2.get rfl), ?_⟩
      walk_at "g"
      refine frD fun Tr ep3 h5 e5 g5 lT => ?_
      have nTX := lX2.ne g5
      have nTE := lE.ne g5
      have nTs : ∀ x ∈ secs, Tr ≠ x.e ∧ Tr ≠ x.tr := fun x hx => by have := sL2.lt x hx; lia
      walk_at "g"
      refine ⟨⟨Nat.le_of_ble_eq_true rfl, .inr rfl⟩, fun ep6 => ?_⟩
      have y3 := (y2.tr0 e5).setN (a := Tr) (o := .dict ep6 (trl i)) (Nat.le_trans y2.top g5)
      have lX3 := (lX2.ext0 e5).set_ne nTX (o' := .dict ep6 (trl i))
      have lE3 := (lE.ext0 e5).set_ne nTE (o' := .dict ep6 (trl i))
      have lT3 := lT.set (o' := .dict ep6 (trl i))
      have sL3 := (sL2.ext e5).ext2 (Ext.set (S := [Tr]) (a := Tr) (o := .dict ep6 (trl i)) (by simp)) (by simpa using nTs)
      have hTr : h.top ≤ Tr := Nat.le_trans e1.top (Nat.le_trans y2.top g5)
      refine mk773 fun h7 e7 => ?_
      have lX7 := lX3.ext0 e7
      have sL7 := (sL3.ext e7).add (x := ⟨i, En, Tr⟩) (es := es) (lE3.ext0 e7) (lT3.ext0 e7) (by simp [hsl]) E.nd E.keys ⟨hEn, hTr, Ne.symm nEX, Ne.symm nTX⟩
      have hfX : fX ⟨i, En, Tr⟩ = .obj 773 [.int i, .ref En, .ref Tr] := rfl
      have hlx : (secs.map fX).length ≤ 100 := by rw [List.length_map]; lia
      have hR3 := fun x8 => hR2 (h7.set SX (.list (secs.map fX ++ [.obj 773 [.int i, .ref En, .ref Tr]]))) (some (.int i)) (some (.ref En)) x8 (secs ++ [⟨i, En, Tr⟩]) ((y3.tr0 e7).trans (Ext.set (by simp))) (by rw [List.map_append]; exact lX7.set) (by simp [hsl]) sL7.setX
      clear hR2 L
      walk_at "g"
      exact hR3 _
  · intro ls h' hI
    refine e45 hI fun x4 x7 x8 secs eq1 => ?_
    clear hI
    subst eq1
    intro x1 lX hsl sL
    rw [rngL_length] at hsl
    rw [rngL_length, ← hel, List.take_length] at sL
    refine ⟨trivial, ?_⟩
    refine he _ SX secs _ _ _ (L.ext3 x1 (fun b hb => by rw [List.mem_singleton] at hb; subst hb; exact nLX)) (hTB.ext x1 (by simpa using nBX)) (tT.ext x1 (by simpa using ntX)) (Pn.ext x1 (by simp; lia)) lX hsl sL.tL sL.tr sL.t (fun s hs => by have := sL.ge s hs; lia) ⟨by lia, hpx⟩
end
end
section
section
variable {d : Nat} {h : Hp} {S' : List Nat} {a b ep ep2 S T TR F p N lim LA t0 Nw En ep3 SC TB SX SH RS : Nat} {k : KE} {v v2 v3 : V} {x n m g : Int} {h0 h' : Hp} {t : Nat} {rA : RA} {es : Es} {D : List Nat} {ct : Int} {ess : List Es}
theorem TabT.add {refs : List Nat} {rows : List Rw} (s : TabT h rows refs ess) {r ep : Nat} {es : Es} (h1 : Lv h r (.dict ep (ed fT es))) (hE : EsOk rows es) : TabT h rows (refs ++ [r]) (ess ++ [es]) := by
  have hl := s.len
  refine ⟨by simp [hl], fun i r' es' q1 q2 => ?_, fun es' q => ?_⟩
  · by_cases hi : i < refs.length
    · rw [List.getElem?_append_left hi] at q1
      rw [List.getElem?_append_left (by lia)] at q2
      exact s.at' i r' es' q1 q2
    · rw [List.getElem?_append_right (by lia)] at q1
      rw [List.getElem?_append_right (by lia)] at q2
      have hi0 : i - refs.length = 0 := by
        have := (List.getElem?_eq_some_iff.mp q1).1
        simp at this ⊢; lia
      have hi1 : i - ess.length = 0 := by lia
      rw [hi0] at q1
      rw [hi1] at q2
      cases q1
      cases q2
      exact ⟨ep, h1⟩
  · rcases List.mem_append.mp q with q | q
    · exact s.ok es' q
    · rw [List.mem_singleton] at q; rw [q]; exact hE
theorem lawA {ns : List Int} (hSC : Lv h SC (.ro (ns.map .int))) (hns : ns.length ≤ 1000) (q : ∀ h', k (.bool true) h') :
    denSs (denS P (Cl (d + 10)) 20) b912 [some (.ref SC), none, none, none, none, none, none, none, none, none, none, none, none, none, none, none, none] h (fin k) := by
  have he := fun (h : Hp) p LA D rA t t0 N TB refs ess L R hl hTB tT Pn hN hpt0 htt hr1 hr3 hpr hpx => @lawB d h p N LA t0 SC TB k t rA D none none none none none none none none none none none none ess refs L R hl hTB tT Pn hN hpt0 htt hr1 hr3 hpr hpx q
  walk_at "g"
  refine w869 hSC hns fun h1 p e1 g1 P1 => ?_
  clear hSC
  walk_at "g"
  refine w886 P1 (Nat.le_refl _) (by lia) fun h2 LA D rA e2 P2 L2 R hl1 hl6 => ?_
  have hpt := P1.lt
  walk_at "g"
  refine w876 (lim := 3) P2 (by lia) (by decide) (by decide) fun h3 r hr e3 P3 => ?_
  have L3 := L2.ext e3 (by simpa using hpt)
  have x3 := e2.trans e3
  clear e2 e3 P1 P2 L2
  walk_at "g"
  have hrr : (1 + (r : Int)).toNat = r + 1 := by lia
  rw [hrr]
  refine fr1 fun TB h4 e4 g4 lB => ?_
  have hTp : TB ≠ p := by have := x3.top; lia
  have nLB := L3.ne g4
  have L4 := L3.ext e4 (by simp)
  have P4 := P3.ext0 e4
  refine comp (fun i h' => ∃ refs ess, Lv h' TB (.list (refs.map .ref)) ∧ refs.length = i ∧ TabT h' (rA.map (·.1)) refs ess ∧ h4.top ≤ h'.top ∧ Pen h1.top h' p (0 + 60 + 1 + 60 * i) ∧ Laid h' h1.top LA rA ∧ ∀ r ∈ refs, r ≠ p ∧ r ≠ TB) ⟨[], [], by simpa using lB, rfl, ⟨rfl, by simp, by simp⟩, Nat.le_refl _, P4, L4, by simp⟩ ?_ ?_
  · intro R' i v h' hv hI hR
    refine e27 hI fun refs ess lB hrl tT htop P5 L5 hne => ?_
    clear hI
    refine e02 (rngL_getQ _ _ _ _ _ hv) fun hi eq1 => ?_
    subst eq1
    have hR2 : ∀ h' refs ess, Lv h' TB (.list (refs.map .ref)) → refs.length = i + 1 → TabT h' (rA.map (·.1)) refs ess → h4.top ≤ h'.top → Pen h1.top h' p (0 + 60 + 1 + 60 * (i + 1)) → Laid h' h1.top LA rA → (∀ r ∈ refs, r ≠ p ∧ r ≠ TB) → R' h' := fun h' refs ess a1 a2 a3 a4 a5 a6 a7 => hR _ ⟨refs, ess, a1, a2, a3, a4, a5, a6, a7⟩
    clear hv hR he q
    refine ⟨trivial, ?_⟩
    walk_at "g"
    have hx3 := x3.top
    have hx4 := e4.top
    refine w893 P5 L5 R (Nat.le_refl _) (by lia) (by lia) hl1 hl6 fun h6 F ep es e6 P6 gF lF E => ?_
    have lB6 := lB.ext e6 (ne1 hTp)
    have hFB : F ≠ TB := by have := lB.lt; lia
    have hFp : F ≠ p := by lia
    have hrl2 : (refs.map V.ref).length ≤ 10 := by rw [List.length_map]; lia
    have htp := e6.top
    have hR3 := hR2 (h6.set TB (.list (refs.map .ref ++ [.ref F]))) (refs ++ [F]) (ess ++ [es]) (by rw [List.map_append]; exact lB6.set) (by simp [hrl])
      (((tT.ext e6 (by simpa using fun r hr => (hne r hr).1)).ext (Ext.set (S := [TB]) (a := TB) (o := .list (refs.map .ref ++ [.ref F])) (by simp)) (by simpa using fun r hr => (hne r hr).2)).add (lF.set_ne hFB) E)
      (by show h4.top ≤ h6.top; lia) (P6.ext (Ext.set (S := [TB]) (a := TB) (o := .list (refs.map .ref ++ [.ref F])) (by simp)) (by simp; lia))
      ((L5.ext e6 (by simpa using hpt)).ext3 (Ext.set (S := [TB]) (a := TB) (o := .list (refs.map .ref ++ [.ref F])) (by simp)) (fun b hb => by rw [List.mem_singleton] at hb; subst hb; exact nLB))
      (fun r hr => by
        rcases List.mem_append.mp hr with hr | hr
        · exact hne r hr
        · rw [List.mem_singleton] at hr; rw [hr]; exact ⟨hFp, hFB⟩)
    clear hR2 L3 L4 L5
    walk_at "g"
  · intro h' hI
    refine e27 hI fun refs ess lB hrl tT htop P5 L5 hne => ?_
    clear hI
    rw [rngL_length] at hrl P5
    refine ⟨trivial, ?_⟩
    refine he _ p LA D rA h1.top h1.top _ TB refs ess L5 R (by lia) lB tT P5 (by lia) hpt ?_ (by lia) (by lia) (fun r hr => (hne r hr).1) (Ne.symm hTp)
    have := x3.top
    have := e4.top
    lia
end
end
end
section
set_option maxHeartbeats 0
open PySem PySem.W PyProof.Rows
noncomputable def tbL : Tab := ⟨id, id, fun n => (nmL[n]?).getD (Str.ofString "")⟩
noncomputable def WL (p : Program) (w : World) (K : Frag) (vw : Program) (mean : ExcName → Option Value) (mg mb : Str → Option Value) (loose : List Str) (ro : Addr → Option (List Value × Obj)) : Wd :=
  ⟨p, w, K, vw, loose, mean, mg, mb, tbL, P, ro⟩
noncomputable def obOf (K : Frag) (a : Addr) : Obj := (K.lookup a).getD default
noncomputable def fuOf (K : Frag) (a : Addr) : FuncData := match (obOf K a).data with
  | .func fd => fd
  | _ => default
noncomputable def stsOf : FuncBody → List Stmt
  | .stmts b => b
  | .expr _ => []
noncomputable def fdOf (K : Frag) (a : Addr) (locs : List Str) : FD where
  name := (fuOf K a).name
  qual := (fuOf K a).qualname
  params := (fuOf K a).params
  body := stsOf (fuOf K a).body
  scope := (fuOf K a).scope
  dV := (fuOf K a).defaults
  kV := (fuOf K a).kwdefaults
  doc := (fuOf K a).doc
  pm := (fuOf K a).pyModule
  cdv := (fuOf K a).code
  ct := (fuOf K a).closureTuple
  oc := (obOf K a).cls
  an := (fuOf K a).annotations
  od := (obOf K a).dict
  osl := (obOf K a).slots
  locs := locs
  dv := (dfltIn K (fuOf K a).defaults).getD []
noncomputable def lcOf (f : Nat) : List Str := (lookN f locL).getD []
noncomputable def locB (names : List (Str × NameKind)) (locs : List Str) : Bool := locs.all fun x => decide ((names.lookup x = some .local ∧ x ∉ cellNames names) ∨ (names.lookup x = some .cell ∧ x ∈ cellNames names))
noncomputable def fnB (K : Frag) (fn : Fn) (D : FD) : Bool :=
  codeIn K D.cdv D.qual && (D.params.posonlyargs.isEmpty && (D.params.kwonlyargs.isEmpty && (D.params.vararg.isNone && (D.params.kwarg.isNone && (decide (D.params.args.map (·.arg) = D.locs.take fn.np) &&
  (Nat.ble fn.np D.locs.length && (Nat.beq fn.nl D.locs.length && ((dfltIn K D.dV).isSome && (Nat.ble D.dv.length fn.np && (decide D.locs.Nodup && (locB D.scope.names D.locs && (D.locs.all (fun x => !(x == Mi.dbg)) &&
  (decide (cellNames D.scope.names).Nodup && (!D.scope.isCoroutine && (!D.scope.isGenerator && decide (D.scope.kind = .function))))))))))))))))
structure FnP (K : Frag) (W : Wd) (p : Nat × Fn) : Prop where
  at' : K.lookup p.1 = some ⟨(obOf K p.1).cls, (obOf K p.1).dict, .func (fnX (fuOf K p.1).name (fuOf K p.1).qualname (fuOf K p.1).params (stsOf (fuOf K p.1).body) (fuOf K p.1).scope [] (fuOf K p.1).defaults (fuOf K p.1).kwdefaults (fuOf K p.1).doc (fuOf K p.1).pyModule (fuOf K p.1).annotations (fuOf K p.1).code (fuOf K p.1).closureTuple), (obOf K p.1).slots⟩
  body : p.2.body = (stsOf (fuOf K p.1).body).map (cS ⟨lcOf p.1, (fuOf K p.1).scope.names, globL, natL⟩ 30)
  ok : fnB K p.2 (fdOf K p.1 (lcOf p.1)) = true
  dvr : VRs W (KF W) p.2.dfl (fdOf K p.1 (lcOf p.1)).dv
theorem andT {a b : Bool} (h : (a && b) = true) : a = true ∧ b = true := Bool.and_eq_true_iff.mp h
theorem notT {a : Bool} (h : (!a) = true) : a = false := Bool.not_eq_true' a ▸ h
theorem dN_of {α : Type} {o : Option (List α)} (h : o.isSome = true) : o = some (o.getD []) := match o with | some _ => rfl
theorem locB_ok {names : List (Str × NameKind)} {locs : List Str} (h : locB names locs = true) :
    ∀ x ∈ locs, (names.lookup x = some .local ∧ x ∉ cellNames names) ∨ (names.lookup x = some .cell ∧ x ∈ cellNames names) := fun x hx => of_decide_eq_true (List.all_eq_true.mp h x hx)
theorem dbg_of {locs : List Str} (h : (locs.all fun x => !(x == Mi.dbg)) = true) : ∀ x ∈ locs, (x == Mi.dbg) = false := fun x hx => notT (List.all_eq_true.mp h x hx)
section
variable {p : Program} {w : World} {K : Frag} {vw : Program} {mean : ExcName → Option Value} {mg mb : Str → Option Value} {loose : List Str} {ro : Addr → Option (List Value × Obj)}
theorem fn_ok {q : Nat × Fn} (h : FnP K (WL p w K vw mean mg mb loose ro) q) : FnOk (WL p w K vw mean mg mb loose ro) globL natL q.1 q.2 (fdOf K q.1 (lcOf q.1)) := by
  refine e02 (andT h.ok) fun h1 k => e02 (andT k) fun h2 k => e02 (andT k) fun h3 k => e02 (andT k) fun h4 k => e02 (andT k) fun h5 k => e02 (andT k) fun h6 k => e02 (andT k) fun h7 k => e02 (andT k) fun h8 k =>
    e02 (andT k) fun h9 k => e02 (andT k) fun h10 k => e02 (andT k) fun h11 k => e02 (andT k) fun h12 k => e02 (andT k) fun h13 k => e02 (andT k) fun h14 k => e02 (andT k) fun h15 k => e02 (andT k) fun h16 h17 => ?_
  exact ⟨h.at', h1, List.isEmpty_iff.mp h2, List.isEmpty_iff.mp h3, Option.isNone_iff_eq_none.mp h4, Option.isNone_iff_eq_none.mp h5, of_decide_eq_true h6, Nat.le_of_ble_eq_true h7, Nat.eq_of_beq_eq_true h8, dN_of h9, h.dvr, Nat.le_of_ble_eq_true h10,
    of_decide_eq_true h11, locB_ok h12, dbg_of h13, of_decide_eq_true h14, notT h15, notT h16, of_decide_eq_true h17, h.body⟩
noncomputable def nm (n : Nat) : Str := tbL.nm n
noncomputable def clB (K : Frag) (q : Nat × Ci) : Bool :=
  plainGet K q.1 "" && (hasDictIn K q.1 && (makesIn K q.1 && (decide (findIn K (.ref q.1) "__setattr__" = some (some (.builtin "object.__setattr__"))) && (plainOver K q.1 && (keepIn K (.ref q.1) && (decide (q.2.flds.map nm).Nodup && (Nat.ble q.2.flds.length 100 &&
  (q.2.flds.all (fun f => decide (findIn K (.ref q.1) (nm f) = some none) && decide (takerIn K q.1 (nm f) = some none)) &&
  (q.2.meths.all (fun m => decide (findIn K (.ref q.1) (nm m.1) = some (some (.ref m.2))) && (isFn K (.ref m.2) && (keepIn K (.ref m.2) && decide (nm m.1 ∉ q.2.flds.map nm)))) &&
  (decide (findIn K (.ref q.1) "__class__" = some (some (.builtin "object.__class__"))) && (decide (mroIn K q.1 (.type "object") = some true) &&
  ([285, 320, 342, 363, 391].all (fun d => decide (kitOne K (.ref q.1) (.ref d) = some (Nat.beq q.1 d))) &&
  (decide (kitOne K (.ref q.1) (.type "int") = some false) && (decide (kitOne K (.ref q.1) (.type "bool") = some false) && (decide (kitOne K (.ref q.1) (.type "list") = some false) && (decide (kitOne K (.ref q.1) (.type "dict") = some false) &&
  (decide (findIn K (.ref q.1) "__init__" = some (some (.ref q.2.init))) && decide (typeIn K (.ref q.2.init) = some (.type "function")))))))))))))))))))
noncomputable def tyB (K : Frag) (T : String) : Bool :=
  [285, 320, 342, 363, 391].all (fun d => decide (kitOne K (.type T) (.ref d) = some false)) &&
  (decide (kitOne K (.type T) (.type "int") = some (T == "int")) && (decide (kitOne K (.type T) (.type "bool") = some false) && (decide (kitOne K (.type T) (.type "list") = some (T == "list")) && decide (kitOne K (.type T) (.type "dict") = some (T == "dict")))))
structure ClP (W : Wd) (K : Frag) (q : Nat × Ci) : Prop where
  ok : ClsOk W q.1 q.2
  own : findIn K (.ref q.1) "__class__" = some (some (.builtin "object.__class__")) ∧ mroIn K q.1 (.type "object") = some true
  cc : ∀ d ∈ [285, 320, 342, 363, 391], kitOne K (.ref q.1) (.ref d) = some (Nat.beq q.1 d)
  cb : kitOne K (.ref q.1) (.type "int") = some false ∧ kitOne K (.ref q.1) (.type "bool") = some false ∧ kitOne K (.ref q.1) (.type "list") = some false ∧ kitOne K (.ref q.1) (.type "dict") = some false
  ini : findIn K (.ref q.1) "__init__" = some (some (.ref q.2.init)) ∧ typeIn K (.ref q.2.init) = some (.type "function")
theorem cl_ok {q : Nat × Ci} (h : clB K q = true) : ClP (WL p w K vw mean mg mb loose ro) K q := by
  refine e02 (andT h) fun h1 k => e02 (andT k) fun h2 k => e02 (andT k) fun h3 k => e02 (andT k) fun h4 k => e02 (andT k) fun h5 k => e02 (andT k) fun h6 k => e02 (andT k) fun h7 k => e02 (andT k) fun h8 k =>
    e02 (andT k) fun h9 k => e02 (andT k) fun h10 k => e02 (andT k) fun h11 k => e02 (andT k) fun h12 k => e02 (andT k) fun h13 k => e02 (andT k) fun h14 k => e02 (andT k) fun h15 k => e02 (andT k) fun h16 k => e02 (andT k) fun h17 k => e02 (andT k) fun h18 h19 => ?_
  refine ⟨⟨fun Z => h1, h2, h3, of_decide_eq_true h4, h5, h6, fun f hf => ?_, of_decide_eq_true h7, Nat.le_of_ble_eq_true h8, fun m hm => ?_⟩, ⟨of_decide_eq_true h11, of_decide_eq_true h12⟩, fun d hd => of_decide_eq_true (List.all_eq_true.mp h13 d hd), ⟨of_decide_eq_true h14, of_decide_eq_true h15, of_decide_eq_true h16, of_decide_eq_true h17⟩, of_decide_eq_true h18, of_decide_eq_true h19⟩
  · exact e02 (andT (List.all_eq_true.mp h9 f hf)) fun a b => ⟨of_decide_eq_true a, of_decide_eq_true b⟩
  · exact e02 (andT (List.all_eq_true.mp h10 m hm)) fun a k => e02 (andT k) fun b k => e02 (andT k) fun c d => ⟨of_decide_eq_true a, b, c, of_decide_eq_true d⟩
noncomputable def vrB (v : V) (v' : Value) : Bool := match v with
  | .int i => match v' with
    | .int j _ => decide (i = j)
    | _ => false
  | .fn f => decide (v' = .ref f)
  | .cls f => decide (v' = .ref f)
  | .bi b => decide (v' = biVal b)
  | _ => false
theorem vrB_ok {W : Wd} (hW : W.tb = tbL) {F : PF} {v : V} {v' : Value} (h : vrB v v' = true) : VR W F v v' := by
  induction v using V.casesOn with
  | int i =>
    induction v' using Value.casesOn with
    | int j t => rw [show i = j from of_decide_eq_true h]; exact .int j t
    | _ => exact Bool.noConfusion h
  | fn f => rw [show v' = .ref (W.tb.fnA f) by rw [hW]; exact of_decide_eq_true h]; exact .fn f
  | cls f => rw [show v' = .ref (W.tb.clA f) by rw [hW]; exact of_decide_eq_true h]; exact .cls f
  | bi b => rw [show v' = biVal b from of_decide_eq_true h]; exact .bi b
  | _ => exact Bool.noConfusion h
noncomputable def onV (o : Option (Option Value)) (x : Str) (v : V) : Bool := match o with
  | some o => match o with
    | some v' => vrB v v'
    | none => decide (x ≠ "__name__") && (match bootBuiltins x with
      | some v' => vrB v v'
      | none => false)
  | none => false
noncomputable def isTupB (v : V) : Bool := match v with | .tup _ => true | _ => false
noncomputable def glB (K : Frag) (q : Str × V) : Bool := isTupB q.2 || (!(q.1 == Mi.dbg) && onV (nsIn K mainGlobals q.1) q.1 q.2)
theorem gl_ok {q : Str × V} (ht : isTupB q.2 = false) (h : glB K q = true) : GlobOk (WL p w K vw mean mg mb loose ro) q.1 q.2 := by
  unfold glB at h
  rw [ht] at h
  refine e02 (andT (show (!(q.1 == Mi.dbg) && onV (nsIn K mainGlobals q.1) q.1 q.2) = true from h)) fun h1 h2 => ⟨notT h1, ?_⟩
  show (∃ v', nsIn K mainGlobals q.1 = some (some v') ∧ _) ∨ (nsIn K mainGlobals q.1 = some none ∧ _)
  cases e : nsIn K mainGlobals q.1 with
  | none => rw [e] at h2; exact Bool.noConfusion h2
  | some o =>
    rw [e] at h2
    cases o with
    | some v' => exact .inl ⟨v', rfl, vrB_ok rfl h2⟩
    | none =>
      refine e02 (andT h2) fun h3 h4 => .inr ⟨rfl, of_decide_eq_true h3, ?_⟩
      cases e2 : bootBuiltins q.1 with
      | none => rw [e2] at h4; exact Bool.noConfusion h4
      | some v' => rw [e2] at h4; exact ⟨v', rfl, vrB_ok rfl h4⟩
theorem lookStr_mem {α : Type} {x : Str} {v : α} {l : List (Str × α)} : lookStr x l = some v → (x, v) ∈ l := by
  induction l with
  | nil => exact fun h => none_ne h
  | cons p r ih => exact fun h => cond_some h (fun e q => by rw [strEq_eq] at e; rw [← q, of_decide_eq_true e]; exact .head _) fun Z h => .tail _ (ih h)
structure Inst (p : Program) (w : World) (K : Frag) (vw : Program) (mean : ExcName → Option Value) (mg mb : Str → Option Value) (loose : List Str) (ro : Addr → Option (List Value × Obj)) : Prop where
  fn : ∀ q ∈ fnL, FnP K (WL p w K vw mean mg mb loose ro) q
  cl : ∀ q ∈ ciL, clB K q = true
  gl : ∀ q ∈ globL, glB K q = true
  tu : ∀ q ∈ globL.filter (fun q => isTupB q.2), GlobOk (WL p w K vw mean mg mb loose ro) q.1 q.2
  nt : ∀ q ∈ natL, decide (nm q.2 = q.1) = true
  ty : ∀ T ∈ isiT, tyB K T = true
  ge : specialIn K (.builtin "object.__class__") "__get__" = some (some (.builtin "getset_descriptor.__get__"))
  ta : takesIn K (.builtin "object.__class__") = some true
  nn : NamesOk tbL
variable (I : Inst p w K vw mean mg mb loose ro)
include I
theorem glob_ok : ∀ x v, lookStr x globL = some v → GlobOk (WL p w K vw mean mg mb loose ro) x v := fun x v h => by
  have hm := lookStr_mem h
  cases e : isTupB v with
  | true => exact I.tu (x, v) (List.mem_filter.mpr ⟨hm, e⟩)
  | false => exact gl_ok (q := (x, v)) e (I.gl _ hm)
theorem nat_ok : ∀ x n, lookStr x natL = some n → (WL p w K vw mean mg mb loose ro).tb.nm n = x := fun x n h => of_decide_eq_true (I.nt _ (lookStr_mem h))
theorem all_okI : AllOk (WL p w K vw mean mg mb loose ro) := by
  have hc := fun c ci (h : lookN c ciL = some ci) => cl_ok (p := p) (w := w) (vw := vw) (mean := mean) (mg := mg) (mb := mb) (loose := loose) (ro := ro) (I.cl _ (lookN_mem h))
  refine ⟨⟨fun c ci h => (hc c ci h).ok, I.nn⟩, ⟨fun c ci h => (hc c ci h).own, I.ge, I.ta, fun c ci d h hd => (hc c ci h).cc d hd, fun c ci h => (hc c ci h).cb, fun T hT d hd => ?_, fun T hT => ?_⟩, ⟨fun c ci h => (hc c ci h).ini⟩⟩
  · exact of_decide_eq_true (List.all_eq_true.mp (andT (I.ty T hT)).1 d hd)
  · exact e02 (andT (andT (I.ty T hT)).2) fun a k => e02 (andT k) fun b k => e02 (andT k) fun c d => ⟨of_decide_eq_true a, of_decide_eq_true b, of_decide_eq_true c, of_decide_eq_true d⟩
theorem call_ok : CallOk (WL p w K vw mean mg mb loose ro) globL natL := ⟨all_okI I, ⟨fun f fn h => ⟨_, fn_ok (I.fn _ (lookN_mem h))⟩, glob_ok I, nat_ok I⟩⟩
end
theorem allB {α : Type} {l : List α} {f : α → Bool} (h : l.all f = true) : ∀ q ∈ l, f q = true := List.all_eq_true.mp h
theorem map_at {α β : Type} {l : List α} {f g : α → β} (h : l.map f = l.map g) : ∀ q ∈ l, f q = g q := List.map_inj_left.mp h
noncomputable def toV (v : Value) : Option V := match v with
  | .int n _ => some (.int n)
  | .bool b => some (.bool b)
  | .none => some .none
  | _ => none
theorem toV_ok {W : Wd} {F : PF} {v : V} {v' : Value} (h : toV v' = some v) : VR W F v v' := by
  induction v' using Value.casesOn <;> first | exact none_ne h | (rw [← Option.some.inj h]; constructor)
noncomputable def toVs (l : List Value) : Option (List V) := List.rec (some []) (fun v Z D => (toV v).bind fun x => D.map (x :: ·)) l
theorem toVs_ok {W : Wd} {F : PF} {l : List Value} : ∀ {vs : List V}, toVs l = some vs → VRs W F vs l := by
  induction l with
  | nil => exact fun h => Option.some.inj h ▸ .nil
  | cons v l ih => exact fun h => e12 (Option.bind_eq_some_iff.mp h) fun x e1 h => e12 (Option.map_eq_some_iff.mp h) fun xs e2 e3 => e3 ▸ .cons (toV_ok e1) (ih e2)
theorem fnAll {p : Program} {w : World} {K : Frag} {vw : Program} {mean : ExcName → Option Value} {mg mb : Str → Option Value} {loose : List Str} {ro : Addr → Option (List Value × Obj)}
    (h1 : fnL.map (fun q => K.lookup q.1) = fnL.map (fun q => some ⟨(obOf K q.1).cls, (obOf K q.1).dict, .func (fnX (fuOf K q.1).name (fuOf K q.1).qualname (fuOf K q.1).params (stsOf (fuOf K q.1).body) (fuOf K q.1).scope [] (fuOf K q.1).defaults (fuOf K q.1).kwdefaults (fuOf K q.1).doc (fuOf K q.1).pyModule (fuOf K q.1).annotations (fuOf K q.1).code (fuOf K q.1).closureTuple), (obOf K q.1).slots⟩))
    (h2 : fnL.map (fun q => q.2.body) = fnL.map (fun q => (stsOf (fuOf K q.1).body).map (cS ⟨lcOf q.1, (fuOf K q.1).scope.names, globL, natL⟩ 30)))
    (h3 : fnL.all (fun q => fnB K q.2 (fdOf K q.1 (lcOf q.1))) = true)
    (h4 : fnL.map (fun q => toVs (fdOf K q.1 (lcOf q.1)).dv) = fnL.map (fun q => some q.2.dfl)) : ∀ q ∈ fnL, FnP K (WL p w K vw mean mg mb loose ro) q :=
  fun q hq => ⟨map_at h1 q hq, map_at h2 q hq, allB h3 q hq, toVs_ok (map_at h4 q hq)⟩
theorem fc {α : Type} {Q : α → Prop} {a : α} {l : List α} (h : Q a) (t : ∀ p ∈ l, Q p) : ∀ p ∈ a :: l, Q p := List.forall_mem_cons.mpr ⟨h, t⟩
theorem fnil {α : Type} {Q : α → Prop} : ∀ p ∈ ([] : List α), Q p := fun Z h => nomatch h
theorem vstr {W : Wd} {F : PF} {x : Str} {t : Tok} {l : List Nat} (h : x.cps.toList = l) : VR W F (.str l) (.str x t) := h ▸ .str x t
end
section
set_option maxHeartbeats 0
open PySem PySem.W PyProof.Rows
theorem vrs_intsJ {W : Wd} {F : PF} {vs : List Value} {ns : List Int} (h : IntsAre vs ns) : VRs W F (ns.map .int) vs := by
  induction h with
  | nil => exact .nil
  | cons n t _ ih => exact .cons (.int n t) ih
theorem depth_ok : (1 + claimMargin) + 1 + 4 * 10 + 120 < recursionLimit := by decide
theorem units_ok : 4 + 3 + 20 * 10 + 200 < cLine := by decide
theorem join {w : World} {mean : ExcName → Option Value} {mg mb : Str → Option Value} {loose : List Str} {s : Shared} {h₁ : Heap} {tk : Nat} {a4 : Addr} {vs : List Value} {ns : List Int} {name : Str} {scope : Scope} {f : Addr} {cdv : Value} {m cm : Str → Option Value} {cells : News'} {sts : List Stmt}
    {Q : Flow → Shared → Prop} {E : Value → Shared → Prop} {K : Frag} {vw : Program} (KX : K.In s.heap) (T : Top vw loose mean mg mb s.heap) (noimp : importsNone vw = true) (I : ∀ ro, Inst PySem.Challenge.rw_nn0169_01.row.prog w K vw mean mg mb loose ro) (hL : s.heap.IsList a4 vs.toArray) (hI : IntsAre vs ns) (hlen : ns.length ≤ 1000)
    (hk : scope.kind = .function) (hloc : ∀ x ∈ l912, (scope.names.lookup x = some .local ∧ x ∉ cellNames scope.names) ∨ (scope.names.lookup x = some .cell ∧ x ∈ cellNames scope.names)) (hscr : Str.ofString "script" ∉ cellNames scope.names)
    (hb : sts.map (cS ⟨l912, scope.names, globL, natL⟩ 30) = b912) (F : Fr s.heap s.heap.objs.size h₁ m) (hm : m (Str.ofString "script") = some (.ref a4)) (N0 : News s.heap s.heap.objs.size h₁ cells) (hca : CellsAre cm (cellsFrom (s.heap.objs.size + 1) scope.names []) cells)
    (q : ∀ s', (∀ b o, s.heap.get? b = some o → s'.heap.get? b = some o) → s'.os = s.os → s'.gens = s.gens → Q (.ret (.bool true)) s') :
    wpAny (model PySem.Challenge.rw_nn0169_01.row.prog w) (callerA.deeper (envOfC name scope s.heap.objs.size f cdv)) (execs sts (envOfC name scope s.heap.objs.size f cdv)) Q E { heap := h₁, gens := s.gens, drawn := s.drawn, toks := tk, os := s.os } := by
  obtain ⟨ob, hob, hcls, n, hdat⟩ := hL
  obtain ⟨ca1, ca2⟩ := cellsAre_mem hca
  have hnd : l912.Nodup := of_decide_eq_true (by kernel_rfl)
  have hkind : ∀ y ∈ l912, ((cellsFrom (s.heap.objs.size + 1) scope.names []).lookup y = none → (envOfC name scope s.heap.objs.size f cdv).kindOf y = some .local) ∧ (∀ a, (cellsFrom (s.heap.objs.size + 1) scope.names []).lookup y = some a → (envOfC name scope s.heap.objs.size f cdv).kindOf y = some .cell) := by
    intro y hy
    rcases hloc y hy with ⟨e1, e2⟩ | ⟨e1, e2⟩
    · refine ⟨fun Z => e1, fun a ha => ?_⟩
      rw [← cells_names (s.heap.objs.size + 1)] at e2
      rw [look_none e2] at ha; cases ha
    · refine ⟨fun hn => ?_, fun Z Z => e1⟩
      rw [← cells_names (s.heap.objs.size + 1)] at e2
      obtain ⟨a, ha, _⟩ := look_some e2
      rw [ha] at hn; cases hn
  have cellhi : ∀ b, b ∈ cells.map (·.1) → s.heap.objs.size < b := fun b hb => by
    obtain ⟨p, hp, rfl⟩ := List.mem_map.mp hb
    obtain ⟨x, hx⟩ := ca2 p hp
    exact Nat.lt_of_succ_le (cells_low scope.names (s.heap.objs.size + 1) (s.heap.objs.size + 1) [] (Nat.le_refl _) (by simp) _ hx)
  let W := WL PySem.Challenge.rw_nn0169_01.row.prog w K vw mean mg mb loose (fun a => if a = a4 then some (vs, ob) else none)
  let c : Cx := ⟨callerA.deeper (envOfC name scope s.heap.objs.size f cdv), callerA, s.heap, [], envOfC name scope s.heap.objs.size f cdv, s.heap, s.heap.objs.size, envOfC name scope s.heap.objs.size f cdv, l912.map (fun x => (x, slotOf (cellsFrom (s.heap.objs.size + 1) scope.names []) x)), cells.map (·.1), s.gens, s.drawn, s.os, 10⟩
  have hro : ∀ a vs' n', W.ro a = some (vs', n') → a = a4 ∧ vs' = vs ∧ n' = ob := fun a vs' n' e => by
    show a = a4 ∧ vs' = vs ∧ n' = ob
    have e : (if a = a4 then some (vs, ob) else none) = some (vs', n') := e
    split at e
    · cases e; exact ⟨‹_›, rfl, rfl⟩
    · cases e
  have hro1 : W.ro a4 = some (vs, ob) := if_pos rfl
  have G : Good W c := ⟨below_caller s.heap, KX, T, rfl, rfl, hk, hk, rfl, rfl, rfl, depth_ok, units_ok, noimp, fun a vs' n' e => by obtain ⟨rfl, rfl, rfl⟩ := hro _ _ _ e; exact hob⟩
  have O1 : EnvOk W c ⟨l912, scope.names, globL, natL⟩ := by
    refine ⟨⟨[], ?_⟩, rfl, fun i y sl Z hs => ?_, dbg_of (by kernel_rfl), glob_ok (I _), nat_ok (I _)⟩
    · show (l912.map fun x => (x, slotOf (cellsFrom (s.heap.objs.size + 1) scope.names []) x)).map (·.1) = l912 ++ []
      rw [List.map_map, List.append_nil]; exact List.map_id _
    · obtain ⟨hyi, hsl⟩ := slot_cases hs
      have hy := List.mem_of_getElem? hyi
      rcases hsl with ⟨rfl, hl⟩ | ⟨a, rfl, hl⟩
      · exact ⟨(hkind y hy).1 hl, rfl⟩
      · exact ⟨.inl ((hkind y hy).2 a hl), hl⟩
  have FO1 : FrOk W c := by
    refine ⟨?_, fun y C hm => ?_, fun y a hm => ?_, fun y z a h1 h2 => ?_⟩
    · show ((l912.map fun x => (x, slotOf (cellsFrom (s.heap.objs.size + 1) scope.names []) x)).map (·.1)).Nodup
      rw [List.map_map]
      have : l912.map ((fun x : Str × Slot => x.1) ∘ fun x => (x, slotOf (cellsFrom (s.heap.objs.size + 1) scope.names []) x)) = l912 := List.map_id _
      rw [this]; exact hnd
    · obtain ⟨_, h3⟩ := slot_mem hm
      rcases h3 with ⟨h4, _⟩ | ⟨a, h4, _⟩ <;> cases h4
    · obtain ⟨hy, h3⟩ := slot_mem hm
      rcases h3 with ⟨h4, _⟩ | ⟨a, h4, hl⟩
      · cases h4
      · exact (hkind y hy).2 a hl
    · obtain ⟨_, h3⟩ := slot_mem h1
      obtain ⟨_, h4⟩ := slot_mem h2
      rcases h3 with ⟨h5, _⟩ | ⟨a1, h5, l1⟩
      · cases h5
      · rcases h4 with ⟨h6, _⟩ | ⟨a2, h6, l2⟩
        · cases h6
        · cases h5; cases h6
          have := cells_inj scope.names (s.heap.objs.size + 1) [] (by simp) (by simp) _ (look_mem l1) _ (look_mem l2) rfl
          exact congrArg Prod.fst this
  have hget : ∀ a o, (if a = a4 then some (O.ro (ns.map V.int)) else none) = some o → a = a4 ∧ o = .ro (ns.map V.int) := fun a o e => by
    split at e
    · cases e; exact ⟨‹_›, rfl⟩
    · cases e
  have ha4 : a4 < s.heap.objs.size := Heap.lt_size hob
  have R : Rel W c [some (.ref a4), none, none, none, none, none, none, none, none, none, none, none, none, none, none, none, none] ⟨fun a => if a = a4 then some (.ro (ns.map .int)) else none, a4 + 1⟩ cells { heap := h₁, gens := s.gens, drawn := s.drawn, toks := tk, os := s.os } := by
    refine ⟨⟨m, F, fun i y sl v h1 h2 => ?_⟩, N0, fun a o e => ?_, .inl ⟨a4, vs, ob, hro1, hob, Nat.le_refl _⟩, fun a o e => ?_, fun a ha => ?_, fun y a ha => ?_, fun y C hC => ?_, rfl, rfl, rfl, fun b x e => ?_⟩
    · obtain ⟨hyi, hsl⟩ := slot_cases h1
      match i, h2 with
      | 0, h2 =>
        cases h2
        have hy : y = Str.ofString "script" := by cases hyi; rfl
        subst hy
        refine ⟨.ref a4, .ref a4, ?_⟩
        rcases hsl with ⟨rfl, hl⟩ | ⟨a, rfl, hl⟩
        · exact hm
        · exfalso
          rw [← cells_names (s.heap.objs.size + 1)] at hscr
          rw [look_none hscr] at hl; cases hl
      | i + 1, h2 =>
        have : ∀ (i : Nat) (v : V), ([none, none, none, none, none, none, none, none, none, none, none, none, none, none, none, none] : Ls)[i]? = some (some v) → False := by
          intro i v h
          have := List.mem_of_getElem? h
          simp at this
        exact (this i v h2).elim
    · obtain ⟨rfl, rfl⟩ := hget a o e
      exact .ro hro1 (fun hh e => ⟨ob, e, hcls, n, hdat⟩) (vrs_intsJ hI)
    · obtain ⟨rfl, rfl⟩ := hget a o e
      exact Nat.lt_succ_self _
    · refine ⟨?_, ?_⟩
      · show (if a = a4 then some (O.ro (ns.map V.int)) else none) = none
        rw [if_neg]
        intro e
        have := cellhi a ha
        rw [e] at this
        exact absurd this (Nat.not_lt.mpr (Nat.le_of_lt ha4))
      · obtain ⟨p, hp, rfl⟩ := List.mem_map.mp ha
        exact ⟨p.2, hp⟩
    · obtain ⟨_, h3⟩ := slot_mem ha
      rcases h3 with ⟨h4, _⟩ | ⟨a, h4, hl⟩
      · cases h4
      · cases h4
        obtain ⟨o, ho1, ho2⟩ := ca1 y _ (look_mem hl)
        exact ⟨List.mem_map_of_mem ho1, o, _, ho1, ho2⟩
    · obtain ⟨_, h3⟩ := slot_mem hC
      rcases h3 with ⟨h4, _⟩ | ⟨a, h4, hl⟩ <;> cases h4
    · obtain ⟨_, e⟩ := hget b _ e
      cases e
  have hk : denSs (denS W.pr (Cd W 10) 20) (sts.map (cS ⟨l912, scope.names, globL, natL⟩ 30)) [some (.ref a4), none, none, none, none, none, none, none, none, none, none, none, none, none, none, none, none] ⟨fun a => if a = a4 then some (.ro (ns.map .int)) else none, a4 + 1⟩ (fin fun v Z => v = .bool true) := by
    rw [hb]
    exact lawA (d := 0) (SC := a4) (by constructor <;> simp) hlen fun Z => rfl
  refine sFrame (call_ok (I _)) (c := c) (d := 10) G rfl O1 FO1 R hk fun fl fl' ls' h' news' s' hfin hf R' st => ?_
  have hfin' : fl = .ret (.bool true) := by
    cases fl with
    | ret v => exact congrArg _ hfin
    | next => cases hfin
    | _ => exact hfin.elim
  subst hfin'
  cases hf with
  | ret hv =>
    cases hv
    obtain ⟨m', F', _⟩ := R'.fr
    exact q _ F'.keep R'.os R'.gens
theorem good_law {cl : Str → Option Addr} {mean : ExcName → Option Value} {ns : List Int} {s s' : Shared} (h1 : ∀ b o, s.heap.get? b = some o → s'.heap.get? b = some o) (h2 : s'.os = s.os) (h3 : s'.gens = #[]) :
    GoodW PySem.Challenge.rw_nn0169_01.row.claim cl mean [ofPy (PyData.list (ns.map PyData.int))] s (.ok (.ret (.bool true))) s' := by
  refine ⟨.inl ⟨.bool true, ofPy (.bool true), [], rfl, fun Z => rfl, ?_, ?_, fun Z => ⟨.nil, fun a h => by cases h⟩⟩, h1, h2, h3⟩
  · exact .bool true
  · show (WShape.has [] (ofPy (.bool true)) .bool && WTm.holds [] (.eq .res (.lit (.bool true))) _) = true
    have h1 : WShape.has [] (ofPy (.bool true)) .bool = true := by first | rfl | kernel_rfl | decide | (simp only [ofPy]; unfold WShape.has; rfl)
    have h2 : same (ofPy (.bool true)) (.bool true) = true := by first | rfl | kernel_rfl | simp [same, ofPy]
    simp [WTm.holds, WTm.value, h1, h2]
end
end Mi
namespace Mi.top
theorem tw10004168413675565948:True:=⟨⟩
theorem tw10033101807679056832:True:=⟨⟩
theorem tw10040252515606431917:True:=⟨⟩
theorem tw10047671368009777540:True:=⟨⟩
theorem tw1007560154110566220:True:=⟨⟩
theorem tw10105764042696151391:True:=⟨⟩
theorem tw10106717082876656311:True:=⟨⟩
theorem tw10172264106086534457:True:=⟨⟩
theorem tw10183741528505123683:True:=⟨⟩
theorem tw10196969029442276655:True:=⟨⟩
theorem tw10203101920759571123:True:=⟨⟩
theorem tw10206360328815920209:True:=⟨⟩
theorem tw10216421418985167662:True:=⟨⟩
theorem tw10220789621545853711:True:=⟨⟩
theorem tw10231290276025056027:True:=⟨⟩
theorem tw10256788081786541434:True:=⟨⟩
theorem tw10264571332337670252:True:=⟨⟩
theorem tw10300605600242224824:True:=⟨⟩
theorem tw1031451109717793934:True:=⟨⟩
theorem tw10348050909299714195:True:=⟨⟩
theorem tw10348689929318708708:True:=⟨⟩
theorem tw10351937532640204155:True:=⟨⟩
theorem tw1038710948168945194:True:=⟨⟩
theorem tw10485259543694524705:True:=⟨⟩
theorem tw10497713178239040917:True:=⟨⟩
theorem tw10503450546257741073:True:=⟨⟩
theorem tw10523614670959459159:True:=⟨⟩
theorem tw10536634535666247389:True:=⟨⟩
theorem tw10552555976428197640:True:=⟨⟩
theorem tw10573287028137078875:True:=⟨⟩
theorem tw10574595566974110890:True:=⟨⟩
theorem tw10581866707584033426:True:=⟨⟩
theorem tw10585987534150115534:True:=⟨⟩
theorem tw10601542657464324514:True:=⟨⟩
theorem tw10639515556006946656:True:=⟨⟩
theorem tw10656136176120073215:True:=⟨⟩
theorem tw10666474293871917011:True:=⟨⟩
theorem tw10723020230919425196:True:=⟨⟩
theorem tw1074218544263513644:True:=⟨⟩
theorem tw10775623798068087223:True:=⟨⟩
theorem tw10784485326301840585:True:=⟨⟩
theorem tw10792820306056984729:True:=⟨⟩
theorem tw10797955106900021432:True:=⟨⟩
theorem tw10803944812886182481:True:=⟨⟩
theorem tw10806678381162668718:True:=⟨⟩
theorem tw10861062982281535025:True:=⟨⟩
theorem tw10882493980149607982:True:=⟨⟩
theorem tw10889157386991111596:True:=⟨⟩
theorem tw10889236210328260636:True:=⟨⟩
theorem tw10894924526323197542:True:=⟨⟩
theorem tw10898767211924686876:True:=⟨⟩
theorem tw10902768173857328327:True:=⟨⟩
theorem tw1090585392402334655:True:=⟨⟩
theorem tw10943174790166124679:True:=⟨⟩
theorem tw10957007854744716906:True:=⟨⟩
theorem tw10960119846065636873:True:=⟨⟩
theorem tw10983531817940427799:True:=⟨⟩
theorem tw10983761619321152017:True:=⟨⟩
theorem tw10986454337775104457:True:=⟨⟩
theorem tw11011949176155253477:True:=⟨⟩
theorem tw11033473256335043594:True:=⟨⟩
theorem tw11104513965635341562:True:=⟨⟩
theorem tw11105840081116674763:True:=⟨⟩
theorem tw11127981330598733286:True:=⟨⟩
theorem tw11130055257025586531:True:=⟨⟩
theorem tw11139874697383247176:True:=⟨⟩
theorem tw11163640795215543140:True:=⟨⟩
theorem tw11182409365896690748:True:=⟨⟩
theorem tw11216676174855996510:True:=⟨⟩
theorem tw11235362797806445759:True:=⟨⟩
theorem tw11260944135879879032:True:=⟨⟩
theorem tw11264439998737844886:True:=⟨⟩
theorem tw11315602717256785286:True:=⟨⟩
theorem tw11340620779340850900:True:=⟨⟩
theorem tw11347295187328504892:True:=⟨⟩
theorem tw11417911891418156579:True:=⟨⟩
theorem tw11428434583620554718:True:=⟨⟩
theorem tw11441555747505025792:True:=⟨⟩
theorem tw11443281822118865911:True:=⟨⟩
theorem tw11467295816754541642:True:=⟨⟩
theorem tw11471907957940043833:True:=⟨⟩
theorem tw11490512178330360164:True:=⟨⟩
theorem tw11492252203323951953:True:=⟨⟩
theorem tw11503633320439065425:True:=⟨⟩
theorem tw11570353109826330991:True:=⟨⟩
theorem tw11570784259740025257:True:=⟨⟩
theorem tw11573308999473628123:True:=⟨⟩
theorem tw11599317553406581709:True:=⟨⟩
theorem tw11603248889332941819:True:=⟨⟩
theorem tw11614721054405800617:True:=⟨⟩
theorem tw11615594741023702190:True:=⟨⟩
theorem tw1164066337930006925:True:=⟨⟩
theorem tw11655485240165554264:True:=⟨⟩
theorem tw11657522476427148285:True:=⟨⟩
theorem tw11681430585598588236:True:=⟨⟩
theorem tw11697249594804998513:True:=⟨⟩
theorem tw11706305161192583708:True:=⟨⟩
theorem tw11740248328851915884:True:=⟨⟩
theorem tw1179068643549024682:True:=⟨⟩
theorem tw11792936954642916859:True:=⟨⟩
theorem tw11861730389905835075:True:=⟨⟩
theorem tw11883115477958834097:True:=⟨⟩
theorem tw11910864278348753197:True:=⟨⟩
theorem tw11924284384232967378:True:=⟨⟩
theorem tw11927769900336778797:True:=⟨⟩
theorem tw11944811715314860676:True:=⟨⟩
theorem tw12006519379754025015:True:=⟨⟩
theorem tw12020740226830249568:True:=⟨⟩
theorem tw120207718945666307:True:=⟨⟩
theorem tw12054865960983265340:True:=⟨⟩
theorem tw12101337401581630016:True:=⟨⟩
theorem tw12132694630348054722:True:=⟨⟩
theorem tw12137312339948769158:True:=⟨⟩
theorem tw12148179949473010957:True:=⟨⟩
theorem tw12173865961167763972:True:=⟨⟩
theorem tw12181879155064754250:True:=⟨⟩
theorem tw12195565579584966513:True:=⟨⟩
theorem tw1219822351710165203:True:=⟨⟩
theorem tw12213878643047492613:True:=⟨⟩
theorem tw12223400258864525057:True:=⟨⟩
theorem tw12309131482360386431:True:=⟨⟩
theorem tw12310666425217335267:True:=⟨⟩
theorem tw12316232065800132188:True:=⟨⟩
theorem tw12356394648232007021:True:=⟨⟩
theorem tw12373889163521071161:True:=⟨⟩
theorem tw12390836817834984731:True:=⟨⟩
theorem tw12411677726274439104:True:=⟨⟩
theorem tw12412298035650853777:True:=⟨⟩
theorem tw1243515268810877468:True:=⟨⟩
theorem tw12451828487641512173:True:=⟨⟩
theorem tw12455778324240596883:True:=⟨⟩
theorem tw12469246608464950369:True:=⟨⟩
theorem tw1248045262784232877:True:=⟨⟩
theorem tw12492116539713232032:True:=⟨⟩
theorem tw12587501768141140481:True:=⟨⟩
theorem tw12588689246154892223:True:=⟨⟩
theorem tw12598975127840130250:True:=⟨⟩
theorem tw12616533397650724902:True:=⟨⟩
theorem tw12675632842407065617:True:=⟨⟩
theorem tw12687703017325153858:True:=⟨⟩
theorem tw12689011595010290379:True:=⟨⟩
theorem tw12728794251655455298:True:=⟨⟩
theorem tw12729343097823836907:True:=⟨⟩
theorem tw12753673181812261371:True:=⟨⟩
theorem tw12771021632468823235:True:=⟨⟩
theorem tw12790839455242033434:True:=⟨⟩
theorem tw12833786364514786957:True:=⟨⟩
theorem tw1284214882938271983:True:=⟨⟩
theorem tw1285166406208490915:True:=⟨⟩
theorem tw12862566689826090141:True:=⟨⟩
theorem tw12887309714238822783:True:=⟨⟩
theorem tw1291092916446479062:True:=⟨⟩
theorem tw12924629906903811866:True:=⟨⟩
theorem tw12935753909812735638:True:=⟨⟩
theorem tw12950260346037089589:True:=⟨⟩
theorem tw1295267119105437797:True:=⟨⟩
theorem tw1295974249228398557:True:=⟨⟩
theorem tw12968615463519145399:True:=⟨⟩
theorem tw12973047540035059149:True:=⟨⟩
theorem tw13003800958116029548:True:=⟨⟩
theorem tw13029175146549770674:True:=⟨⟩
theorem tw13037861416839607656:True:=⟨⟩
theorem tw13046531258530952431:True:=⟨⟩
theorem tw13054487328167567776:True:=⟨⟩
theorem tw13055234417044704915:True:=⟨⟩
theorem tw1307510879107657857:True:=⟨⟩
theorem tw13086477417846696824:True:=⟨⟩
theorem tw13094170912307032372:True:=⟨⟩
theorem tw13095805027645186965:True:=⟨⟩
theorem tw13105200414507438908:True:=⟨⟩
theorem tw13144162462475981702:True:=⟨⟩
theorem tw13153937116668714439:True:=⟨⟩
theorem tw13198617618072688913:True:=⟨⟩
theorem tw132171911474560410:True:=⟨⟩
theorem tw13226835284015730525:True:=⟨⟩
theorem tw13228964440649208842:True:=⟨⟩
theorem tw13246051762826608455:True:=⟨⟩
theorem tw13258723728267000802:True:=⟨⟩
theorem tw13265728867837869305:True:=⟨⟩
theorem tw13268408294198951294:True:=⟨⟩
theorem tw13272903214945911911:True:=⟨⟩
theorem tw13307496415341991111:True:=⟨⟩
theorem tw13311676723724643863:True:=⟨⟩
theorem tw13338432565155778629:True:=⟨⟩
theorem tw13340300124660660961:True:=⟨⟩
theorem tw13352604753199727541:True:=⟨⟩
theorem tw13377539251229431034:True:=⟨⟩
theorem tw13396330887383864925:True:=⟨⟩
theorem tw13426414702719025243:True:=⟨⟩
theorem tw13428330813241728688:True:=⟨⟩
theorem tw13433893050604559965:True:=⟨⟩
theorem tw1345956055926127982:True:=⟨⟩
theorem tw13470721933075039743:True:=⟨⟩
theorem tw13477689818050135694:True:=⟨⟩
theorem tw13511421769076848462:True:=⟨⟩
theorem tw13533533433842039301:True:=⟨⟩
theorem tw13541535606837488949:True:=⟨⟩
theorem tw13546836718160517658:True:=⟨⟩
theorem tw13557476369794670203:True:=⟨⟩
theorem tw13601798912875814554:True:=⟨⟩
theorem tw13610791773709466517:True:=⟨⟩
theorem tw13635218999639357614:True:=⟨⟩
theorem tw13657697633913682379:True:=⟨⟩
theorem tw13659427963853558558:True:=⟨⟩
theorem tw13687512326726514843:True:=⟨⟩
theorem tw13708262471503188373:True:=⟨⟩
theorem tw13723766310650940855:True:=⟨⟩
theorem tw13754298205361211431:True:=⟨⟩
theorem tw13761052622889998078:True:=⟨⟩
theorem tw13833796928279330150:True:=⟨⟩
theorem tw13837796022474114540:True:=⟨⟩
theorem tw1387223644571764949:True:=⟨⟩
theorem tw13903239780196886513:True:=⟨⟩
theorem tw13924149639288740089:True:=⟨⟩
theorem tw13924237146298239719:True:=⟨⟩
theorem tw13950051991115808196:True:=⟨⟩
theorem tw13955171509630999114:True:=⟨⟩
theorem tw13983255093901000409:True:=⟨⟩
theorem tw13988043092413247517:True:=⟨⟩
theorem tw13992475066083994836:True:=⟨⟩
theorem tw14010500998695691432:True:=⟨⟩
theorem tw14041907308946940240:True:=⟨⟩
theorem tw14053646020561797321:True:=⟨⟩
theorem tw14111076580939102088:True:=⟨⟩
theorem tw1411189916014832054:True:=⟨⟩
theorem tw14129982322786126446:True:=⟨⟩
theorem tw14131441077017407973:True:=⟨⟩
theorem tw14161821476144971582:True:=⟨⟩
theorem tw14173997325411349161:True:=⟨⟩
theorem tw1418185985933026060:True:=⟨⟩
theorem tw14212755369642988126:True:=⟨⟩
theorem tw14232820331022431761:True:=⟨⟩
theorem tw14247821691393408683:True:=⟨⟩
theorem tw14281783401354958972:True:=⟨⟩
theorem tw14298479337205547905:True:=⟨⟩
theorem tw14312639068509972102:True:=⟨⟩
theorem tw14323480145250559588:True:=⟨⟩
theorem tw14331503912184398704:True:=⟨⟩
theorem tw1437327918905268249:True:=⟨⟩
theorem tw14375779568968409737:True:=⟨⟩
theorem tw14390202741487275781:True:=⟨⟩
theorem tw14392136895949593303:True:=⟨⟩
theorem tw14405812293492308373:True:=⟨⟩
theorem tw14428214703604609754:True:=⟨⟩
theorem tw14431400628202426278:True:=⟨⟩
theorem tw14510082960941381400:True:=⟨⟩
theorem tw1453287870040744470:True:=⟨⟩
theorem tw14554411718918263902:True:=⟨⟩
theorem tw14554799962441937603:True:=⟨⟩
theorem tw14566037929801257915:True:=⟨⟩
theorem tw14566074231880393957:True:=⟨⟩
theorem tw14616888820699984523:True:=⟨⟩
theorem tw14630694137628459063:True:=⟨⟩
theorem tw14634131565636098688:True:=⟨⟩
theorem tw1464850731032306101:True:=⟨⟩
theorem tw14667419643045291694:True:=⟨⟩
theorem tw14690585519465979659:True:=⟨⟩
theorem tw14701353268062174731:True:=⟨⟩
theorem tw14708137614314687928:True:=⟨⟩
theorem tw14724429693894742118:True:=⟨⟩
theorem tw14728244873939099492:True:=⟨⟩
theorem tw14731572187691314791:True:=⟨⟩
theorem tw14737249591631055838:True:=⟨⟩
theorem tw1474166719109998615:True:=⟨⟩
theorem tw14747445622819531657:True:=⟨⟩
theorem tw14767897274564483851:True:=⟨⟩
theorem tw14815423348222848463:True:=⟨⟩
theorem tw1481625412104093987:True:=⟨⟩
theorem tw14817329699370451380:True:=⟨⟩
theorem tw14842549558391786344:True:=⟨⟩
theorem tw14848229120266769319:True:=⟨⟩
theorem tw14856046801604872209:True:=⟨⟩
theorem tw14867395429409851152:True:=⟨⟩
theorem tw14891930449613605166:True:=⟨⟩
theorem tw14898715286007144917:True:=⟨⟩
theorem tw14902310751885493466:True:=⟨⟩
theorem tw14938590602882399436:True:=⟨⟩
theorem tw14940760324319212647:True:=⟨⟩
theorem tw14983150946632918223:True:=⟨⟩
theorem tw15004342773812777400:True:=⟨⟩
theorem tw150053098158475609:True:=⟨⟩
theorem tw15020146618066192358:True:=⟨⟩
theorem tw15049330183398146536:True:=⟨⟩
theorem tw15059499495777236785:True:=⟨⟩
theorem tw1507062994719021668:True:=⟨⟩
theorem tw15084203585838457413:True:=⟨⟩
theorem tw15086189706720442831:True:=⟨⟩
theorem tw15098914220755435575:True:=⟨⟩
theorem tw15108111845221762422:True:=⟨⟩
theorem tw15114385467623154279:True:=⟨⟩
theorem tw15142248972558425952:True:=⟨⟩
theorem tw15156402234818512942:True:=⟨⟩
theorem tw15214621265991663844:True:=⟨⟩
theorem tw15220226669122264824:True:=⟨⟩
theorem tw15220648830602821394:True:=⟨⟩
theorem tw15228608044166571508:True:=⟨⟩
theorem tw15244531922935165191:True:=⟨⟩
theorem tw15251876950895136392:True:=⟨⟩
theorem tw15256359386472483794:True:=⟨⟩
theorem tw15258513502724891913:True:=⟨⟩
theorem tw15274081145881981750:True:=⟨⟩
theorem tw15287489549716569576:True:=⟨⟩
theorem tw15300488619350004278:True:=⟨⟩
theorem tw1530876037702733405:True:=⟨⟩
theorem tw15334251580966428418:True:=⟨⟩
theorem tw15353436209489147691:True:=⟨⟩
theorem tw15383829306184534340:True:=⟨⟩
theorem tw15396949922862278537:True:=⟨⟩
theorem tw15435146034401941616:True:=⟨⟩
theorem tw15458249161473233922:True:=⟨⟩
theorem tw1545825754517406664:True:=⟨⟩
theorem tw15465124903593083855:True:=⟨⟩
theorem tw1546527607375596932:True:=⟨⟩
theorem tw15485395879196069856:True:=⟨⟩
theorem tw1548731448700187530:True:=⟨⟩
theorem tw15499663996053424459:True:=⟨⟩
theorem tw15501036100673382818:True:=⟨⟩
theorem tw15532086648175299059:True:=⟨⟩
theorem tw15595644870249187935:True:=⟨⟩
theorem tw15618830572803893840:True:=⟨⟩
theorem tw1562543587655535673:True:=⟨⟩
theorem tw15632831804173378355:True:=⟨⟩
theorem tw15633297099018838930:True:=⟨⟩
theorem tw15661751204390704631:True:=⟨⟩
theorem tw15683649677010167661:True:=⟨⟩
theorem tw15700195531587365649:True:=⟨⟩
theorem tw15718744840728986058:True:=⟨⟩
theorem tw15721811796084054617:True:=⟨⟩
theorem tw15757423783416512638:True:=⟨⟩
theorem tw15771520984085283191:True:=⟨⟩
theorem tw15800099129855035028:True:=⟨⟩
theorem tw15847317794126362507:True:=⟨⟩
theorem tw15878817728470954288:True:=⟨⟩
theorem tw15888553604453881574:True:=⟨⟩
theorem tw15898422240954396776:True:=⟨⟩
theorem tw15913403275904547217:True:=⟨⟩
theorem tw15929215060315213803:True:=⟨⟩
theorem tw15935274171072041380:True:=⟨⟩
theorem tw15938981440498851689:True:=⟨⟩
theorem tw15975074312148780805:True:=⟨⟩
theorem tw15985959090327009010:True:=⟨⟩
theorem tw160398235695964060:True:=⟨⟩
theorem tw16047643389609203710:True:=⟨⟩
theorem tw16047712674404178036:True:=⟨⟩
theorem tw16064340075562120907:True:=⟨⟩
theorem tw16077894396679582767:True:=⟨⟩
theorem tw16083174175539153935:True:=⟨⟩
theorem tw16090651027401579881:True:=⟨⟩
theorem tw16119495875964120918:True:=⟨⟩
theorem tw16122586231092297281:True:=⟨⟩
theorem tw16130196220759554781:True:=⟨⟩
theorem tw16165851768290735640:True:=⟨⟩
theorem tw16175272939222536175:True:=⟨⟩
theorem tw16193715171273812945:True:=⟨⟩
theorem tw16238287005251886816:True:=⟨⟩
theorem tw16298897055591548190:True:=⟨⟩
theorem tw16306220311869467056:True:=⟨⟩
theorem tw16337000713703525844:True:=⟨⟩
theorem tw16358638760833129948:True:=⟨⟩
theorem tw1636352038005575841:True:=⟨⟩
theorem tw16365782796831599842:True:=⟨⟩
theorem tw1636911846577755359:True:=⟨⟩
theorem tw16381555162586204657:True:=⟨⟩
theorem tw16391299160996511662:True:=⟨⟩
theorem tw1639835612266777262:True:=⟨⟩
theorem tw16405883257428084316:True:=⟨⟩
theorem tw16484105350440928053:True:=⟨⟩
theorem tw16487051681575033761:True:=⟨⟩
theorem tw16487156639082679236:True:=⟨⟩
theorem tw16521412462848093655:True:=⟨⟩
theorem tw165786432986932676:True:=⟨⟩
theorem tw16584869899881593380:True:=⟨⟩
theorem tw16610754007060937217:True:=⟨⟩
theorem tw16663425101646810477:True:=⟨⟩
theorem tw16664361890201544108:True:=⟨⟩
theorem tw16685156278870896071:True:=⟨⟩
theorem tw16691001851518045387:True:=⟨⟩
theorem tw16778269564144861423:True:=⟨⟩
theorem tw16793732348704374816:True:=⟨⟩
theorem tw16795977485460136337:True:=⟨⟩
theorem tw16811508739746710057:True:=⟨⟩
theorem tw16857869789115306499:True:=⟨⟩
theorem tw16880295188039612722:True:=⟨⟩
theorem tw16910411621975712124:True:=⟨⟩
theorem tw16928252520682204102:True:=⟨⟩
theorem tw16969414889759923314:True:=⟨⟩
theorem tw16973360475379675550:True:=⟨⟩
theorem tw16973397430791323871:True:=⟨⟩
theorem tw16987134892215345486:True:=⟨⟩
theorem tw17016450397905708683:True:=⟨⟩
theorem tw17035507142125062435:True:=⟨⟩
theorem tw17036991140048778398:True:=⟨⟩
theorem tw17044704816108729140:True:=⟨⟩
theorem tw17057865884450078697:True:=⟨⟩
theorem tw17104717255438928806:True:=⟨⟩
theorem tw17140609368508314025:True:=⟨⟩
theorem tw17154158871245691436:True:=⟨⟩
theorem tw1716958500097066178:True:=⟨⟩
theorem tw17175657660106504026:True:=⟨⟩
theorem tw17177322014906177413:True:=⟨⟩
theorem tw17192970984369238803:True:=⟨⟩
theorem tw17221465347438112690:True:=⟨⟩
theorem tw17224309048581670218:True:=⟨⟩
theorem tw17239112429193967495:True:=⟨⟩
theorem tw17259732385433236883:True:=⟨⟩
theorem tw172706671566569475:True:=⟨⟩
theorem tw17279340053159107312:True:=⟨⟩
theorem tw17287800131419007613:True:=⟨⟩
theorem tw17295124081756806454:True:=⟨⟩
theorem tw17363950736149507460:True:=⟨⟩
theorem tw1736533587995627848:True:=⟨⟩
theorem tw17369686041334219728:True:=⟨⟩
theorem tw17373470218739240876:True:=⟨⟩
theorem tw17374180436319241251:True:=⟨⟩
theorem tw17374402085386379322:True:=⟨⟩
theorem tw173876909762318955:True:=⟨⟩
theorem tw17401160150324574987:True:=⟨⟩
theorem tw17414864722445785488:True:=⟨⟩
theorem tw17464116124761027108:True:=⟨⟩
theorem tw17519155116468155920:True:=⟨⟩
theorem tw17549519763363594804:True:=⟨⟩
theorem tw17567884471857490349:True:=⟨⟩
theorem tw17620252263541670495:True:=⟨⟩
theorem tw17656708012761496307:True:=⟨⟩
theorem tw17672645571107571297:True:=⟨⟩
theorem tw17685430188217981198:True:=⟨⟩
theorem tw17687664318774037706:True:=⟨⟩
theorem tw17698731445691257861:True:=⟨⟩
theorem tw17723498655632433199:True:=⟨⟩
theorem tw17729509063572655074:True:=⟨⟩
theorem tw17772308608214288773:True:=⟨⟩
theorem tw17775599863153524083:True:=⟨⟩
theorem tw17803954433253371389:True:=⟨⟩
theorem tw17809426794574243878:True:=⟨⟩
theorem tw17817531399248442128:True:=⟨⟩
theorem tw17820390739855203201:True:=⟨⟩
theorem tw17821304507541523356:True:=⟨⟩
theorem tw17839770449441208837:True:=⟨⟩
theorem tw17857190202300431948:True:=⟨⟩
theorem tw17864114845348320079:True:=⟨⟩
theorem tw17927253622356557170:True:=⟨⟩
theorem tw17939156277426026752:True:=⟨⟩
theorem tw17949220182858263201:True:=⟨⟩
theorem tw17972792662898715785:True:=⟨⟩
theorem tw18002037032095075849:True:=⟨⟩
theorem tw18063036875567792096:True:=⟨⟩
theorem tw1807745142522761675:True:=⟨⟩
theorem tw18084183917696528480:True:=⟨⟩
theorem tw18086868767243925193:True:=⟨⟩
theorem tw18126525456857330296:True:=⟨⟩
theorem tw1816314645940346941:True:=⟨⟩
theorem tw18183633972549237289:True:=⟨⟩
theorem tw18188368471716026648:True:=⟨⟩
theorem tw18196406335018339022:True:=⟨⟩
theorem tw18201540699649363732:True:=⟨⟩
theorem tw18209404699376586143:True:=⟨⟩
theorem tw18219019639304149455:True:=⟨⟩
theorem tw18230643946634777360:True:=⟨⟩
theorem tw18256413723384911476:True:=⟨⟩
theorem tw18283034607313794151:True:=⟨⟩
theorem tw18316096692443596783:True:=⟨⟩
theorem tw18336910535117160954:True:=⟨⟩
theorem tw18352141696029818998:True:=⟨⟩
theorem tw18353014164483796241:True:=⟨⟩
theorem tw183530313011572024:True:=⟨⟩
theorem tw18359557231969674935:True:=⟨⟩
theorem tw18369940682598326550:True:=⟨⟩
theorem tw1846967998897419080:True:=⟨⟩
theorem tw1868618133347276219:True:=⟨⟩
theorem tw1874934501327592223:True:=⟨⟩
theorem tw1887908127524890462:True:=⟨⟩
theorem tw189646573096083417:True:=⟨⟩
theorem tw1934279116585186773:True:=⟨⟩
theorem tw1960798592576942788:True:=⟨⟩
theorem tw2018920871579412462:True:=⟨⟩
theorem tw2039785728866850181:True:=⟨⟩
theorem tw2095302508292885975:True:=⟨⟩
theorem tw2102574152006485633:True:=⟨⟩
theorem tw211919308956029745:True:=⟨⟩
theorem tw2132916727846372637:True:=⟨⟩
theorem tw2146141260201299189:True:=⟨⟩
theorem tw215712182405513832:True:=⟨⟩
theorem tw2164634138118078805:True:=⟨⟩
theorem tw216504388425146211:True:=⟨⟩
theorem tw2169890372065966202:True:=⟨⟩
theorem tw2217821651282839105:True:=⟨⟩
theorem tw2220452693428602064:True:=⟨⟩
theorem tw2256733263345570968:True:=⟨⟩
theorem tw2293853212974788847:True:=⟨⟩
theorem tw2309046791177842644:True:=⟨⟩
theorem tw2310230018416391917:True:=⟨⟩
theorem tw2324964890560271782:True:=⟨⟩
theorem tw2362607944806609161:True:=⟨⟩
theorem tw2392959962326699241:True:=⟨⟩
theorem tw2394927039674269921:True:=⟨⟩
theorem tw2401865221335864553:True:=⟨⟩
theorem tw241486782936308280:True:=⟨⟩
theorem tw2418425360529047648:True:=⟨⟩
theorem tw2438797688870588265:True:=⟨⟩
theorem tw2440489064608517492:True:=⟨⟩
theorem tw2448028880758454455:True:=⟨⟩
theorem tw2475242054871670594:True:=⟨⟩
theorem tw2484086875577023643:True:=⟨⟩
theorem tw2531039726943510795:True:=⟨⟩
theorem tw2541416304620967578:True:=⟨⟩
theorem tw2551227862146954594:True:=⟨⟩
theorem tw255832840116802541:True:=⟨⟩
theorem tw2563216982486233659:True:=⟨⟩
theorem tw2584767616617109620:True:=⟨⟩
theorem tw259297713569887534:True:=⟨⟩
theorem tw2609458934451467948:True:=⟨⟩
theorem tw2632066632206480259:True:=⟨⟩
theorem tw2658057074503877329:True:=⟨⟩
theorem tw2662867288381815705:True:=⟨⟩
theorem tw2666947713546970082:True:=⟨⟩
theorem tw2686983242988516575:True:=⟨⟩
theorem tw2687505321747032548:True:=⟨⟩
theorem tw2689075114550564810:True:=⟨⟩
theorem tw2711383426057528351:True:=⟨⟩
theorem tw2737036053467350765:True:=⟨⟩
theorem tw2738619643536814332:True:=⟨⟩
theorem tw2739313372557707604:True:=⟨⟩
theorem tw2742863951317042212:True:=⟨⟩
theorem tw2762483903880830212:True:=⟨⟩
theorem tw2773711004334038974:True:=⟨⟩
theorem tw2837814656853896573:True:=⟨⟩
theorem tw2846505465827609600:True:=⟨⟩
theorem tw2865415039346662692:True:=⟨⟩
theorem tw2889227819230300322:True:=⟨⟩
theorem tw2950938056716369567:True:=⟨⟩
theorem tw295447206323212875:True:=⟨⟩
theorem tw2978842130361460811:True:=⟨⟩
theorem tw300016866301213727:True:=⟨⟩
theorem tw3009829433596905762:True:=⟨⟩
theorem tw3021153478039491307:True:=⟨⟩
theorem tw302120209539113044:True:=⟨⟩
theorem tw3023526447104833459:True:=⟨⟩
theorem tw3029388456013852177:True:=⟨⟩
theorem tw3043564138185175113:True:=⟨⟩
theorem tw3069969152872263840:True:=⟨⟩
theorem tw3078751782295875052:True:=⟨⟩
theorem tw3104384958846646969:True:=⟨⟩
theorem tw310592050289741734:True:=⟨⟩
theorem tw3107991789055095256:True:=⟨⟩
theorem tw3125658221317522834:True:=⟨⟩
theorem tw3127196181693879838:True:=⟨⟩
theorem tw3129491507305787649:True:=⟨⟩
theorem tw3131237388404587441:True:=⟨⟩
theorem tw3140425135057056197:True:=⟨⟩
theorem tw3143847132498412247:True:=⟨⟩
theorem tw3185212408170784819:True:=⟨⟩
theorem tw3186813220298445944:True:=⟨⟩
theorem tw3189830807688075924:True:=⟨⟩
theorem tw3190447779109822268:True:=⟨⟩
theorem tw3202530737135028822:True:=⟨⟩
theorem tw3206527508209714378:True:=⟨⟩
theorem tw3213920132759191135:True:=⟨⟩
theorem tw322083350881194798:True:=⟨⟩
theorem tw3244592555571858286:True:=⟨⟩
theorem tw326588416049994311:True:=⟨⟩
theorem tw3269504921564026495:True:=⟨⟩
theorem tw3319903992724163467:True:=⟨⟩
theorem tw3341872664110906878:True:=⟨⟩
theorem tw3359086202141734873:True:=⟨⟩
theorem tw3376382524792525458:True:=⟨⟩
theorem tw3412687384662558541:True:=⟨⟩
theorem tw3434003758388132677:True:=⟨⟩
theorem tw3446822686658281659:True:=⟨⟩
theorem tw3456391865892788987:True:=⟨⟩
theorem tw3465373454200897613:True:=⟨⟩
theorem tw3491185731872464501:True:=⟨⟩
theorem tw3503936506735931723:True:=⟨⟩
theorem tw3508530904667383167:True:=⟨⟩
theorem tw3539156282979246345:True:=⟨⟩
theorem tw3541634110896704514:True:=⟨⟩
theorem tw3561286593608909574:True:=⟨⟩
theorem tw3572960671919708148:True:=⟨⟩
theorem tw3576783840474870750:True:=⟨⟩
theorem tw3581504576131694038:True:=⟨⟩
theorem tw3605893891089744241:True:=⟨⟩
theorem tw3618165240432816551:True:=⟨⟩
theorem tw3622292312503664169:True:=⟨⟩
theorem tw363478988186915510:True:=⟨⟩
theorem tw3645838177076163405:True:=⟨⟩
theorem tw3658423229056964650:True:=⟨⟩
theorem tw3673063889113827966:True:=⟨⟩
theorem tw3696412546596845751:True:=⟨⟩
theorem tw369931128862612081:True:=⟨⟩
theorem tw371598165521868342:True:=⟨⟩
theorem tw3722492922266475890:True:=⟨⟩
theorem tw3727918532104354780:True:=⟨⟩
theorem tw3739120004759398579:True:=⟨⟩
theorem tw3740917775156990380:True:=⟨⟩
theorem tw3779947954473810313:True:=⟨⟩
theorem tw380308291395949099:True:=⟨⟩
theorem tw3811538795970875605:True:=⟨⟩
theorem tw3816128623045164563:True:=⟨⟩
theorem tw3844606402093248652:True:=⟨⟩
theorem tw3866214357521244657:True:=⟨⟩
theorem tw3877381331781156646:True:=⟨⟩
theorem tw3877908099695062782:True:=⟨⟩
theorem tw3923483509245010220:True:=⟨⟩
theorem tw3973640008990703398:True:=⟨⟩
theorem tw400126008704498704:True:=⟨⟩
theorem tw401840651284302201:True:=⟨⟩
theorem tw4022809771995316883:True:=⟨⟩
theorem tw4067327018149845639:True:=⟨⟩
theorem tw4104099136844515733:True:=⟨⟩
theorem tw4123092206196288237:True:=⟨⟩
theorem tw4125214735961245625:True:=⟨⟩
theorem tw4130997225786485646:True:=⟨⟩
theorem tw4144994737865751933:True:=⟨⟩
theorem tw4148655013261759073:True:=⟨⟩
theorem tw415899818521779901:True:=⟨⟩
theorem tw4200829170005949978:True:=⟨⟩
theorem tw4213439231799063831:True:=⟨⟩
theorem tw4240794430747349603:True:=⟨⟩
theorem tw4255109008343461547:True:=⟨⟩
theorem tw4287172721184523420:True:=⟨⟩
theorem tw4307177052210345952:True:=⟨⟩
theorem tw4318466471941558119:True:=⟨⟩
theorem tw4323740540024237947:True:=⟨⟩
theorem tw4362515919740405997:True:=⟨⟩
theorem tw4372451936281514445:True:=⟨⟩
theorem tw4422973918503103174:True:=⟨⟩
theorem tw444364980003671574:True:=⟨⟩
theorem tw4460716129899141352:True:=⟨⟩
theorem tw4515487984155471226:True:=⟨⟩
theorem tw4550981769258478358:True:=⟨⟩
theorem tw4555483595829184358:True:=⟨⟩
theorem tw4563326247532143104:True:=⟨⟩
theorem tw4603332660791259279:True:=⟨⟩
theorem tw4604042795442198803:True:=⟨⟩
theorem tw4615554508151282352:True:=⟨⟩
theorem tw462851855900141507:True:=⟨⟩
theorem tw4648376122753342271:True:=⟨⟩
theorem tw4658781117075619688:True:=⟨⟩
theorem tw4659064134559099667:True:=⟨⟩
theorem tw4680780148346814577:True:=⟨⟩
theorem tw4685686355697387298:True:=⟨⟩
theorem tw4707699405087788558:True:=⟨⟩
theorem tw4730790238566030136:True:=⟨⟩
theorem tw4798521181774594019:True:=⟨⟩
theorem tw4825762288107476529:True:=⟨⟩
theorem tw4906876315434240884:True:=⟨⟩
theorem tw4920235832576090514:True:=⟨⟩
theorem tw4950733810585662602:True:=⟨⟩
theorem tw4960256262521831885:True:=⟨⟩
theorem tw4962050663307413786:True:=⟨⟩
theorem tw4967005500689931991:True:=⟨⟩
theorem tw4968059911234117187:True:=⟨⟩
theorem tw4970939114189465713:True:=⟨⟩
theorem tw5002896556895075738:True:=⟨⟩
theorem tw5005061781224576038:True:=⟨⟩
theorem tw502237165911714678:True:=⟨⟩
theorem tw502426029327052607:True:=⟨⟩
theorem tw502600205601977856:True:=⟨⟩
theorem tw5030101958851167301:True:=⟨⟩
theorem tw5059632242060013584:True:=⟨⟩
theorem tw5061256520137738734:True:=⟨⟩
theorem tw5069279813248481262:True:=⟨⟩
theorem tw5103427878558179531:True:=⟨⟩
theorem tw5144437381222181312:True:=⟨⟩
theorem tw5160090758626875619:True:=⟨⟩
theorem tw5183812923685097790:True:=⟨⟩
theorem tw5184263868189888139:True:=⟨⟩
theorem tw518451465381236234:True:=⟨⟩
theorem tw5226358932374594040:True:=⟨⟩
theorem tw5228772740389657538:True:=⟨⟩
theorem tw5238196865335847343:True:=⟨⟩
theorem tw5248451064331670018:True:=⟨⟩
theorem tw5258772787089250782:True:=⟨⟩
theorem tw5265777465463688641:True:=⟨⟩
theorem tw5324674344267109586:True:=⟨⟩
theorem tw5341644905663423136:True:=⟨⟩
theorem tw5352322588430360863:True:=⟨⟩
theorem tw5383978252718155774:True:=⟨⟩
theorem tw5391140915269072868:True:=⟨⟩
theorem tw5430887797917297953:True:=⟨⟩
theorem tw5441205180360317154:True:=⟨⟩
theorem tw5452822899951505398:True:=⟨⟩
theorem tw5463399047421838585:True:=⟨⟩
theorem tw548932278149601181:True:=⟨⟩
theorem tw5524374168390740597:True:=⟨⟩
theorem tw556827101192569371:True:=⟨⟩
theorem tw558359569050157749:True:=⟨⟩
theorem tw5584390497471472125:True:=⟨⟩
theorem tw5600127856449142386:True:=⟨⟩
theorem tw5605906048016212762:True:=⟨⟩
theorem tw5625569169012168364:True:=⟨⟩
theorem tw5626508514091131939:True:=⟨⟩
theorem tw5629899275729353635:True:=⟨⟩
theorem tw5691583550163145846:True:=⟨⟩
theorem tw5702378018800695704:True:=⟨⟩
theorem tw5721566173296020330:True:=⟨⟩
theorem tw5744849630035753761:True:=⟨⟩
theorem tw5747017537698341625:True:=⟨⟩
theorem tw5756452211576455133:True:=⟨⟩
theorem tw5769231109942812291:True:=⟨⟩
theorem tw5770234994297007848:True:=⟨⟩
theorem tw5773670439211439133:True:=⟨⟩
theorem tw5783663066113398151:True:=⟨⟩
theorem tw5784854556174952182:True:=⟨⟩
theorem tw579994090220185216:True:=⟨⟩
theorem tw5800280198179805292:True:=⟨⟩
theorem tw5868055235108680679:True:=⟨⟩
theorem tw5921991933711341081:True:=⟨⟩
theorem tw5939637742500843740:True:=⟨⟩
theorem tw6002182128879692268:True:=⟨⟩
theorem tw6017506206248484758:True:=⟨⟩
theorem tw6075946895626361487:True:=⟨⟩
theorem tw6154316087441075896:True:=⟨⟩
theorem tw6158393859757266084:True:=⟨⟩
theorem tw6200405224581020164:True:=⟨⟩
theorem tw620045090646794483:True:=⟨⟩
theorem tw6203065809217833857:True:=⟨⟩
theorem tw6220268861109484550:True:=⟨⟩
theorem tw6245607380269730175:True:=⟨⟩
theorem tw6299693010983273401:True:=⟨⟩
theorem tw6311994539779385721:True:=⟨⟩
theorem tw631961565475770825:True:=⟨⟩
theorem tw6328305110990695137:True:=⟨⟩
theorem tw6330337044613749401:True:=⟨⟩
theorem tw633261090417190146:True:=⟨⟩
theorem tw63463950689182354:True:=⟨⟩
theorem tw6356012868381414064:True:=⟨⟩
theorem tw635919523093097829:True:=⟨⟩
theorem tw6384474145534916998:True:=⟨⟩
theorem tw6393759127273139476:True:=⟨⟩
theorem tw6394416546882506208:True:=⟨⟩
theorem tw6427481272065380569:True:=⟨⟩
theorem tw6440345603625691888:True:=⟨⟩
theorem tw6453676412351482699:True:=⟨⟩
theorem tw6455956063477863373:True:=⟨⟩
theorem tw648474379090140108:True:=⟨⟩
theorem tw6518088838355241123:True:=⟨⟩
theorem tw6530516768963657892:True:=⟨⟩
theorem tw6560323279748775464:True:=⟨⟩
theorem tw6580751480878537307:True:=⟨⟩
theorem tw6588678033715688152:True:=⟨⟩
theorem tw660567883964327644:True:=⟨⟩
theorem tw6645615431373836467:True:=⟨⟩
theorem tw6662280359497328571:True:=⟨⟩
theorem tw6672724891626857019:True:=⟨⟩
theorem tw667305802041366949:True:=⟨⟩
theorem tw6676466232042968550:True:=⟨⟩
theorem tw6706849698323061087:True:=⟨⟩
theorem tw6744217635090463007:True:=⟨⟩
theorem tw676431213680542388:True:=⟨⟩
theorem tw6792259620559401207:True:=⟨⟩
theorem tw6800049584056239589:True:=⟨⟩
theorem tw6831562491259901106:True:=⟨⟩
theorem tw6841185533495092181:True:=⟨⟩
theorem tw6879113724700614730:True:=⟨⟩
theorem tw6916433234647749937:True:=⟨⟩
theorem tw695336599013058597:True:=⟨⟩
theorem tw6959978884566754414:True:=⟨⟩
theorem tw696968677782723047:True:=⟨⟩
theorem tw6984473342750821243:True:=⟨⟩
theorem tw6989048074304410669:True:=⟨⟩
theorem tw7006521349068271277:True:=⟨⟩
theorem tw7044109585825217884:True:=⟨⟩
theorem tw7045140741599372470:True:=⟨⟩
theorem tw7047574597704921438:True:=⟨⟩
theorem tw7062036822715262861:True:=⟨⟩
theorem tw7064105355429098970:True:=⟨⟩
theorem tw7103472608183542462:True:=⟨⟩
theorem tw710349336670620526:True:=⟨⟩
theorem tw7141711785165562675:True:=⟨⟩
theorem tw7177079939361762500:True:=⟨⟩
theorem tw7218214380750055386:True:=⟨⟩
theorem tw7222527258560651455:True:=⟨⟩
theorem tw724300134160458939:True:=⟨⟩
theorem tw7282409125727102276:True:=⟨⟩
theorem tw7294661561398459713:True:=⟨⟩
theorem tw7306718816829041826:True:=⟨⟩
theorem tw7307506063686265859:True:=⟨⟩
theorem tw7344165719900707511:True:=⟨⟩
theorem tw7352799141135360430:True:=⟨⟩
theorem tw7358563386110280370:True:=⟨⟩
theorem tw7410732559765003058:True:=⟨⟩
theorem tw7474200409142764024:True:=⟨⟩
theorem tw7476784966740581099:True:=⟨⟩
theorem tw7485934146665134465:True:=⟨⟩
theorem tw750120879197877229:True:=⟨⟩
theorem tw7502951135522631484:True:=⟨⟩
theorem tw7515982457628387325:True:=⟨⟩
theorem tw7516673060743038024:True:=⟨⟩
theorem tw7528491109917447080:True:=⟨⟩
theorem tw7530396003577980152:True:=⟨⟩
theorem tw7542899514293057307:True:=⟨⟩
theorem tw7600515589205584216:True:=⟨⟩
theorem tw7601412464406129809:True:=⟨⟩
theorem tw7662325521335282559:True:=⟨⟩
theorem tw7715425479693127628:True:=⟨⟩
theorem tw7756494303169789907:True:=⟨⟩
theorem tw7763931807937493278:True:=⟨⟩
theorem tw7774654592897186780:True:=⟨⟩
theorem tw7774785548897138879:True:=⟨⟩
theorem tw778333265849635036:True:=⟨⟩
theorem tw7832319793970245375:True:=⟨⟩
theorem tw7832661554367744126:True:=⟨⟩
theorem tw7852792977923487817:True:=⟨⟩
theorem tw7873430203977734829:True:=⟨⟩
theorem tw7889724278839840810:True:=⟨⟩
theorem tw7911029012151701853:True:=⟨⟩
theorem tw7913955968194399500:True:=⟨⟩
theorem tw7915240277707176700:True:=⟨⟩
theorem tw7957101317974832173:True:=⟨⟩
theorem tw7967252552195031041:True:=⟨⟩
theorem tw8030921928812584759:True:=⟨⟩
theorem tw8035044460334012505:True:=⟨⟩
theorem tw8038537263671382951:True:=⟨⟩
theorem tw8059147664328248845:True:=⟨⟩
theorem tw8074320072320009890:True:=⟨⟩
theorem tw8107922877527446818:True:=⟨⟩
theorem tw8131066161701391631:True:=⟨⟩
theorem tw8131830444673480690:True:=⟨⟩
theorem tw8140173642174916:True:=⟨⟩
theorem tw8175333033633513390:True:=⟨⟩
theorem tw8202212473281670138:True:=⟨⟩
theorem tw8237238469484221531:True:=⟨⟩
theorem tw8257997029694943167:True:=⟨⟩
theorem tw8261504672869046747:True:=⟨⟩
theorem tw8263589697464875018:True:=⟨⟩
theorem tw8273881374672685109:True:=⟨⟩
theorem tw8289774058335475513:True:=⟨⟩
theorem tw8329442260709899569:True:=⟨⟩
theorem tw833904942534649065:True:=⟨⟩
theorem tw8340041840149001397:True:=⟨⟩
theorem tw8353712461977737298:True:=⟨⟩
theorem tw8356198924561171503:True:=⟨⟩
theorem tw8367768168554536662:True:=⟨⟩
theorem tw8397754224637202159:True:=⟨⟩
theorem tw8436344366529627759:True:=⟨⟩
theorem tw8442952229010101169:True:=⟨⟩
theorem tw8454125694140061691:True:=⟨⟩
theorem tw8478442548827781952:True:=⟨⟩
theorem tw8478794825581459665:True:=⟨⟩
theorem tw8504913212318884340:True:=⟨⟩
theorem tw8513437641773393373:True:=⟨⟩
theorem tw8528151397690296360:True:=⟨⟩
theorem tw8537514398815943971:True:=⟨⟩
theorem tw8538278706171859076:True:=⟨⟩
theorem tw8560863031712902325:True:=⟨⟩
theorem tw85652509929901283:True:=⟨⟩
theorem tw8571044034471299286:True:=⟨⟩
theorem tw8575890021138121553:True:=⟨⟩
theorem tw8591240926034865837:True:=⟨⟩
theorem tw8620611318921915344:True:=⟨⟩
theorem tw8669315929894790954:True:=⟨⟩
theorem tw867735433910753796:True:=⟨⟩
theorem tw8681191846200455619:True:=⟨⟩
theorem tw8725281382354802642:True:=⟨⟩
theorem tw8764913437091924481:True:=⟨⟩
theorem tw8807559113099378674:True:=⟨⟩
theorem tw8812188026893510687:True:=⟨⟩
theorem tw8832205031302511256:True:=⟨⟩
theorem tw885545250104309222:True:=⟨⟩
theorem tw8883795896124615120:True:=⟨⟩
theorem tw8886215118631601086:True:=⟨⟩
theorem tw8903083584336384884:True:=⟨⟩
theorem tw8915704610639390809:True:=⟨⟩
theorem tw8920875024222808943:True:=⟨⟩
theorem tw8921657369352437194:True:=⟨⟩
theorem tw8957314940071901510:True:=⟨⟩
theorem tw8990314647820945972:True:=⟨⟩
theorem tw9037896229898853377:True:=⟨⟩
theorem tw9047238121644086977:True:=⟨⟩
theorem tw9069486834102590586:True:=⟨⟩
theorem tw9077210192267427710:True:=⟨⟩
theorem tw9110055519471155112:True:=⟨⟩
theorem tw9111115136861204650:True:=⟨⟩
theorem tw9112655627556847832:True:=⟨⟩
theorem tw9122372542764240280:True:=⟨⟩
theorem tw912283625938113837:True:=⟨⟩
theorem tw9135667095368814016:True:=⟨⟩
theorem tw9174405645965635191:True:=⟨⟩
theorem tw9206497912325084800:True:=⟨⟩
theorem tw921544813654063253:True:=⟨⟩
theorem tw9228191528271847879:True:=⟨⟩
theorem tw927917537783257617:True:=⟨⟩
theorem tw9286177784246624854:True:=⟨⟩
theorem tw9298628758099080553:True:=⟨⟩
theorem tw9298932566161707783:True:=⟨⟩
theorem tw929994138776212767:True:=⟨⟩
theorem tw9306783085286833404:True:=⟨⟩
theorem tw9309659994668711712:True:=⟨⟩
theorem tw935018945518716195:True:=⟨⟩
theorem tw9361425438764512013:True:=⟨⟩
theorem tw9416898273337315998:True:=⟨⟩
theorem tw9428563488636769319:True:=⟨⟩
theorem tw950222743662626648:True:=⟨⟩
theorem tw9509074626684086218:True:=⟨⟩
theorem tw9520997009318660859:True:=⟨⟩
theorem tw9527567609017507219:True:=⟨⟩
theorem tw9534451691429786329:True:=⟨⟩
theorem tw9534495694162777234:True:=⟨⟩
theorem tw9536167976693547608:True:=⟨⟩
theorem tw9550135398924477917:True:=⟨⟩
theorem tw9570318076406775235:True:=⟨⟩
theorem tw9615126212299507236:True:=⟨⟩
theorem tw9642707571727189198:True:=⟨⟩
theorem tw9682072452687128740:True:=⟨⟩
theorem tw9717830822405096540:True:=⟨⟩
theorem tw9728715370460427844:True:=⟨⟩
theorem tw9732135820099475408:True:=⟨⟩
theorem tw9737120111639457281:True:=⟨⟩
theorem tw9747643683815535381:True:=⟨⟩
theorem tw9758494239141880363:True:=⟨⟩
theorem tw9781264998813435326:True:=⟨⟩
theorem tw9781736979830686499:True:=⟨⟩
theorem tw9785150055629555499:True:=⟨⟩
theorem tw9790590001645142349:True:=⟨⟩
theorem tw9807608004478252366:True:=⟨⟩
theorem tw9824773891037791841:True:=⟨⟩
theorem tw9832907572202510018:True:=⟨⟩
theorem tw9841660714173931281:True:=⟨⟩
theorem tw9943366302347490710:True:=⟨⟩
theorem tw9956365279138529685:True:=⟨⟩
theorem tw9957821736044271333:True:=⟨⟩
theorem tw9964086413122016274:True:=⟨⟩
theorem tw998257164874464586:True:=⟨⟩
end Mi.top
open PySem PySem.W PyProof.Rows
set_option Elab.async true
set_option maxRecDepth 1000000 in
set_option maxHeartbeats 0 in
theorem Mi.top : PySem.Challenge.rw_nn0169_01.Holds := by
  w_on; o_law; k_head; (case hw => w_witness2)
  k_go0
  have hg := ‹_ = (#[] : Array GenState)›
  refine Mi.join ‹Frag.In _ _› ‹Top _ _ _ _ _ _› (by kernel_rfl) (fun ro => ?_) ‹Heap.IsList _ _ _› ‹IntsAre _ _› (by omega) (by kernel_rfl) (Mi.locB_ok (by kernel_rfl)) (of_decide_eq_true (by kernel_rfl)) (by kernel_rfl) ‹Fr _ _ _ _› (by kernel_rfl) ‹News _ _ _ _› ‹CellsAre _ _ _› fun s' h1 h2 h3 => Mi.good_law h1 h2 (h3.trans hg)
  refine ⟨?_, ?_, ?_, ?_, ?_, ?_, by kernel_rfl, by kernel_rfl, by constructor <;> kernel_rfl⟩
  · exact Mi.fnAll (by kernel_rfl) (by kernel_rfl) (by kernel_rfl) (by kernel_rfl)
  · exact Mi.allB (by kernel_rfl)
  · exact Mi.allB (by kernel_rfl)
  · show ∀ q ∈ [_, _, _, _], _
    refine Mi.fc ⟨by kernel_rfl, .inl ⟨_, rfl, .tup rfl ?_⟩⟩ (Mi.fc ⟨by kernel_rfl, .inl ⟨_, rfl, .tup rfl ?_⟩⟩ (Mi.fc ⟨by kernel_rfl, .inl ⟨_, rfl, .tup rfl ?_⟩⟩ (Mi.fc ⟨by kernel_rfl, .inl ⟨_, rfl, .tup rfl ?_⟩⟩ Mi.fnil))) <;>
      (repeat' first | exact Mi.VRs.nil | refine Mi.VRs.cons (.int _ _) ?_ | refine Mi.VRs.cons (Mi.vstr rfl) ?_)
  · exact Mi.allB (by kernel_rfl)
  · exact Mi.allB (by kernel_rfl)
theorem PySem.Challenge.cw_nn0169_01_holds : PySem.Challenge.rw_nn0169_01.Holds := by
  exact Mi.top
