import PyProof.Rows.All
import Wide.All
import OpenK.AllK
import Wide.FinOn
import Lean
import PySem.Challenge.RW_qd0130_01
set_option Elab.async false
set_option maxRecDepth 100000
set_option maxHeartbeats 8000000
set_option linter.all false
set_option compiler.extract_closed false
set_option genSizeOf false
set_option genInjectivity false
section
open PySem PySem.W PyProof.Rows
namespace Mine
section
local macro_rules | `(tactic| o_head $_:term) => `(tactic| exact (‹∀ P : Prop, P› _))
theorem wrt (hole : ∀ P : Prop, P) : PySem.Challenge.rw_qd0130_01.row.Holds := by
  k_head
end
end Mine
end
section
open PySem PySem.W PyProof.Rows PySem.Spec PySem.Calls
namespace Mine
theorem oA {G : Prop} {P0 : Prop} {P1 : Prop} (h : P0 ∧ P1) (k : P0 → P1 → G) : G := h.elim fun x0 h => k x0 h
theorem oE {G : Prop} {A0 : Sort _} {P0 : A0 → Prop} (h : ∃ a0, P0 a0) (k : ∀ a0, P0 a0 → G) : G := h.elim fun x0 h => k x0 h
theorem oAA {G : Prop} {P0 : Prop} {P1 : Prop} {P2 : Prop} (h : P0 ∧ P1 ∧ P2) (k : P0 → P1 → P2 → G) : G := h.elim fun x0 h => h.elim fun x1 h => k x0 x1 h
theorem oEA {G : Prop} {A0 : Sort _} {P0 : A0 → Prop} {P1 : A0 → Prop} (h : ∃ a0, P0 a0 ∧ P1 a0) (k : ∀ a0, P0 a0 → P1 a0 → G) : G := h.elim fun x0 h => h.elim fun x1 h => k x0 x1 h
theorem oEE {G : Prop} {A0 : Sort _} {A1 : Sort _} {P0 : A0 → A1 → Prop} (h : ∃ a0, ∃ a1, P0 a0 a1) (k : ∀ a0, ∀ a1, P0 a0 a1 → G) : G := h.elim fun x0 h => h.elim fun x1 h => k x0 x1 h
theorem oAAA {G : Prop} {P0 : Prop} {P1 : Prop} {P2 : Prop} {P3 : Prop} (h : P0 ∧ P1 ∧ P2 ∧ P3) (k : P0 → P1 → P2 → P3 → G) : G := h.elim fun x0 h => h.elim fun x1 h => h.elim fun x2 h => k x0 x1 x2 h
theorem oAEA {G : Prop} {A0 : Sort _} {P0 : Prop} {P1 : A0 → Prop} {P2 : A0 → Prop} (h : P0 ∧ ∃ a0, P1 a0 ∧ P2 a0) (k : P0 → ∀ a0, P1 a0 → P2 a0 → G) : G := h.elim fun x0 h => h.elim fun x1 h => h.elim fun x2 h => k x0 x1 x2 h
theorem oEAA {G : Prop} {A0 : Sort _} {P0 : A0 → Prop} {P1 : A0 → Prop} {P2 : A0 → Prop} (h : ∃ a0, P0 a0 ∧ P1 a0 ∧ P2 a0) (k : ∀ a0, P0 a0 → P1 a0 → P2 a0 → G) : G := h.elim fun x0 h => h.elim fun x1 h => h.elim fun x2 h => k x0 x1 x2 h
theorem oEEA {G : Prop} {A0 : Sort _} {A1 : Sort _} {P0 : A0 → A1 → Prop} {P1 : A0 → A1 → Prop} (h : ∃ a0, ∃ a1, P0 a0 a1 ∧ P1 a0 a1) (k : ∀ a0, ∀ a1, P0 a0 a1 → P1 a0 a1 → G) : G := h.elim fun x0 h => h.elim fun x1 h => h.elim fun x2 h => k x0 x1 x2 h
theorem oAAAA {G : Prop} {P0 : Prop} {P1 : Prop} {P2 : Prop} {P3 : Prop} {P4 : Prop} (h : P0 ∧ P1 ∧ P2 ∧ P3 ∧ P4) (k : P0 → P1 → P2 → P3 → P4 → G) : G := h.elim fun x0 h => h.elim fun x1 h => h.elim fun x2 h => h.elim fun x3 h => k x0 x1 x2 x3 h
theorem oAEAA {G : Prop} {A0 : Sort _} {P0 : Prop} {P1 : A0 → Prop} {P2 : A0 → Prop} {P3 : A0 → Prop} (h : P0 ∧ ∃ a0, P1 a0 ∧ P2 a0 ∧ P3 a0) (k : P0 → ∀ a0, P1 a0 → P2 a0 → P3 a0 → G) : G := h.elim fun x0 h => h.elim fun x1 h => h.elim fun x2 h => h.elim fun x3 h => k x0 x1 x2 x3 h
theorem oEAAA {G : Prop} {A0 : Sort _} {P0 : A0 → Prop} {P1 : A0 → Prop} {P2 : A0 → Prop} {P3 : A0 → Prop} (h : ∃ a0, P0 a0 ∧ P1 a0 ∧ P2 a0 ∧ P3 a0) (k : ∀ a0, P0 a0 → P1 a0 → P2 a0 → P3 a0 → G) : G := h.elim fun x0 h => h.elim fun x1 h => h.elim fun x2 h => h.elim fun x3 h => k x0 x1 x2 x3 h
theorem oEAAE {G : Prop} {A0 : Sort _} {A1 : Sort _} {P0 : A0 → Prop} {P1 : A0 → Prop} {P2 : A0 → A1 → Prop} (h : ∃ a0, P0 a0 ∧ P1 a0 ∧ ∃ a1, P2 a0 a1) (k : ∀ a0, P0 a0 → P1 a0 → ∀ a1, P2 a0 a1 → G) : G := h.elim fun x0 h => h.elim fun x1 h => h.elim fun x2 h => h.elim fun x3 h => k x0 x1 x2 x3 h
theorem oEAEA {G : Prop} {A0 : Sort _} {A1 : Sort _} {P0 : A0 → Prop} {P1 : A0 → A1 → Prop} {P2 : A0 → A1 → Prop} (h : ∃ a0, P0 a0 ∧ ∃ a1, P1 a0 a1 ∧ P2 a0 a1) (k : ∀ a0, P0 a0 → ∀ a1, P1 a0 a1 → P2 a0 a1 → G) : G := h.elim fun x0 h => h.elim fun x1 h => h.elim fun x2 h => h.elim fun x3 h => k x0 x1 x2 x3 h
theorem oEEAA {G : Prop} {A0 : Sort _} {A1 : Sort _} {P0 : A0 → A1 → Prop} {P1 : A0 → A1 → Prop} {P2 : A0 → A1 → Prop} (h : ∃ a0, ∃ a1, P0 a0 a1 ∧ P1 a0 a1 ∧ P2 a0 a1) (k : ∀ a0, ∀ a1, P0 a0 a1 → P1 a0 a1 → P2 a0 a1 → G) : G := h.elim fun x0 h => h.elim fun x1 h => h.elim fun x2 h => h.elim fun x3 h => k x0 x1 x2 x3 h
theorem oAAAAA {G : Prop} {P0 : Prop} {P1 : Prop} {P2 : Prop} {P3 : Prop} {P4 : Prop} {P5 : Prop} (h : P0 ∧ P1 ∧ P2 ∧ P3 ∧ P4 ∧ P5) (k : P0 → P1 → P2 → P3 → P4 → P5 → G) : G := h.elim fun x0 h => h.elim fun x1 h => h.elim fun x2 h => h.elim fun x3 h => h.elim fun x4 h => k x0 x1 x2 x3 x4 h
theorem oEAAAA {G : Prop} {A0 : Sort _} {P0 : A0 → Prop} {P1 : A0 → Prop} {P2 : A0 → Prop} {P3 : A0 → Prop} {P4 : A0 → Prop} (h : ∃ a0, P0 a0 ∧ P1 a0 ∧ P2 a0 ∧ P3 a0 ∧ P4 a0) (k : ∀ a0, P0 a0 → P1 a0 → P2 a0 → P3 a0 → P4 a0 → G) : G := h.elim fun x0 h => h.elim fun x1 h => h.elim fun x2 h => h.elim fun x3 h => h.elim fun x4 h => k x0 x1 x2 x3 x4 h
theorem oEEAAA {G : Prop} {A0 : Sort _} {A1 : Sort _} {P0 : A0 → A1 → Prop} {P1 : A0 → A1 → Prop} {P2 : A0 → A1 → Prop} {P3 : A0 → A1 → Prop} (h : ∃ a0, ∃ a1, P0 a0 a1 ∧ P1 a0 a1 ∧ P2 a0 a1 ∧ P3 a0 a1) (k : ∀ a0, ∀ a1, P0 a0 a1 → P1 a0 a1 → P2 a0 a1 → P3 a0 a1 → G) : G := h.elim fun x0 h => h.elim fun x1 h => h.elim fun x2 h => h.elim fun x3 h => h.elim fun x4 h => k x0 x1 x2 x3 x4 h
theorem oEEAEA {G : Prop} {A0 : Sort _} {A1 : Sort _} {A2 : Sort _} {P0 : A0 → A1 → Prop} {P1 : A0 → A1 → A2 → Prop} {P2 : A0 → A1 → A2 → Prop} (h : ∃ a0, ∃ a1, P0 a0 a1 ∧ ∃ a2, P1 a0 a1 a2 ∧ P2 a0 a1 a2) (k : ∀ a0, ∀ a1, P0 a0 a1 → ∀ a2, P1 a0 a1 a2 → P2 a0 a1 a2 → G) : G := h.elim fun x0 h => h.elim fun x1 h => h.elim fun x2 h => h.elim fun x3 h => h.elim fun x4 h => k x0 x1 x2 x3 x4 h
theorem oEEEAAA {G : Prop} {A0 : Sort _} {A1 : Sort _} {A2 : Sort _} {P0 : A0 → A1 → A2 → Prop} {P1 : A0 → A1 → A2 → Prop} {P2 : A0 → A1 → A2 → Prop} {P3 : A0 → A1 → A2 → Prop} (h : ∃ a0, ∃ a1, ∃ a2, P0 a0 a1 a2 ∧ P1 a0 a1 a2 ∧ P2 a0 a1 a2 ∧ P3 a0 a1 a2) (k : ∀ a0, ∀ a1, ∀ a2, P0 a0 a1 a2 → P1 a0 a1 a2 → P2 a0 a1 a2 → P3 a0 a1 a2 → G) : G := h.elim fun x0 h => h.elim fun x1 h => h.elim fun x2 h => h.elim fun x3 h => h.elim fun x4 h => h.elim fun x5 h => k x0 x1 x2 x3 x4 x5 h
theorem oEEEEAA {G : Prop} {A0 : Sort _} {A1 : Sort _} {A2 : Sort _} {A3 : Sort _} {P0 : A0 → A1 → A2 → A3 → Prop} {P1 : A0 → A1 → A2 → A3 → Prop} {P2 : A0 → A1 → A2 → A3 → Prop} (h : ∃ a0, ∃ a1, ∃ a2, ∃ a3, P0 a0 a1 a2 a3 ∧ P1 a0 a1 a2 a3 ∧ P2 a0 a1 a2 a3) (k : ∀ a0, ∀ a1, ∀ a2, ∀ a3, P0 a0 a1 a2 a3 → P1 a0 a1 a2 a3 → P2 a0 a1 a2 a3 → G) : G := h.elim fun x0 h => h.elim fun x1 h => h.elim fun x2 h => h.elim fun x3 h => h.elim fun x4 h => h.elim fun x5 h => k x0 x1 x2 x3 x4 x5 h
theorem oAAAAAAA {G : Prop} {P0 : Prop} {P1 : Prop} {P2 : Prop} {P3 : Prop} {P4 : Prop} {P5 : Prop} {P6 : Prop} {P7 : Prop} (h : P0 ∧ P1 ∧ P2 ∧ P3 ∧ P4 ∧ P5 ∧ P6 ∧ P7) (k : P0 → P1 → P2 → P3 → P4 → P5 → P6 → P7 → G) : G := h.elim fun x0 h => h.elim fun x1 h => h.elim fun x2 h => h.elim fun x3 h => h.elim fun x4 h => h.elim fun x5 h => h.elim fun x6 h => k x0 x1 x2 x3 x4 x5 x6 h
theorem oEAEEEAA {G : Prop} {A0 : Sort _} {A1 : Sort _} {A2 : Sort _} {A3 : Sort _} {P0 : A0 → Prop} {P1 : A0 → A1 → A2 → A3 → Prop} {P2 : A0 → A1 → A2 → A3 → Prop} {P3 : A0 → A1 → A2 → A3 → Prop} (h : ∃ a0, P0 a0 ∧ ∃ a1, ∃ a2, ∃ a3, P1 a0 a1 a2 a3 ∧ P2 a0 a1 a2 a3 ∧ P3 a0 a1 a2 a3) (k : ∀ a0, P0 a0 → ∀ a1, ∀ a2, ∀ a3, P1 a0 a1 a2 a3 → P2 a0 a1 a2 a3 → P3 a0 a1 a2 a3 → G) : G := h.elim fun x0 h => h.elim fun x1 h => h.elim fun x2 h => h.elim fun x3 h => h.elim fun x4 h => h.elim fun x5 h => h.elim fun x6 h => k x0 x1 x2 x3 x4 x5 x6 h
theorem oEEEAAAA {G : Prop} {A0 : Sort _} {A1 : Sort _} {A2 : Sort _} {P0 : A0 → A1 → A2 → Prop} {P1 : A0 → A1 → A2 → Prop} {P2 : A0 → A1 → A2 → Prop} {P3 : A0 → A1 → A2 → Prop} {P4 : A0 → A1 → A2 → Prop} (h : ∃ a0, ∃ a1, ∃ a2, P0 a0 a1 a2 ∧ P1 a0 a1 a2 ∧ P2 a0 a1 a2 ∧ P3 a0 a1 a2 ∧ P4 a0 a1 a2) (k : ∀ a0, ∀ a1, ∀ a2, P0 a0 a1 a2 → P1 a0 a1 a2 → P2 a0 a1 a2 → P3 a0 a1 a2 → P4 a0 a1 a2 → G) : G := h.elim fun x0 h => h.elim fun x1 h => h.elim fun x2 h => h.elim fun x3 h => h.elim fun x4 h => h.elim fun x5 h => h.elim fun x6 h => k x0 x1 x2 x3 x4 x5 x6 h
theorem oEEAAEEAA {G : Prop} {A0 : Sort _} {A1 : Sort _} {A2 : Sort _} {A3 : Sort _} {P0 : A0 → A1 → Prop} {P1 : A0 → A1 → Prop} {P2 : A0 → A1 → A2 → A3 → Prop} {P3 : A0 → A1 → A2 → A3 → Prop} {P4 : A0 → A1 → A2 → A3 → Prop} (h : ∃ a0, ∃ a1, P0 a0 a1 ∧ P1 a0 a1 ∧ ∃ a2, ∃ a3, P2 a0 a1 a2 a3 ∧ P3 a0 a1 a2 a3 ∧ P4 a0 a1 a2 a3) (k : ∀ a0, ∀ a1, P0 a0 a1 → P1 a0 a1 → ∀ a2, ∀ a3, P2 a0 a1 a2 a3 → P3 a0 a1 a2 a3 → P4 a0 a1 a2 a3 → G) : G := h.elim fun x0 h => h.elim fun x1 h => h.elim fun x2 h => h.elim fun x3 h => h.elim fun x4 h => h.elim fun x5 h => h.elim fun x6 h => h.elim fun x7 h => k x0 x1 x2 x3 x4 x5 x6 x7 h
theorem oEEEEAAAA {G : Prop} {A0 : Sort _} {A1 : Sort _} {A2 : Sort _} {A3 : Sort _} {P0 : A0 → A1 → A2 → A3 → Prop} {P1 : A0 → A1 → A2 → A3 → Prop} {P2 : A0 → A1 → A2 → A3 → Prop} {P3 : A0 → A1 → A2 → A3 → Prop} {P4 : A0 → A1 → A2 → A3 → Prop} (h : ∃ a0, ∃ a1, ∃ a2, ∃ a3, P0 a0 a1 a2 a3 ∧ P1 a0 a1 a2 a3 ∧ P2 a0 a1 a2 a3 ∧ P3 a0 a1 a2 a3 ∧ P4 a0 a1 a2 a3) (k : ∀ a0, ∀ a1, ∀ a2, ∀ a3, P0 a0 a1 a2 a3 → P1 a0 a1 a2 a3 → P2 a0 a1 a2 a3 → P3 a0 a1 a2 a3 → P4 a0 a1 a2 a3 → G) : G := h.elim fun x0 h => h.elim fun x1 h => h.elim fun x2 h => h.elim fun x3 h => h.elim fun x4 h => h.elim fun x5 h => h.elim fun x6 h => h.elim fun x7 h => k x0 x1 x2 x3 x4 x5 x6 x7 h
theorem oEEEEAAAAAA {G : Prop} {A0 : Sort _} {A1 : Sort _} {A2 : Sort _} {A3 : Sort _} {P0 : A0 → A1 → A2 → A3 → Prop} {P1 : A0 → A1 → A2 → A3 → Prop} {P2 : A0 → A1 → A2 → A3 → Prop} {P3 : A0 → A1 → A2 → A3 → Prop} {P4 : A0 → A1 → A2 → A3 → Prop} {P5 : A0 → A1 → A2 → A3 → Prop} {P6 : A0 → A1 → A2 → A3 → Prop} (h : ∃ a0, ∃ a1, ∃ a2, ∃ a3, P0 a0 a1 a2 a3 ∧ P1 a0 a1 a2 a3 ∧ P2 a0 a1 a2 a3 ∧ P3 a0 a1 a2 a3 ∧ P4 a0 a1 a2 a3 ∧ P5 a0 a1 a2 a3 ∧ P6 a0 a1 a2 a3) (k : ∀ a0, ∀ a1, ∀ a2, ∀ a3, P0 a0 a1 a2 a3 → P1 a0 a1 a2 a3 → P2 a0 a1 a2 a3 → P3 a0 a1 a2 a3 → P4 a0 a1 a2 a3 → P5 a0 a1 a2 a3 → P6 a0 a1 a2 a3 → G) : G := h.elim fun x0 h => h.elim fun x1 h => h.elim fun x2 h => h.elim fun x3 h => h.elim fun x4 h => h.elim fun x5 h => h.elim fun x6 h => h.elim fun x7 h => h.elim fun x8 h => h.elim fun x9 h => k x0 x1 x2 x3 x4 x5 x6 x7 x8 x9 h
theorem oEEEEEEEEEEEEEEE {G : Prop} {A0 : Sort _} {A1 : Sort _} {A2 : Sort _} {A3 : Sort _} {A4 : Sort _} {A5 : Sort _} {A6 : Sort _} {A7 : Sort _} {A8 : Sort _} {A9 : Sort _} {A10 : Sort _} {A11 : Sort _} {A12 : Sort _} {A13 : Sort _} {A14 : Sort _} {P0 : A0 → A1 → A2 → A3 → A4 → A5 → A6 → A7 → A8 → A9 → A10 → A11 → A12 → A13 → A14 → Prop} (h : ∃ a0, ∃ a1, ∃ a2, ∃ a3, ∃ a4, ∃ a5, ∃ a6, ∃ a7, ∃ a8, ∃ a9, ∃ a10, ∃ a11, ∃ a12, ∃ a13, ∃ a14, P0 a0 a1 a2 a3 a4 a5 a6 a7 a8 a9 a10 a11 a12 a13 a14) (k : ∀ a0, ∀ a1, ∀ a2, ∀ a3, ∀ a4, ∀ a5, ∀ a6, ∀ a7, ∀ a8, ∀ a9, ∀ a10, ∀ a11, ∀ a12, ∀ a13, ∀ a14, P0 a0 a1 a2 a3 a4 a5 a6 a7 a8 a9 a10 a11 a12 a13 a14 → G) : G := h.elim fun x0 h => h.elim fun x1 h => h.elim fun x2 h => h.elim fun x3 h => h.elim fun x4 h => h.elim fun x5 h => h.elim fun x6 h => h.elim fun x7 h => h.elim fun x8 h => h.elim fun x9 h => h.elim fun x10 h => h.elim fun x11 h => h.elim fun x12 h => h.elim fun x13 h => h.elim fun x14 h => k x0 x1 x2 x3 x4 x5 x6 x7 x8 x9 x10 x11 x12 x13 x14 h
theorem oEEEEEEEEEEEEEEEA {G : Prop} {A0 : Sort _} {A1 : Sort _} {A2 : Sort _} {A3 : Sort _} {A4 : Sort _} {A5 : Sort _} {A6 : Sort _} {A7 : Sort _} {A8 : Sort _} {A9 : Sort _} {A10 : Sort _} {A11 : Sort _} {A12 : Sort _} {A13 : Sort _} {A14 : Sort _} {P0 : A0 → A1 → A2 → A3 → A4 → A5 → A6 → A7 → A8 → A9 → A10 → A11 → A12 → A13 → A14 → Prop} {P1 : A0 → A1 → A2 → A3 → A4 → A5 → A6 → A7 → A8 → A9 → A10 → A11 → A12 → A13 → A14 → Prop} (h : ∃ a0, ∃ a1, ∃ a2, ∃ a3, ∃ a4, ∃ a5, ∃ a6, ∃ a7, ∃ a8, ∃ a9, ∃ a10, ∃ a11, ∃ a12, ∃ a13, ∃ a14, P0 a0 a1 a2 a3 a4 a5 a6 a7 a8 a9 a10 a11 a12 a13 a14 ∧ P1 a0 a1 a2 a3 a4 a5 a6 a7 a8 a9 a10 a11 a12 a13 a14) (k : ∀ a0, ∀ a1, ∀ a2, ∀ a3, ∀ a4, ∀ a5, ∀ a6, ∀ a7, ∀ a8, ∀ a9, ∀ a10, ∀ a11, ∀ a12, ∀ a13, ∀ a14, P0 a0 a1 a2 a3 a4 a5 a6 a7 a8 a9 a10 a11 a12 a13 a14 → P1 a0 a1 a2 a3 a4 a5 a6 a7 a8 a9 a10 a11 a12 a13 a14 → G) : G := h.elim fun x0 h => h.elim fun x1 h => h.elim fun x2 h => h.elim fun x3 h => h.elim fun x4 h => h.elim fun x5 h => h.elim fun x6 h => h.elim fun x7 h => h.elim fun x8 h => h.elim fun x9 h => h.elim fun x10 h => h.elim fun x11 h => h.elim fun x12 h => h.elim fun x13 h => h.elim fun x14 h => h.elim fun x15 h => k x0 x1 x2 x3 x4 x5 x6 x7 x8 x9 x10 x11 x12 x13 x14 x15 h
theorem oEEEEEEEEEEEEEEEE {G : Prop} {A0 : Sort _} {A1 : Sort _} {A2 : Sort _} {A3 : Sort _} {A4 : Sort _} {A5 : Sort _} {A6 : Sort _} {A7 : Sort _} {A8 : Sort _} {A9 : Sort _} {A10 : Sort _} {A11 : Sort _} {A12 : Sort _} {A13 : Sort _} {A14 : Sort _} {A15 : Sort _} {P0 : A0 → A1 → A2 → A3 → A4 → A5 → A6 → A7 → A8 → A9 → A10 → A11 → A12 → A13 → A14 → A15 → Prop} (h : ∃ a0, ∃ a1, ∃ a2, ∃ a3, ∃ a4, ∃ a5, ∃ a6, ∃ a7, ∃ a8, ∃ a9, ∃ a10, ∃ a11, ∃ a12, ∃ a13, ∃ a14, ∃ a15, P0 a0 a1 a2 a3 a4 a5 a6 a7 a8 a9 a10 a11 a12 a13 a14 a15) (k : ∀ a0, ∀ a1, ∀ a2, ∀ a3, ∀ a4, ∀ a5, ∀ a6, ∀ a7, ∀ a8, ∀ a9, ∀ a10, ∀ a11, ∀ a12, ∀ a13, ∀ a14, ∀ a15, P0 a0 a1 a2 a3 a4 a5 a6 a7 a8 a9 a10 a11 a12 a13 a14 a15 → G) : G := h.elim fun x0 h => h.elim fun x1 h => h.elim fun x2 h => h.elim fun x3 h => h.elim fun x4 h => h.elim fun x5 h => h.elim fun x6 h => h.elim fun x7 h => h.elim fun x8 h => h.elim fun x9 h => h.elim fun x10 h => h.elim fun x11 h => h.elim fun x12 h => h.elim fun x13 h => h.elim fun x14 h => h.elim fun x15 h => k x0 x1 x2 x3 x4 x5 x6 x7 x8 x9 x10 x11 x12 x13 x14 x15 h
theorem oAEE {G : Prop} {A0 : Sort _} {A1 : Sort _} {P0 : Prop} {P1 : A0 → A1 → Prop} (h : P0 ∧ ∃ a0, ∃ a1, P1 a0 a1) (k : P0 → ∀ a0, ∀ a1, P1 a0 a1 → G) : G := h.elim fun x0 h => h.elim fun x1 h => h.elim fun x2 h => k x0 x1 x2 h
theorem oAEEE {G : Prop} {A0 : Sort _} {A1 : Sort _} {A2 : Sort _} {P0 : Prop} {P1 : A0 → A1 → A2 → Prop} (h : P0 ∧ ∃ a0, ∃ a1, ∃ a2, P1 a0 a1 a2) (k : P0 → ∀ a0, ∀ a1, ∀ a2, P1 a0 a1 a2 → G) : G := h.elim fun x0 h => h.elim fun x1 h => h.elim fun x2 h => h.elim fun x3 h => k x0 x1 x2 x3 h
theorem hold {G : Prop} (h : ∀ G₁ : Prop, (G → G₁) → G₁) : G := h G id
noncomputable abbrev Led := List (Addr × Obj)
section
variable {prog : Program} {w : World} {A : Around} {E : Value → Shared → Prop} {s : Shared} {Q : Value → Shared → Prop} {x y : Str} {a b : Int} {t u : Tok} {n : Nat}
theorem log_small (hb : b.natAbs ≤ 1000000000000) : b.natAbs.log2 < 9000 := by
  by_cases z : b.natAbs = 0
  · rw [z]; decide
  · have h2 : b.natAbs < 2 ^ 41 := Nat.lt_of_le_of_lt hb (by decide)
    exact Nat.lt_of_lt_of_le ((Nat.log2_lt z).mpr h2) (by decide)
theorem my_mul (hk : x.length = n) (hx : n ≤ 16) (h0 : 0 ≤ a) (ha : a ≤ 1048576) (h : ∀ t' k, (Txt.mul x a).length = n * a.toNat → Q (.str (Txt.mul x a) t') { s with toks := k }) :
    wpAny (model prog w) A (binaryOp .Mult (.str x t) (.int a u)) Q E s :=
  SB.mul (mulOk_of 16 1048576 (by lia) (by lia) (by lia) (by decide) (by decide)) fun t' k => h t' k (by
    have e := len_mul x a
    rw [if_neg (fun c => absurd (of_decide_eq_true c) (by lia)), hk] at e
    have e2 : ((n * a.toNat : Nat) : Int) = (n : Int) * a := by rw [Int.natCast_mul, Int.toNat_of_nonneg h0]
    lia)
theorem my_add (hs : x.length + y.length ≤ 16777216) (h : ∀ t' k, (x ++ y).length = x.length + y.length → Q (.str (x ++ y) t') { s with toks := k }) :
    wpAny (model prog w) A (binaryOp .Add (.str x t) (.str y u)) Q E s := KOpn.add hs fun t' k e => h t' k (by lia)
end
section
variable {prog : Program} {w : World} {A₀ A : Around} {s : Shared} {base h₀ : Heap} {outer : List Env} {L : Addr} {m : Str → Option Value} {env : Env} {news : List (Addr × Obj)} {K : Frag}
  {R : Result → Shared → Prop} {name qual : Str} {params : Arguments} {body : List Stmt} {scope : Scope} {dV kV doc pm cdv ct oc : Value} {an od : Option Addr} {osl : Array (Option Value)} {f : Addr} {args : Args} {binds : List (Str × Value)}
  {p : Program} {loose : List Str} {mean : ExcName → Option Value} {mg mb : Str → Option Value}
noncomputable def Kept (h g : Heap) (news : Led) : Prop := ∀ b o, h.get? b = some o → (∀ q ∈ news, q.1 ≠ b) → g.get? b = some o
theorem kept_hide (h : Heap) (news : Led) : Kept h (hideAll h (news.map (·.1))) news := fun b o e k => hideAll_get _ e fun hm => by
  obtain ⟨q, hq, e'⟩ := List.mem_map.mp hm
  exact k q hq e'
theorem code_defG (B : Below A₀ base outer h₀) (F : Fr h₀ L s.heap m) (X₀ : K.In h₀) (N : News h₀ L s.heap news) (T : Top p loose mean mg mb h₀) (hA : A.frames = some (env :: outer)) (hf : env.frame = some L) (hke : env.scope.kind = .function)
    (ho : K.lookup f = some ⟨oc, od, .func (fnOf name qual params body scope dV kV doc pm an cdv ct), osl⟩) (hcd : codeIn K cdv qual = true) (hroom : A.depth < recursionLimit)
    (hbind : BindsTo s (fnOf name qual params body scope dV kV doc pm an cdv ct) args binds) (hloc : ∀ y ∈ binds, scope.names.lookup y.1 = some .local)
    (h : ∀ g L' h₁, Kept s.heap g news → Fr h₀ L g m → Fr g L' h₁ (fun y => binds.reverse.lookup y) → News g L' h₁ news → Below A base (env :: outer) g → K.In g → Top p loose mean mg mb g →
      wpAny (model prog w) (A.deeper (envOf qual scope L' f cdv)) (execs body (envOf qual scope L' f cdv))
        (fun fl s' => LeaveK h₀ L m g R (match fl with | .ret v => v | _ => .none) s')
        (fun e s' => wpAny (model prog w) (A.deeper (envOf qual scope L' f cdv)) (leaving (envOf qual scope L' f cdv) e) (fun _ s'' => R (.error e) s'') (fun e' s'' => R (.error e') s'') s')
        { s with heap := h₁, toks := s.toks + binds.length })
    (hco : scope.isCoroutine = false) (hgen : scope.isGenerator = false) (hk : scope.kind = .function)
    (hcell : ∀ x ∈ scope.names, x.2 ≠ .cell) : codeAny (model prog w) A (.call (.ref f) args) R s := by
  obtain ⟨FG, BG, st, lv⟩ := groundX (R := R) B F N hA hf hke
  refine codeAny_call_def (fd := fnX name qual params body scope [] dV kV doc pm an cdv ct) (body := body) (binds := binds) hroom ((X₀.keeps F.keep) _ _ ho) rfl (T.nolimit.keeps F.keep) (codeRec_of (X₀.keeps F.keep) hcd) rfl hbind hcell hloc (fun h₁ hns hk₁ => ?_) hco hgen hk
  exact wpAny_mono (h _ s.heap.objs.size h₁ (kept_hide _ _) FG ⟨hns, fun b o e => hk₁ b o (of_hideAll _ e), Nat.le_of_eq (hideAll_size _ _)⟩
    (fun p hp => ⟨hk₁ _ _ (N p hp).1, Nat.ne_of_lt (Heap.lt_size (N p hp).1), hideAll_none _ (List.mem_map_of_mem hp)⟩) BG (X₀.keeps st) (T.keeps st)) (fun fl s' hl => lv _ _ hl) fun _ _ y => y
end
section
variable {prog : Program} {w : World} {A₀ A : Around} {s : Shared} {base h₀ : Heap} {outer : List Env} {L : Addr} {m : Str → Option Value} {env : Env} {news : List (Addr × Obj)} {K : Frag}
  {R : Result → Shared → Prop} {name qual : Str} {params : Arguments} {body : List Stmt} {scope : Scope} {dV kV doc pm cdv ct oc : Value} {an od : Option Addr} {osl : Array (Option Value)} {f : Addr} {args : Args} {binds : List (Str × Value)}
  {p : Program} {loose : List Str} {mean : ExcName → Option Value} {mg mb : Str → Option Value}
theorem code_defGC (B : Below A₀ base outer h₀) (F : Fr h₀ L s.heap m) (X₀ : K.In h₀) (N : News h₀ L s.heap news) (T : Top p loose mean mg mb h₀) (hA : A.frames = some (env :: outer)) (hf : env.frame = some L) (hke : env.scope.kind = .function)
    (ho : K.lookup f = some ⟨oc, od, .func (fnOf name qual params body scope dV kV doc pm an cdv ct), osl⟩) (hcd : codeIn K cdv qual = true) (hroom : A.depth < recursionLimit)
    (hbind : BindsTo s (fnOf name qual params body scope dV kV doc pm an cdv ct) args binds) (hkind : (binds.all fun y => scope.names.lookup y.1 == some .local || scope.names.lookup y.1 == some .cell) = true)
    (hnd : ((cellsFrom 0 scope.names []).map (·.1)).Nodup)
    (h : ∀ g L' h₁ tk cells, Kept s.heap g news → Fr h₀ L g m → Fr g L' h₁ (bindL (envOfC qual scope L' f cdv).kindOf binds fun _ => none) → News g L' h₁ (cells ++ news) →
      CellsAre (bindC (envOfC qual scope L' f cdv).kindOf binds fun _ => none) (cellsFrom (L' + 1) scope.names []) cells → Below A base (env :: outer) g → K.In g → Top p loose mean mg mb g → (∀ p ∈ news, p.1 < L') →
      wpAny (model prog w) (A.deeper (envOfC qual scope L' f cdv)) (execs body (envOfC qual scope L' f cdv))
        (fun fl s' => LeaveK h₀ L m g R (match fl with | .ret v => v | _ => .none) s')
        (fun e s' => wpAny (model prog w) (A.deeper (envOfC qual scope L' f cdv)) (leaving (envOfC qual scope L' f cdv) e) (fun _ s'' => R (.error e) s'') (fun e' s'' => R (.error e') s'') s')
        { s with heap := h₁, toks := tk })
    (hco : scope.isCoroutine = false) (hgen : scope.isGenerator = false) (hk : scope.kind = .function) : codeAny (model prog w) A (.call (.ref f) args) R s := by
  obtain ⟨FG, BG, st, lv⟩ := groundX (R := R) B F N hA hf hke
  have hlow : ∀ q ∈ news, q.1 < s.heap.objs.size := fun q hq => Heap.lt_size (N q hq).1
  refine codeAny_call_function hroom ((X₀.keeps F.keep) _ _ ho) rfl hco hgen rfl (codeRec_of (X₀.keeps F.keep) hcd) (hbind _ _ _ _ ?_)
  refine wpAny_newFunctionEnv_cells hk (kindsX hkind _) fun env' he s' x => ?_
  subst he
  refine ⟨(T.nolimit.keeps F.keep).keeps x.toInCall.keep, codeAny_func ?_⟩
  obtain ⟨h₁, tk, rfl, _⟩ := x.done
  have kp := x.toInCall.keep
  obtain ⟨cells, NC, Y⟩ := Cl.news (h₀ := s.heap) (Nat.le_refl _) fun n c hm => ⟨x.cell n c (lookup_of_mem_nodup (cellsFrom_names scope.names 0 (s.heap.objs.size + 1) [] [] rfl ▸ hnd) hm), x.above n c hm⟩
  have NN : News (hideAll s.heap (news.map (·.1))) s.heap.objs.size h₁ (cells ++ news) := by
    intro q hq
    rcases List.mem_append.mp hq with hq | hq
    · refine ⟨(NC q hq).1, (NC q hq).2.1, ?_⟩
      cases e : (hideAll s.heap (news.map (·.1))).get? q.1 with
      | none => rfl
      | some o => have := of_hideAll _ e; rw [(NC q hq).2.2] at this; cases this
    · exact ⟨kp _ _ (N q hq).1, Nat.ne_of_lt (hlow q hq), hideAll_none _ (List.mem_map_of_mem hq)⟩
  exact wpAny_mono (h _ s.heap.objs.size h₁ tk cells (kept_hide _ _) FG ⟨x.toInCall.ns, fun b o e => kp b o (of_hideAll _ e), Nat.le_of_eq (hideAll_size _ _)⟩ NN Y BG (X₀.keeps st) (T.keeps st) hlow) (fun fl s' hl => lv _ _ hl) fun _ _ y => y
end
end Mine
end
section
open PySem
namespace Mine
section
variable {prog : Program} {w : World} {A : Around} {E : Value → Shared → Prop} {R : Result → Shared → Prop} {h : Heap} {g : Array GenState} {d : Drawn} {t : Nat} {os : OsState} {rest : List Value}
variable {nm q : Str} {C N : Addr} {bs bm bmN : List Value} {hdct : Bool} {sn : List Str} {sub : List Value} {ab : Bool} {col : Option Bool} {dd : Option Addr} {k0 k1 k2 k3 k5 : Option Value} {B newId initId : String}
theorem xc_new_ok {M : Model} (F : ExcBaseFacts B newId initId bmN) (hB : (Value.ref C :: bm).contains (.type B) = true) {Q : Unit → Shared → Prop} (hC : h.get? C = some (excClassObj nm q C N bs bm hdct sn sub ab col dd k0 k1 k2 k3 k5 newId))
    (hq : Q () ⟨h, g, d, t, os⟩) : wpAny M A (checkBuiltinCall newId ⟨.ref C :: rest, []⟩) Q E ⟨h, g, d, t, os⟩ := by
  have hstar := F.noStar
  simp only [checkBuiltinCall, F.newKind, F.newSplit, F.newRow]
  repeat (first | refine wpAny_loadPart_at hC ?_ | (refine wpAny_isSubtype_exc hC ?_; rw [hB]) | refine wpAny_staticBase_exc hC ?_ | refine wpAny_madeBy_exc hC ?_ | simp only [bne_self_eq_false, Bool.false_eq_true, if_false] | wp_step)
  exact hq
theorem xc_new (F : ExcBaseFacts B newId initId bmN) (hB : (Value.ref C :: bm).contains (.type B) = true) (hA : (Value.ref C :: bm).contains (.type "AttributeError") = false) (hN : (Value.ref C :: bm).contains (.type "NameError") = false)
    (hC : h.get? C = some (excClassObj nm q C N bs bm hdct sn sub ab col dd k0 k1 k2 k3 k5 newId)) (hrest : rest.length ≤ sizeLine)
    (hq : R (.ok (.ret (.ref (h.objs.size + 1)))) ⟨(h.push { cls := .type "tuple", data := .seq rest.toArray }).push { cls := .ref C, data := .fields #[.ref h.objs.size, .none, .none, .none, .bool false, .none] }, g, d, t, os⟩) :
    codeAny (model prog w) A (.builtin newId ⟨.ref C :: rest, []⟩) R ⟨h, g, d, t, os⟩ := by
  have hends := F.ends
  refine codeAny_builtinAt F.entry ?_
  unfold Builtin.«BaseException.__new__»
  refine wpAt_bind ?_
  show wpAt _ _ _ (stack >>= _) _ _ _
  refine wpAt_bind (wpAt_stack fun p below => wpAt_of_wpAny ?_)
  wp_walk
  refine wpAt_of_wpAny ?_
  rw [F.owner]
  repeat (first | with_reducible refine wpAny_madeHere_exc F.canon hC ?_ | with_reducible refine wpAny_loadPart_at hC ?_ | (with_reducible refine wpAny_isSubtype_exc hC ?_; first | rw [hB] | rw [hA] | rw [hN]) | wp_step)
  show R _ _
  rw [Heap.size_push]
  exact hq
theorem xc_init_ok {M : Model} (F : ExcBaseFacts B newId initId bmN) (hB : (Value.ref C :: bm).contains (.type B) = true) {e : Addr} {oe : Obj} {Q : Unit → Shared → Prop} {n2 : String}
    (hC : h.get? C = some (excClassObj nm q C N bs bm hdct sn sub ab col dd k0 k1 k2 k3 k5 n2)) (he : h.get? e = some oe) (hcls : oe.cls = .ref C) (hq : Q () ⟨h, g, d, t, os⟩) :
    wpAny M A (checkBuiltinCall initId ⟨.ref e :: rest, []⟩) Q E ⟨h, g, d, t, os⟩ := by
  have hshort := F.noStar
  simp only [checkBuiltinCall, F.initKind, F.initSplit, F.initRow]
  repeat (first | (with_reducible refine wpAny_loadPart_at he ?_; rw [hcls]) | with_reducible refine wpAny_loadPart_at hC ?_ | (with_reducible refine wpAny_isSubtype_exc hC ?_; rw [hB]) | wp_step)
  refine wpAny_onRaise ?_
  rw [show ∀ (a b : String) (n : Nat), Bind.check ⟨.positional, "*", B, .self, [⟨"args", .varPos, false⟩]⟩ a b n (List.map (fun x => x.fst) ({ pos := Value.ref e :: rest } : Args).kw) = pure () from fun a b n => check_star_args _ _ _ _ _ _]
  exact wpAny_pure hq
theorem xc_init (F : ExcBaseFacts B newId initId bmN) (hB : (Value.ref C :: bm).contains (.type B) = true) {e : Addr} {dx : Option Addr} {ws : Array Value} {sl : Array (Option Value)} {Q : Value → Shared → Prop} {n2 : String}
    (hC : h.get? C = some (excClassObj nm q C N bs bm hdct sn sub ab col dd k0 k1 k2 k3 k5 n2)) (he : h.get? e = some { cls := .ref C, dict := dx, data := .fields ws, slots := sl }) (hw : ws.size = 6) (hrest : rest.length ≤ sizeLine)
    (hq : Q .none ⟨(h.push { cls := .type "tuple", data := .seq rest.toArray }).update e (Obj.mapFields (·.setIfInBounds 0 (.ref h.objs.size))), g, d, t, os⟩) :
    wpAny (model prog w) A (call (.builtin initId) (.ref e :: rest)) Q E ⟨h, g, d, t, os⟩ := by
  refine wpAny_call (codeAny_call_builtin F.init.plain F.initEntry (xc_init_ok F hB hC he rfl ?_))
  unfold Builtin.«BaseException.__init__»
  refine oE (⟨ws[0], Array.getElem?_eq_getElem (by lia)⟩ : ∃ v0, ws[0]? = some v0) fun v0 hv0 => ?_
  wp_walk
  rw [hv0]
  wp_walk
  cases v0 <;> (wp_walk; exact hq)
theorem xc_call (F : ExcBaseFacts B newId initId bmN) (hB : (Value.ref C :: bm).contains (.type B) = true) (hA : (Value.ref C :: bm).contains (.type "AttributeError") = false) (hN : (Value.ref C :: bm).contains (.type "NameError") = false)
    (hC : h.get? C = some (excClassObj nm q C N bs bm hdct sn sub ab col dd k0 k1 k2 k3 k5 newId)) (hrest : rest.length ≤ sizeLine) {fI : Addr} {oI : Obj} {Q : Value → Shared → Prop}
    (hl : ∀ h' : Heap, (∀ b o, h.get? b = some o → h'.get? b = some o) → PySem.W.Looks (model prog w) h' (typeLookup (.ref C) "__init__") (some (.ref fI))) (hfI : h.get? fI = some oI) (hfc : oI.cls = .type "function")
    (hq : wpAny (model prog w) (A.under (.builtin "type.__call__" ⟨.ref C :: rest, []⟩)) (call (.ref fI) (.ref (h.objs.size + 1) :: rest)) (fun r s' => r = .none ∧ Q (.ref (h.objs.size + 1)) s') E
      ⟨(h.push { cls := .type "tuple", data := .seq rest.toArray }).push { cls := .ref C, data := .fields #[.ref h.objs.size, .none, .none, .none, .bool false, .none] }, g, d, t, os⟩) :
    wpAny (model prog w) A (call (.ref C) rest) Q E ⟨h, g, d, t, os⟩ := by
  have f1 := tc_lookup
  have f2 := tc_bind (.ref C)
  have hT : (⟨h, g, d, t, os⟩ : Shared).TypeIs (.ref C) "type" := ⟨_, hC, rfl⟩
  refine wpAny_call (codeAny_of_tree ?_)
  show wpAny _ _ (callAny (.ref C) _) _ _ _
  repeat (any_goals (first | assumption | with_reducible refine wpAny_loadPart_at hC ?_ | wp_step))
  refine ⟨rfl, ?_⟩
  refine codeAny_call_builtin_at (Code.quiet_builtin _ (by decide +kernel)) entry_typeCall (wpAny_check_type_call_sub hC ?_)
  repeat (first | with_reducible refine wpAny_loadPart_at hC ?_ | with_reducible refine wpAny_madeBy_exc hC ?_ | wp_step)
  refine codeAny_call_builtin_code (Code.quiet_builtin _ F.quiet) (xc_new_ok F hB hC ?_)
  refine xc_new F hB hA hN hC hrest ?_
  show wpAny _ _ _ _ _ _
  have up : ∀ b o, h.get? b = some o → ((h.push { cls := .type "tuple", data := .seq rest.toArray }).push { cls := .ref C, data := .fields #[.ref h.objs.size, .none, .none, .none, .bool false, .none] }).get? b = some o := fun b o e => Heap.get?_push_of_some _ (Heap.get?_push_of_some _ e)
  have hC₁ := up _ _ hC
  have hget : ((h.push { cls := .type "tuple", data := .seq rest.toArray }).push { cls := .ref C, data := .fields #[.ref h.objs.size, .none, .none, .none, .bool false, .none] }).get? (h.objs.size + 1) = some
      { cls := .ref C, data := .fields #[.ref h.objs.size, .none, .none, .none, .bool false, .none] } := by heap_get
  have hcC : (Value.ref C :: bm).contains (.ref C) = true := by simp
  unfold isInstance
  repeat (first | with_reducible refine wpAny_loadPart_at hget ?_ | (with_reducible refine wpAny_isSubtype_exc hC₁ ?_; rw [hcC]) | wp_step)
  refine wpAny_isSubtype_exc hC₁ ?_
  rw [hcC]
  repeat wp_step
  show wpAny _ _ (typeLookup (.ref C) _) _ _ _
  refine (hl _ up).here ?_
  refine wpAny_holding (wpAny_bind ?_)
  unfold bindSpecial
  refine wpAny_bind (wpAny_typeOf (T := "function") ⟨_, up _ _ hfI, hfc⟩ ?_)
  rw [if_pos (by decide)]
  refine wpAny_pure (wpAny_bind (wpAny_mono hq (fun r s' hr => ?_) fun _ _ x => x))
  obtain ⟨rfl, hQ⟩ := hr
  wp_walk
  exact hQ
theorem xc_raise {M : Model} {env : Env} {s : Shared} {x : Sem Value} {Q : Flow → Shared → Prop} (hB : (Value.ref C :: bm).contains (.type "BaseException") = true) (hh : A.handled = none)
    (h0 : wpAny M A x (fun v s₁ => ∃ e dx ws sl, v = .ref e ∧ s₁.heap.get? C = some (excClassObj nm q C N bs bm hdct sn sub ab col dd k0 k1 k2 k3 k5 newId) ∧
      s₁.heap.get? e = some { cls := .ref C, dict := dx, data := .fields ws, slots := sl } ∧ ws[1]? = some .none ∧ E (.ref e) s₁) E s) :
    wpAny M A (raiseStmt env (some x) none) Q E s := by
  unfold raiseStmt
  refine wpAny_bind (wpAny_mono h0 (fun v s₁ h₁ => ?_) fun _ _ x => x)
  refine hold fun _ hK9 => ?_
  refine oEEEEAAAA h₁ fun e dx ws sl e94 hC he hw1 hE => ?_
  subst e94
  refine hK9 ?_
  obtain ⟨hp, g, d, tk, os⟩ := s₁
  repeat (first | with_reducible refine wpAny_loadPart_at he ?_ | with_reducible refine wpAny_loadPart_at hC ?_ | (with_reducible refine wpAny_isSubtype_exc hC ?_; rw [hB]) | wp_step)
  rw [hw1]
  repeat wp_step
  exact wpAny_raiseNew_none hh hE
end
end Mine
end
section
open PySem PySem.W PyProof.Rows PySem.Spec PySem.Calls
namespace Mine
noncomputable abbrev thePr : Program := PySem.Challenge.rw_qd0130_01.row.prog
inductive V where
  | none | bool (b : Bool) | int (i : Int) | str (s : Str) | byt (b : Array UInt8) | glob (v : Value)
  | tup (vs : List V) | lst (vs : List V) | dct (ks : List (Str × V)) | ins (C : Addr) (fs : List (Str × V)) | ptr (i : Nat) | rng (a b c : Int) | slc (lo hi : Option Int)
  | lam (qual : Str) (params : Arguments) (body : Expr) (scope : Scope) (cv : List (Str × Nat))
inductive M where
  | lst (vs : List V) | dct (ks : List (Str × V)) | dci (ks : List (Int × V)) | nsd (fs : List (Str × V)) | ins (C : Addr) (j : Nat) | cel (v : Option V)
  | tab (j : Nat) (P : Addr) (l : List (Nat × Nat)) | exc (j : Option Nat)
structure St where
  loc : List (Str × V)
  mem : List M
inductive VSeq (zf : Addr → Obj → Prop) (T : String) (ll : List Value → Prop) (u : Value) : Prop
  | mk (a : Addr) (o : Obj) (ws : List Value) (n : Nat) (e : u = .ref a) (z : zf a o) (h1 : o.cls = .type T) (h2 : o.data = .seq ws.toArray n) (l : ll ws) : VSeq zf T ll u
inductive VLst (zf : Addr → Obj → Prop) (ll : List Value → Prop) (u : Value) : Prop
  | mk (a : Addr) (o : Obj) (ws : List Value) (n : Nat) (e : u = .ref a) (z : zf a o) (h1 : o = listOf ws.toArray n) (h2 : o.data = .seq ws.toArray n) (l : ll ws) : VLst zf ll u
inductive VDct (w : World) (zf : Addr → Obj → Prop) (ff : List (Str × Value) → Prop) (u : Value) : Prop
  | mk (a : Addr) (o : Obj) (kws : List (Str × Value)) (e : u = .ref a) (z : zf a o) (h1 : a ≠ sysModules) (h2 : o.IsDictOf (strKind thePr w) kws) (l : ff kws) : VDct w zf ff u
inductive VIns (zf : Addr → Obj → Prop) (C : Addr) (ee : List DictEntry → Prop) (u : Value) : Prop
  | mk (x dx : Addr) (es : List DictEntry) (n : Nat) (e : u = .ref x) (z1 : zf x (instObj C dx)) (z2 : zf dx (dictOf es n)) (l : ee es) : VIns zf C ee u
inductive VRng (zf : Addr → Obj → Prop) (i j k : Int) (u : Value) : Prop
  | mk (r : Addr) (t1 t2 t3 : Tok) (e : u = .ref r) (z : zf r { cls := .type "range", dict := none, data := .fields #[.int i t1, .int j t2, .int k t3], slots := #[] }) : VRng zf i j k u
inductive VSlc (zf : Addr → Obj → Prop) (lo hi : Option Int) (u : Value) : Prop
  | mk (r : Addr) (vl vu : Value) (e : u = .ref r) (z : zf r { cls := .type "slice", data := .fields #[vl, vu, .none] }) (p : IsPart vl lo) (q : IsPart vu hi) : VSlc zf lo hi u
inductive VLam (zf : Addr → Obj → Prop) (ad : List Addr) (qual : Str) (params : Arguments) (body : Expr) (scope : Scope) (cv : List (Str × Nat)) (u : Value) : Prop
  | mk (f c' : Addr) (pm ctv : _) (clos : _) (oc : Obj) (vs : Array Value) (t : Tok) (e : u = .ref f) (z1 : zf f (kla_obj "<lambda>" qual params body scope clos pm c' ctv)) (z2 : zf c' oc) (d : oc.data = .fields vs) (g : vs[1]? = some (.str qual t)) (r : ∀ x i, cv.lookup x = some i → ∃ a, clos.lookup x = some a ∧ ad[i]? = some a) : VLam zf ad qual params body scope cv u
section
variable (w : World) (Zb : Addr → Obj → Prop) (fz : Led) (ad : List Addr)
noncomputable def Zf (a : Addr) (o : Obj) : Prop := Zb a o ∨ (a, o) ∈ fz
mutual
noncomputable def isV : V → Value → Prop
  | .none, u => u = .none
  | .bool b, u => u = .bool b
  | .int i, u => ∃ t, u = .int i t
  | .str x, u => ∃ t, u = .str x t
  | .byt b, u => ∃ t, u = .bytes b t
  | .glob v, u => u = v
  | .tup vs, u => VSeq (Zf Zb fz) "tuple" (isL vs) u
  | .lst vs, u => VLst (Zf Zb fz) (isL vs) u
  | .dct ks, u => VDct w (Zf Zb fz) (isF ks) u
  | .ins C fs, u => VIns (Zf Zb fz) C (isE fs) u
  | .ptr i, u => ∃ a, u = .ref a ∧ ad[i]? = some a
  | .rng i j k, u => VRng (Zf Zb fz) i j k u
  | .slc lo hi, u => VSlc (Zf Zb fz) lo hi u
  | .lam qual params body scope cv, u => VLam (Zf Zb fz) ad qual params body scope cv u
noncomputable def isL : List V → List Value → Prop
  | [], us => us = []
  | v :: vs, us => ∃ u us', us = u :: us' ∧ isV v u ∧ isL vs us'
noncomputable def isF : List (Str × V) → List (Str × Value) → Prop
  | [], us => us = []
  | (x, v) :: vs, us => ∃ u us', us = (x, u) :: us' ∧ isV v u ∧ isF vs us'
noncomputable def isE : List (Str × V) → List DictEntry → Prop
  | [], es => es = []
  | (x, v) :: r, es => ∃ hs t u es', es = ⟨hs, .str x t, u⟩ :: es' ∧ isV v u ∧ isE r es'
end
noncomputable def isI : List (Int × V) → List (Int × Value) → Prop
  | [], us => us = []
  | (x, v) :: vs, us => ∃ u us', us = (x, u) :: us' ∧ isV w Zb fz ad v u ∧ isI vs us'
noncomputable def isM : M → Obj → Prop
  | .lst vs, o => ∃ ws n, o = listOf ws.toArray n ∧ isL w Zb fz ad vs ws
  | .dct ks, o => ∃ kws, o.IsDictOf (strKind thePr w) kws ∧ isF w Zb fz ad ks kws
  | .dci ks, o => ∃ kws, o.IsDictOf (intKind thePr w) kws ∧ isI w Zb fz ad ks kws
  | .nsd fs, o => ∃ es n, o = dictOf es n ∧ isE w Zb fz ad fs es
  | .ins C j, o => ∃ dx, o = instObj C dx ∧ ad[j]? = some dx
  | .tab j P l, o => ad[j]? = some P ∧ ∃ ps, o = tabObj ps ∧ TriplesOk ps.toList ∧ ∀ pos : Pos, (pos.line, pos.col) ∉ l → codeAmong pos ps.toList = none
  | .exc j, o => ∃ vs sl dd, o = { cls := .ref 59, dict := dd, data := .fields vs, slots := sl } ∧ vs.size = 6 ∧ vs[1]? = some .none ∧ (match j with | none => dd = none | some j => ∃ dx, dd = some dx ∧ ad[j]? = some dx)
  | .cel v, o => ∃ u, o.data = .cell u ∧ (match v with | none => True | some v => ∃ u', u = some u' ∧ isV w Zb fz ad v u')
end
mutual
noncomputable def old (n : Nat) : V → Prop
  | .tup vs => oldL n vs
  | .lst vs => oldL n vs
  | .dct ks => oldF n ks
  | .ins _ fs => oldF n fs
  | .ptr i => i < n
  | .lam _ _ _ _ cv => ∀ x i, cv.lookup x = some i → i < n
  | _ => True
noncomputable def oldL (n : Nat) : List V → Prop
  | [] => True
  | v :: vs => old n v ∧ oldL n vs
noncomputable def oldF (n : Nat) : List (Str × V) → Prop
  | [] => True
  | (_, v) :: r => old n v ∧ oldF n r
end
noncomputable def oldI (n : Nat) : List (Int × V) → Prop
  | [] => True
  | (_, v) :: r => old n v ∧ oldI n r
noncomputable def oldM (n : Nat) : M → Prop
  | .lst vs => oldL n vs
  | .dct ks => oldF n ks
  | .dci ks => oldI n ks
  | .nsd fs => oldF n fs
  | .ins _ j => j < n
  | .tab j _ _ => j < n
  | .exc (some j) => j < n
  | .exc none => True
  | .cel (some v) => old n v
  | .cel none => True
section
variable {w : World} {Zb : Addr → Obj → Prop} {fz fz' : Led} {ad ad' : List Addr}
theorem Zf.mono {a : Addr} {o : Obj} (hz : ∀ p ∈ fz, p ∈ fz') (h : Zf Zb fz a o) : Zf Zb fz' a o := h.imp id (hz _)
theorem pre_get {i : Nat} {a : Addr} (ha : ad <+: ad') (h : ad[i]? = some a) : ad'[i]? = some a := by
  obtain ⟨t, rfl⟩ := ha
  have := List.getElem?_eq_some_iff.mp h
  rw [List.getElem?_append_left this.1]; exact h
theorem get_lt {α : Type} {l : List α} {i : Nat} {a : α} (h : l[i]? = some a) : i < l.length := (List.getElem?_eq_some_iff.mp h).1
theorem take_get {α : Type} {n : Nat} {l : List α} {i : Nat} {a : α} (hi : i < n) (h : l[i]? = some a) : (l.take n)[i]? = some a := by rw [List.getElem?_take, if_pos hi]; exact h
structure OnF (pf pe : Prop) : Prop where
  f : pf
  e : pe
section
variable {v : V} {vs : List V} {ks : List (Str × V)}
theorem isV.old (v : V) : ∀ u, isV w Zb fz ad v u → old ad.length v :=
  V.rec (motive_1 := fun v => ∀ u, isV w Zb fz ad v u → Mine.old ad.length v) (motive_2 := fun vs => ∀ us, isL w Zb fz ad vs us → oldL ad.length vs) (motive_3 := fun ks => OnF (∀ us, isF w Zb fz ad ks us → oldF ad.length ks) (∀ us, isE w Zb fz ad ks us → oldF ad.length ks))
    (motive_4 := fun p => ∀ u, isV w Zb fz ad p.2 u → Mine.old ad.length p.2)
    (fun _ _ => trivial) (fun _ _ _ => trivial) (fun _ _ _ => trivial) (fun _ _ _ => trivial) (fun _ _ _ => trivial) (fun _ _ _ => trivial)
    (fun vs ih u h => by obtain ⟨_, _, ws, _, _, _, _, _, l⟩ := h; exact ih ws l) (fun vs ih u h => by obtain ⟨_, _, ws, _, _, _, _, _, l⟩ := h; exact ih ws l) (fun ks ih u h => by obtain ⟨_, _, ws, _, _, _, _, l⟩ := h; exact ih.f ws l) (fun C ks ih u h => by obtain ⟨_, _, ws, _, _, _, _, l⟩ := h; exact ih.e ws l)
    (fun i u h => by obtain ⟨_, _, z⟩ := h; exact get_lt z) (fun _ _ _ _ _ => trivial) (fun _ _ _ _ => trivial) (fun _ _ _ _ _ u h => by obtain ⟨_, _, _, _, _, _, _, _, _, _, _, _, _, r⟩ := h; exact fun x i hx => let ⟨_, _, e⟩ := r x i hx; get_lt e)
    (fun _ _ => trivial) (fun v vs a b us h => by obtain ⟨u, us', _, p, q⟩ := h; exact ⟨a u p, b us' q⟩) ⟨fun _ _ => trivial, fun _ _ => trivial⟩
    (fun p r a b => ⟨fun us h => by obtain ⟨u, us', _, p, q⟩ := h; exact ⟨a u p, b.f us' q⟩, fun us h => by obtain ⟨_, _, u, us', _, p, q⟩ := h; exact ⟨a u p, b.e us' q⟩⟩) (fun _ _ a => a) v
theorem isL.old : ∀ (vs : List V) (us : List Value), isL w Zb fz ad vs us → oldL ad.length vs
  | [], _, _ => trivial
  | v :: vs, _, h => by obtain ⟨u, us', _, p, q⟩ := h; exact ⟨isV.old v u p, isL.old vs us' q⟩
theorem isF.old : ∀ (vs : List (Str × V)) (us : List (Str × Value)), isF w Zb fz ad vs us → oldF ad.length vs
  | [], _, _ => trivial
  | (x, v) :: vs, _, h => by obtain ⟨u, us', _, p, q⟩ := h; exact ⟨isV.old v u p, isF.old vs us' q⟩
theorem isE.old : ∀ (vs : List (Str × V)) (us : List DictEntry), isE w Zb fz ad vs us → oldF ad.length vs
  | [], _, _ => trivial
  | (x, v) :: vs, _, h => by obtain ⟨_, _, u, us', _, p, q⟩ := h; exact ⟨isV.old v u p, isE.old vs us' q⟩
theorem isI.old : ∀ (vs : List (Int × V)) (us : List (Int × Value)), isI w Zb fz ad vs us → oldI ad.length vs
  | [], _, _ => trivial
  | (x, v) :: vs, _, h => by obtain ⟨u, us', _, p, q⟩ := h; exact ⟨isV.old v u p, isI.old vs us' q⟩
theorem isM.old {m : M} {o : Obj} (h : isM w Zb fz ad m o) : oldM ad.length m := by
  cases m with
  | lst vs => obtain ⟨ws, n, e, l⟩ := h; exact l.old
  | dct ks => obtain ⟨kws, d, l⟩ := h; exact l.old
  | dci ks => obtain ⟨kws, d, l⟩ := h; exact l.old
  | nsd fs => obtain ⟨es, n, e, l⟩ := h; exact l.old
  | ins C j => obtain ⟨dx, e, q⟩ := h; exact get_lt q
  | tab j P l => exact get_lt h.1
  | exc j =>
    refine oEEEAAA h fun vs sl dd e h1 h2 h3 => ?_
    cases j with
    | none => trivial
    | some j => obtain ⟨dx, e1, e2⟩ := h3; exact get_lt e2
  | cel v =>
    refine oEA h fun u d l => ?_
    cases v with
    | none => trivial
    | some v => obtain ⟨u', e, q⟩ := l; exact q.old
end
section
variable {n : Nat}
theorem isV.keep (hz : ∀ p ∈ fz, p ∈ fz') (ha : ad.take n <+: ad') (v : V) (u : Value) (q : Mine.old n v) (h : isV w Zb fz ad v u) : isV w Zb fz' ad' v u :=
  V.rec (motive_1 := fun v => Mine.old n v → ∀ u, isV w Zb fz ad v u → isV w Zb fz' ad' v u) (motive_2 := fun vs => oldL n vs → ∀ us, isL w Zb fz ad vs us → isL w Zb fz' ad' vs us)
    (motive_3 := fun ks => OnF (oldF n ks → ∀ us, isF w Zb fz ad ks us → isF w Zb fz' ad' ks us) (oldF n ks → ∀ us, isE w Zb fz ad ks us → isE w Zb fz' ad' ks us))
    (motive_4 := fun p => Mine.old n p.2 → ∀ u, isV w Zb fz ad p.2 u → isV w Zb fz' ad' p.2 u)
    (fun _ _ h => h) (fun _ _ _ h => h) (fun _ _ _ h => h) (fun _ _ _ h => h) (fun _ _ _ h => h) (fun _ _ _ h => h)
    (fun vs ih q u h => by obtain ⟨a, o, ws, k, e, z, c, d, l⟩ := h; exact ⟨a, o, ws, k, e, z.mono hz, c, d, ih q ws l⟩)
    (fun vs ih q u h => by obtain ⟨a, o, ws, k, e, z, c, d, l⟩ := h; exact ⟨a, o, ws, k, e, z.mono hz, c, d, ih q ws l⟩)
    (fun ks ih q u h => by obtain ⟨a, o, ws, e, z, c, d, l⟩ := h; exact ⟨a, o, ws, e, z.mono hz, c, d, ih.f q ws l⟩)
    (fun C ks ih q u h => by obtain ⟨x, dx, es, k, e, z1, z2, l⟩ := h; exact ⟨x, dx, es, k, e, z1.mono hz, z2.mono hz, ih.e q es l⟩)
    (fun i q u h => by obtain ⟨a, e, z⟩ := h; exact ⟨a, e, pre_get ha (take_get q z)⟩)
    (fun _ _ _ _ u h => by obtain ⟨r, t1, t2, t3, e, z⟩ := h; exact ⟨r, t1, t2, t3, e, z.mono hz⟩)
    (fun _ _ _ u h => by obtain ⟨r, vl, vu, e, z, p, q⟩ := h; exact ⟨r, vl, vu, e, z.mono hz, p, q⟩)
    (fun _ _ _ _ _ q u h => by obtain ⟨f, c', pm, ctv, clos, oc, vs, t, e, z1, z2, p, p', r⟩ := h; exact ⟨f, c', pm, ctv, clos, oc, vs, t, e, z1.mono hz, z2.mono hz, p, p', fun x i hx => let ⟨a, h1, h2⟩ := r x i hx; ⟨a, h1, pre_get ha (take_get (q x i hx) h2)⟩⟩)
    (fun _ _ h => h) (fun v vs a b q us h => by obtain ⟨u, us', e, h1, h2⟩ := h; exact ⟨u, us', e, a q.1 u h1, b q.2 us' h2⟩) ⟨fun _ _ h => h, fun _ _ h => h⟩
    (fun p r a b => ⟨fun q us h => by obtain ⟨u, us', e, h1, h2⟩ := h; exact ⟨u, us', e, a q.1 u h1, b.f q.2 us' h2⟩, fun q us h => by obtain ⟨hs, t, u, us', e, h1, h2⟩ := h; exact ⟨hs, t, u, us', e, a q.1 u h1, b.e q.2 us' h2⟩⟩) (fun _ _ a => a) v q u h
theorem isL.keep (hz : ∀ p ∈ fz, p ∈ fz') (ha : ad.take n <+: ad') : ∀ (vs : List V) (us : List Value), oldL n vs → isL w Zb fz ad vs us → isL w Zb fz' ad' vs us
  | [], us, q, h => h
  | v :: vs, us, q, h => by obtain ⟨u, us', e, a, b⟩ := h; exact ⟨u, us', e, isV.keep hz ha v u q.1 a, isL.keep hz ha vs us' q.2 b⟩
theorem isF.keep (hz : ∀ p ∈ fz, p ∈ fz') (ha : ad.take n <+: ad') : ∀ (vs : List (Str × V)) (us : List (Str × Value)), oldF n vs → isF w Zb fz ad vs us → isF w Zb fz' ad' vs us
  | [], us, q, h => h
  | (x, v) :: vs, us, q, h => by obtain ⟨u, us', e, a, b⟩ := h; exact ⟨u, us', e, isV.keep hz ha v u q.1 a, isF.keep hz ha vs us' q.2 b⟩
theorem isE.keep (hz : ∀ p ∈ fz, p ∈ fz') (ha : ad.take n <+: ad') : ∀ (vs : List (Str × V)) (us : List DictEntry), oldF n vs → isE w Zb fz ad vs us → isE w Zb fz' ad' vs us
  | [], us, q, h => h
  | (x, v) :: vs, us, q, h => by obtain ⟨hs, t, u, us', e, a, b⟩ := h; exact ⟨hs, t, u, us', e, isV.keep hz ha v u q.1 a, isE.keep hz ha vs us' q.2 b⟩
theorem isI.keep (hz : ∀ p ∈ fz, p ∈ fz') (ha : ad.take n <+: ad') : ∀ (vs : List (Int × V)) (us : List (Int × Value)), oldI n vs → isI w Zb fz ad vs us → isI w Zb fz' ad' vs us
  | [], us, q, h => h
  | (x, v) :: vs, us, q, h => by obtain ⟨u, us', e, a, b⟩ := h; exact ⟨u, us', e, isV.keep hz ha v u q.1 a, isI.keep hz ha vs us' q.2 b⟩
theorem isM.keep (hz : ∀ p ∈ fz, p ∈ fz') (ha : ad.take n <+: ad') {m : M} {o : Obj} (q : oldM n m) (h : isM w Zb fz ad m o) : isM w Zb fz' ad' m o := by
  cases m with
  | lst vs => obtain ⟨ws, k, e, l⟩ := h; exact ⟨ws, k, e, l.keep hz ha _ _ q⟩
  | dct ks => obtain ⟨kws, d, l⟩ := h; exact ⟨kws, d, l.keep hz ha _ _ q⟩
  | dci ks => obtain ⟨kws, d, l⟩ := h; exact ⟨kws, d, l.keep hz ha _ _ q⟩
  | nsd fs => obtain ⟨es, k, e, l⟩ := h; exact ⟨es, k, e, l.keep hz ha _ _ q⟩
  | ins C j => obtain ⟨dx, e, z⟩ := h; exact ⟨dx, e, pre_get ha (take_get q z)⟩
  | tab j P l => exact ⟨pre_get ha (take_get q h.1), h.2⟩
  | exc j =>
    refine oEEEAAA h fun vs sl dd e h1 h2 h3 => ?_
    refine ⟨vs, sl, dd, e, h1, h2, ?_⟩
    cases j with
    | none => exact h3
    | some j => obtain ⟨dx, e1, e2⟩ := h3; exact ⟨dx, e1, pre_get ha (take_get q e2)⟩
  | cel v =>
    refine oEA h fun u d l => ?_
    refine ⟨u, d, ?_⟩
    cases v with
    | none => trivial
    | some v => obtain ⟨u', e, z⟩ := l; exact ⟨u', e, z.keep hz ha _ _ q⟩
end
theorem all_taken (ha : ad <+: ad') : ad.take ad.length <+: ad' := by rw [List.take_length]; exact ha
theorem isV.mono (hz : ∀ p ∈ fz, p ∈ fz') (ha : ad <+: ad') (v : V) (u : Value) (h : isV w Zb fz ad v u) : isV w Zb fz' ad' v u := isV.keep hz (all_taken ha) v u (isV.old v u h) h
theorem isL.mono (hz : ∀ p ∈ fz, p ∈ fz') (ha : ad <+: ad') (v : List V) (u : List Value) (h : isL w Zb fz ad v u) : isL w Zb fz' ad' v u := isL.keep hz (all_taken ha) v u (isL.old v u h) h
theorem isF.mono (hz : ∀ p ∈ fz, p ∈ fz') (ha : ad <+: ad') (v : List (Str × V)) (u : List (Str × Value)) (h : isF w Zb fz ad v u) : isF w Zb fz' ad' v u := isF.keep hz (all_taken ha) v u (isF.old v u h) h
theorem isE.mono (hz : ∀ p ∈ fz, p ∈ fz') (ha : ad <+: ad') (v : List (Str × V)) (u : List DictEntry) (h : isE w Zb fz ad v u) : isE w Zb fz' ad' v u := isE.keep hz (all_taken ha) v u (isE.old v u h) h
theorem isI.mono (hz : ∀ p ∈ fz, p ∈ fz') (ha : ad <+: ad') (v : List (Int × V)) (u : List (Int × Value)) (h : isI w Zb fz ad v u) : isI w Zb fz' ad' v u := isI.keep hz (all_taken ha) v u (isI.old v u h) h
theorem isM.mono (hz : ∀ p ∈ fz, p ∈ fz') (ha : ad <+: ad') {m : M} {o : Obj} (h : isM w Zb fz ad m o) : isM w Zb fz' ad' m o := isM.keep hz (all_taken ha) h.old h
end
end Mine
end
section
open PySem PySem.W PyProof.Rows PySem.Spec PySem.Calls
namespace Mine
structure Cb where
  w : World
  lv : Nat
  p : Program
  loose : List Str
  mean : ExcName → Option Value
  mg : Str → Option Value
  mb : Str → Option Value
  dp : Nat
  un : Nat
  gd : Option (List Code)
  cn : Str
  cs : Scope
  a : Addr
  ccd : Value
  cl : List (Str × Addr)
  outer : List Env
  A₀ : Around
  base : Heap
  h₀ : Heap
  L : Addr
  Zb : Addr → Obj → Prop
  xs : Led
  env : Env
  cm : Option ((Str → Option Value) × (Str → Option Value))
structure Cx where
  X : Cb
  sc : Scope
  cel : List (Str × Nat)
  n0 : Nat
noncomputable abbrev Cx.A (c : Cx) : Around := ktrTop c.X.dp c.X.un c.X.gd c.X.cn c.X.cs c.X.L c.X.a c.X.ccd c.X.cl c.X.outer
noncomputable abbrev Cx.M (c : Cx) : Model := model thePr c.X.w
noncomputable abbrev Cx.env (c : Cx) : Env := c.X.env
noncomputable def LocAt (cm : Option ((Str → Option Value) × (Str → Option Value))) (m f : Str → Option Value) : Prop := match cm with
  | none => f = m
  | some (lf, om) => m = om ∧ f = lf
structure Cx.Ok (c : Cx) : Prop where
  below : Below c.X.A₀ c.X.base c.X.outer c.X.h₀
  kin : (wrt.heap_1 c.X.w.params).In c.X.h₀
  top : Top c.X.p c.X.loose c.X.mean c.X.mg c.X.mb c.X.h₀
  kind : c.X.cs.kind = .function
  dep : c.X.dp + c.X.lv < 900
  unt : c.X.un + 20 * c.X.lv < 9000
  zb : ∀ a o, c.X.Zb a o → c.X.h₀.get? a = some o
  kz : ∀ a o, (wrt.heap_1 c.X.w.params).lookup a = some o → c.X.Zb a o
  eg : c.env.globals = mainGlobals
  ek : c.env.scope.kind = .function
  es : c.env.scope = c.sc
  eb : c.env.builtins = builtinsNs
  ld : ∀ (x : Str) (pos : Pos) (u : Value) (m f : Str → Option Value) (s : Shared) (Q E : Value → Shared → Prop), c.sc.names.lookup x = some .local → (x == ("__debug__" : Str)) = false → Fr c.X.h₀ c.X.L s.heap m → News c.X.h₀ c.X.L s.heap c.X.xs → LocAt c.X.cm m f → f x = some u → Q u s →
    wpAny c.M c.A (eval (.Name x pos) c.env) Q E s
  lc : ∀ (x : Str) (pos : Pos) (cc : Addr) (o : Obj) (u : Value) (s : Shared) (Q E : Value → Shared → Prop), (c.sc.names.lookup x = some .cell ∨ c.sc.names.lookup x = some .free) → (x == ("__debug__" : Str)) = false → (x == ("__classdict__" : Str)) = false →
    c.env.cells.lookup x = some cc → s.heap.get? cc = some o → o.data = .cell (some u) → Q u s → wpAny c.M c.A (eval (.Name x pos) c.env) Q E s
noncomputable abbrev adr (ml : Led) : List Addr := ml.map (·.1)
noncomputable abbrev Cx.v (c : Cx) (fz ml : Led) : V → Value → Prop := isV c.X.w c.X.Zb fz (adr ml)
noncomputable abbrev Cx.l (c : Cx) (fz ml : Led) : List V → List Value → Prop := isL c.X.w c.X.Zb fz (adr ml)
noncomputable def memIs (c : Cx) (fz : Led) (ad : List Addr) : List M → Led → Prop
  | [], ml => ml = []
  | m :: ms, ml => ∃ p r, ml = p :: r ∧ isM c.X.w c.X.Zb fz ad m p.2 ∧ memIs c fz ad ms r
inductive FrAt (h₀ : Heap) (L : Addr) (cm : Option ((Str → Option Value) × (Str → Option Value))) (vv : V → Value → Prop) (loc : List (Str × V)) (h : Heap) : Prop
  | mk (m f : Str → Option Value) (F : Fr h₀ L h m) (LA : LocAt cm m f) (lo : ∀ x v, loc.lookup x = some v → ∃ u, f x = some u ∧ vv v u) : FrAt h₀ L cm vv loc h
structure Rel (c : Cx) (σ : St) (fz ml : Led) (h : Heap) : Prop where
  ok : c.Ok
  fr : FrAt c.X.h₀ c.X.L c.X.cm (c.v fz ml) σ.loc h
  news : News c.X.h₀ c.X.L h (ml ++ fz ++ c.X.xs)
  nd : ((ml ++ fz ++ c.X.xs).map (·.1)).Nodup
  mem : memIs c fz (adr ml) σ.mem ml
  cels : ∀ x i, c.cel.lookup x = some i → ∃ a, c.env.cells.lookup x = some a ∧ (adr ml)[i]? = some a
  n0 : c.n0 ≤ ml.length
  hi : ∀ p ∈ ml ++ fz ++ c.X.xs, sysModules < p.1
noncomputable def Ext (fz ml fz' ml' : Led) : Prop := (∀ p ∈ fz, p ∈ fz') ∧ adr ml <+: adr ml'
theorem Ext.rfl {fz ml : Led} : Ext fz ml fz ml := ⟨fun _ h => h, List.prefix_refl _⟩
theorem Ext.trans {fz ml fz' ml' fz'' ml'' : Led} (x : Ext fz ml fz' ml') (y : Ext fz' ml' fz'' ml'') : Ext fz ml fz'' ml'' := ⟨fun p h => y.1 p (x.1 p h), x.2.trans y.2⟩
noncomputable def ExtN (c : Cx) (fz ml fz' ml' : Led) : Prop := (∀ p ∈ fz, p ∈ fz') ∧ (adr ml).take c.n0 <+: adr ml'
theorem ExtN.rfl {c : Cx} {fz ml : Led} : ExtN c fz ml fz ml := ⟨fun _ h => h, List.take_prefix _ _⟩
theorem Ext.n {c : Cx} {fz ml fz' ml' : Led} (x : Ext fz ml fz' ml') : ExtN c fz ml fz' ml' := ⟨x.1, (List.take_prefix _ _).trans x.2⟩
theorem ExtN.trans {c : Cx} {fz ml fz' ml' fz'' ml'' : Led} (x : ExtN c fz ml fz' ml') (hn : c.n0 ≤ ml.length) (y : ExtN c fz' ml' fz'' ml'') : ExtN c fz ml fz'' ml'' := ⟨fun p h => y.1 p (x.1 p h), by
  have e : (adr ml).take c.n0 = (adr ml').take c.n0 := by
    refine oE x.2 fun t ht => ?_
    rw [← ht, List.take_append_of_le_length (by rw [List.length_take, List.length_map]; lia), List.take_take, Nat.min_self]
  rw [e]; exact y.2⟩
noncomputable abbrev shr (s : Shared) (h : Heap) (tk : Nat) : Shared := { s with heap := h, toks := tk }
noncomputable def Post (c : Cx) (loc : List (Str × V)) (fz ml : Led) (P : V → List M → Prop) (Q : Value → Shared → Prop) (s : Shared) : Prop :=
  ∀ v mem' fz' ml' h' tk' u, P v mem' → Ext fz ml fz' ml' → Rel c ⟨loc, mem'⟩ fz' ml' h' → c.v fz' ml' v u → Q u (shr s h' tk')
noncomputable def PostT (c : Cx) (loc : List (Str × V)) (fz ml : Led) (P : Bool → List M → Prop) (Q : Bool → Shared → Prop) (s : Shared) : Prop :=
  ∀ b mem' fz' ml' h' tk', P b mem' → Ext fz ml fz' ml' → Rel c ⟨loc, mem'⟩ fz' ml' h' → Q b (shr s h' tk')
noncomputable def InAir (B : Heap) (l : List Env) (e : Addr) (cls a0 : Value) (L : Addr) (h : Heap) : Prop :=
  (B.StaysIn h ∧ B.get? e = none ∧ h.FunFrames B l ∧ ∃ oe vs, h.get? e = some oe ∧ oe.cls = cls ∧ oe.data = .fields vs ∧ vs[0]? = some a0 ∧ vs[1]? = some .none) ∨ Heap.HeldW B l e cls a0 L h ∨ Heap.FlyingW B l e cls a0 h
noncomputable def RaisedX (base G : Heap) (l : List Env) (L e : Addr) (cls : Value) (news : Led) (h : Heap) : Prop :=
  ∃ B a0, base.StaysIn B ∧ (∀ b o, G.get? b = some o → b ∉ l.filterMap (·.frame) → B.get? b = some o) ∧ (∀ q ∈ news, B.get? q.1 = some q.2 ∧ G.get? q.1 = none ∧ base.get? q.1 = none) ∧ InAir B l e cls a0 L h
section
variable {M : Model} {A : Around} {E : Value → Shared → Prop} {s : Shared} {B : Heap} {env : Env} {outer : List Env} {L e : Addr} {cls a0 : Value} {Q : Unit → Shared → Prop}
theorem InAir.noted (x : InAir B (env :: outer) e cls a0 L s.heap) (hfr : A.frames = some (env :: outer)) (hf : env.frame = some L)
    (hQ : ∀ h', Heap.HeldW B (env :: outer) e cls a0 L h' → s.heap.UpToSlots h' → Q () { s with heap := h' }) : wpAny M A (noteFrame (.ref e) env) Q E s := by
  rcases x with ⟨f1, f2, f3, oe, vs, he, hc, hd, h0, h1⟩ | x | x
  · unfold noteFrame
    simp only [hf]
    refine wpAny_bind (wpAny_field he hd h1 ?_)
    rw [if_neg (by decide)]
    subst hc
    exact wpAny_entryW hfr f3 hf he f1 f2 hd (Array.getElem?_eq_some_iff.mp h1).1 h0 fun h' ⟨k1, k2, k3, k4⟩ => hQ h' ⟨k1, f2, k2, k3⟩ k4
  · exact wpAny_noteFrame_againW hf x.2.2.2 (hQ s.heap x (.refl _))
  · exact wpAny_looks_onW hfr hf x hQ
theorem held_again (x : Heap.HeldW B (env :: outer) e cls a0 L s.heap) (hf : env.frame = some L) {E' : Value → Shared → Prop}
    (hQ : ∀ h', Heap.HeldW B (env :: outer) e cls a0 L h' → s.heap.UpToSlots h' → E (.ref e) { s with heap := h' }) : cameBackBy M A env E (.ref e) s := by
  refine hold fun _ hK9 => ?_
  obtain ⟨f1, f2, f3, oe, vs, T, oT, ts, he, hcls, hd, h1, hnT, hTe, hT, hdT, h3⟩ := x
  refine hK9 ?_
  unfold cameBackBy
  refine wpAny_bind (wpAny_field he hd h1 ?_)
  rw [if_neg (show ¬ ((Value.ref T == Value.none) = true) from by simp)]
  have hsz3 : 3 < ts.size := (Array.getElem?_eq_some_iff.mp h3).1
  have other : ∀ b, b ≠ T → (s.heap.update T (Obj.mapFields (·.setIfInBounds 3 ((some L).elim Value.none fun f => rawInt f)))).get? b = s.heap.get? b :=
    fun b hb => Heap.get?_update_other _ _ (Ne.symm hb)
  have noRecord : ∀ b o, s.heap.get? b = some o → (∀ vs, o.data ≠ .fields vs) → b ≠ T := fun b o hb hnf q => by
    rw [q, hT] at hb; injection hb with hb; subst hb; exact hnf ts hdT
  have key : wpAny M A (setFlight (.ref e) env.frame) (fun _ s'' => E (.ref e) s'') E s := by
    rw [hf]
    unfold setFlight
    refine wpAny_bind (wpAny_field he hd h1 ?_)
    rw [if_pos (show (Value.ref T != Value.none) = true from by simp)]
    refine wpAny_setField hT hdT hsz3 (hQ _ ⟨fun b o hbo => (other b fun q => by rw [q, hnT] at hbo; cases hbo).trans (f1 b o hbo), f2,
      f3.of_keeps fun b o hb hnf => ⟨o, (other b (noRecord b o hb hnf)).trans hb, rfl⟩, ?_⟩ fun b o hb hnf => ⟨o.slots, (other b (noRecord b o hb hnf)).trans hb⟩)
    exact ⟨oe, vs, T, _, _, (other e (Ne.symm hTe)).trans he, hcls, hd, h1, hnT, hTe, Heap.get?_update_self _ hT (Obj.isFreed_of_fields (Obj.data_mapFields hdT _)), Obj.data_mapFields hdT _, by simp [hsz3]⟩
  first
    | exact wpAny_bind (wpAny_pure key)
    | exact key
theorem InAir.leave (x : InAir B (env :: outer) e cls a0 L s.heap) (hfr : A.frames = some (env :: outer)) (hf : env.frame = some L)
    (hQ : ∀ h', Heap.FlyingW B outer e cls a0 h' → s.heap.UpToSlots h' → Q () { s with heap := h' }) : wpAny M A (leaving env (.ref e)) Q E s := by
  rcases x with ⟨f1, f2, f3, oe, vs, he, hc, hd, h0, h1⟩ | x | x
  · subst hc
    exact wpAny_leaving_firstW hfr f3 hf he f1 f2 hd h1 h0 fun h' ⟨k1, ⟨_, _, k2⟩, k3, k4⟩ => hQ h' ⟨k1, f2, k2, k3⟩ k4
  · unfold leaving
    refine wpAny_bind (wpAny_noteFrame_againW hf x.2.2.2 ?_)
    refine wpAny_landsW x fun h' hfl hs => ?_
    refine oAAA hfl fun k1 k2 q92 k4 => ?_
    refine oAA q92 fun _ _ k3 => ?_
    exact hQ h' ⟨k1, k2, k3, k4⟩ hs
  · exact wpAny_leaves_onW hfr hf x hQ
end
inductive FlAt (h₀ : Heap) (L : Addr) (cm : Option ((Str → Option Value) × (Str → Option Value))) (vv : V → Value → Prop) (loc : List (Str × V)) (base : Heap) (es : List Env) (nw : Led) (u : Value) (h : Heap) : Prop
  | mk (e : Addr) (G : Heap) (m f : Str → Option Value) (hu : u = .ref e) (F : Fr h₀ L G m) (LA : LocAt cm m f) (lo : ∀ x v, loc.lookup x = some v → ∃ u, f x = some u ∧ vv v u) (r : RaisedX base G es L e (.ref 59) nw h) (s : G.UpToSlots h) : FlAt h₀ L cm vv loc base es nw u h
structure RelE (c : Cx) (σ : St) (fz ml : Led) (h : Heap) (u : Value) : Prop where
  ok : c.Ok
  fl : FlAt c.X.h₀ c.X.L c.X.cm (c.v fz ml) σ.loc c.X.base (envX c.X.cn c.X.cs c.X.L c.X.a c.X.ccd c.X.cl :: c.X.outer) (ml ++ fz ++ c.X.xs) u h
  nd : ((ml ++ fz ++ c.X.xs).map (·.1)).Nodup
  mem : memIs c fz (adr ml) σ.mem ml
  cels : ∀ x i, c.cel.lookup x = some i → ∃ a, c.env.cells.lookup x = some a ∧ (adr ml)[i]? = some a
  n0 : c.n0 ≤ ml.length
  hi : ∀ p ∈ ml ++ fz ++ c.X.xs, sysModules < p.1
inductive Fl where
  | nxt | brk | cnt | ret (v : V) | rai
noncomputable def Cx.fl (c : Cx) (fz ml : Led) : Fl → Flow → Prop
  | .nxt, f => f = .next
  | .brk, f => f = .brk
  | .cnt, f => f = .cont
  | .ret v, f => ∃ u, f = .ret u ∧ c.v fz ml v u
  | .rai, f => False
noncomputable def PostR (c : Cx) (fz ml : Led) (P : Fl → St → Prop) (E : Value → Shared → Prop) (s : Shared) : Prop :=
  ∀ σ' fz' ml' h' tk' u, P .rai σ' → ExtN c fz ml fz' ml' → RelE c σ' fz' ml' h' u → E u (shr s h' tk')
noncomputable def PostRE (c : Cx) (loc : List (Str × V)) (fz ml : Led) (P : List M → Prop) (E : Value → Shared → Prop) (s : Shared) : Prop :=
  ∀ mem' fz' ml' h' tk' u, P mem' → Ext fz ml fz' ml' → RelE c ⟨loc, mem'⟩ fz' ml' h' u → E u (shr s h' tk')
noncomputable def PostX (c : Cx) (fz ml : Led) (P : Fl → St → Prop) (Q : Flow → Shared → Prop) (s : Shared) : Prop :=
  ∀ f σ' fz' ml' h' tk' u, P f σ' → ExtN c fz ml fz' ml' → Rel c σ' fz' ml' h' → c.fl fz' ml' f u → Q u (shr s h' tk')
noncomputable def WE (c : Cx) (e : Expr) (σ : St) (P : V → List M → Prop) : Prop :=
  ∀ s fz ml Q E, Rel c σ fz ml s.heap → Post c σ.loc fz ml P Q s → wpAny c.M c.A (eval e c.env) Q E s
noncomputable def W1 (c : Cx) (t : Value → Sem Value) (a : V) (σ : St) (P : V → List M → Prop) : Prop :=
  ∀ s fz ml u Q E, Rel c σ fz ml s.heap → c.v fz ml a u → Post c σ.loc fz ml P Q s → wpAny c.M c.A (t u) Q E s
noncomputable def W2 (c : Cx) (t : Value → Value → Sem Value) (a b : V) (σ : St) (P : V → List M → Prop) : Prop :=
  ∀ s fz ml u u' Q E, Rel c σ fz ml s.heap → c.v fz ml a u → c.v fz ml b u' → Post c σ.loc fz ml P Q s → wpAny c.M c.A (t u u') Q E s
noncomputable def WL (c : Cx) (t : List Value → Sem Value) (a : List V) (σ : St) (P : V → List M → Prop) : Prop :=
  ∀ s fz ml u Q E, Rel c σ fz ml s.heap → c.l fz ml a u → Post c σ.loc fz ml P Q s → wpAny c.M c.A (t u) Q E s
noncomputable def WR (c : Cx) (t : List Value → Sem Value) (a : List V) (σ : St) (P : V → List M → Prop) (PR : List M → Prop) : Prop :=
  ∀ s fz ml u Q E, Rel c σ fz ml s.heap → c.l fz ml a u → Post c σ.loc fz ml P Q s → PostRE c σ.loc fz ml PR E s → wpAny c.M c.A (t u) Q E s
noncomputable def WT (c : Cx) (e : Expr) (σ : St) (P : Bool → List M → Prop) : Prop :=
  ∀ s fz ml Q E, Rel c σ fz ml s.heap → PostT c σ.loc fz ml P Q s → wpAny c.M c.A (isTrue e c.env (eval e c.env)) Q E s
noncomputable def WU (c : Cx) (a : V) (σ : St) (P : Bool → List M → Prop) : Prop :=
  ∀ s fz ml u Q E, Rel c σ fz ml s.heap → c.v fz ml a u → PostT c σ.loc fz ml P Q s → wpAny c.M c.A (truthy u) Q E s
structure Cx.IsFn (c : Cx) : Prop where
  cm : c.X.cm = none
  env : c.X.env = envX c.X.cn c.X.cs c.X.L c.X.a c.X.ccd c.X.cl
  sc : c.sc = c.X.cs
noncomputable def WX (c : Cx) (ss : List Stmt) (σ : St) (P : Fl → St → Prop) : Prop :=
  c.IsFn → ∀ s fz ml Q E, Rel c σ fz ml s.heap → PostX c fz ml P Q s → PostR c fz ml P E s → wpAny c.M c.A (execs ss c.env) Q E s
noncomputable def W0 (c : Cx) (st : Stmt) (σ : St) (P : Fl → St → Prop) : Prop :=
  c.IsFn → ∀ s fz ml Q E, Rel c σ fz ml s.heap → PostX c fz ml P Q s → PostR c fz ml P E s → wpAny c.M c.A (exec st c.env) Q E s
theorem isVmono {c : Cx} {fz ml fz' ml' : Led} (x : Ext fz ml fz' ml') {v : V} {u : Value} (h : c.v fz ml v u) : c.v fz' ml' v u := isV.mono x.1 x.2 v u h
theorem isLmono {c : Cx} {fz ml fz' ml' : Led} (x : Ext fz ml fz' ml') {v : List V} {u : List Value} (h : c.l fz ml v u) : c.l fz' ml' v u := isL.mono x.1 x.2 v u h
section
variable {c : Cx} {σ : St} {ρl : List (Str × V)} {ρm : List M} {P : V → List M → Prop} {PT : Bool → List M → Prop} {l r e test body orelse : Expr} {pos : Pos} {a b : V}
theorem Post.after {loc fz ml fz' ml' Q s h tk} (k : Post c loc fz ml P Q s) (x : Ext fz ml fz' ml') : Post c loc fz' ml' P Q (shr s h tk) :=
  fun v mem' fz2 ml2 h2 tk2 u p x2 r2 i2 => k v mem' fz2 ml2 h2 tk2 u p (x.trans x2) r2 i2
theorem PostT.after {loc fz ml fz' ml' Q s h tk} (k : PostT c loc fz ml PT Q s) (x : Ext fz ml fz' ml') : PostT c loc fz' ml' PT Q (shr s h tk) :=
  fun v mem' fz2 ml2 h2 tk2 p x2 r2 => k v mem' fz2 ml2 h2 tk2 p (x.trans x2) r2
theorem PostX.after {fz ml fz' ml' Q s h tk} {P : Fl → St → Prop} (k : PostX c fz ml P Q s) (hn : c.n0 ≤ ml.length) (x : ExtN c fz ml fz' ml') : PostX c fz' ml' P Q (shr s h tk) :=
  fun v mem' fz2 ml2 h2 tk2 u p x2 r2 i2 => k v mem' fz2 ml2 h2 tk2 u p (x.trans hn x2) r2 i2
theorem PostR.after {fz ml fz' ml' E s h tk} {P : Fl → St → Prop} (k : PostR c fz ml P E s) (hn : c.n0 ≤ ml.length) (x : ExtN c fz ml fz' ml') : PostR c fz' ml' P E (shr s h tk) :=
  fun mem' fz2 ml2 h2 tk2 u p x2 r2 => k mem' fz2 ml2 h2 tk2 u p (x.trans hn x2) r2
theorem PostRE.after {loc fz ml fz' ml' E s h tk} {P : List M → Prop} (k : PostRE c loc fz ml P E s) (x : Ext fz ml fz' ml') : PostRE c loc fz' ml' P E (shr s h tk) :=
  fun mem' fz2 ml2 h2 tk2 u p x2 r2 => k mem' fz2 ml2 h2 tk2 u p (x.trans x2) r2
theorem WE.bin {op : Operator} (h : WE c l ⟨ρl, ρm⟩ fun a m => WE c r ⟨ρl, m⟩ fun b m' => W2 c (binaryOp op) a b ⟨ρl, m'⟩ P) : WE c (.BinOp l op r pos) ⟨ρl, ρm⟩ P :=
  fun s fz ml Q E R k => wpAny_BinOp (h s fz ml _ _ R fun a m fz1 ml1 h1 tk1 ua ha x1 R1 i1 => ha _ fz1 ml1 _ _ R1 fun b m' fz2 ml2 h2 tk2 ub hb x2 R2 i2 => hb _ fz2 ml2 ua ub Q E R2 (isVmono x2 i1) i2 (Post.after k (x1.trans x2)))
theorem WE.un {op : UnaryOp} (h : WE c e ⟨ρl, ρm⟩ fun a m => W1 c (unaryOp op) a ⟨ρl, m⟩ P) : WE c (.UnaryOp op e pos) ⟨ρl, ρm⟩ P :=
  fun s fz ml Q E R k => UnaryOp_ (h s fz ml _ _ R fun a m fz1 ml1 h1 tk1 ua ha x1 R1 i1 => ha _ fz1 ml1 _ Q E R1 i1 (k.after x1))
theorem WE.cmp {op : CmpOp} (h : WE c l ⟨ρl, ρm⟩ fun a m => WE c r ⟨ρl, m⟩ fun b m' => W2 c (compareOp op) a b ⟨ρl, m'⟩ P) (hm : behindInMarks op r = false := by rfl) : WE c (.Compare l [op] [r] pos) ⟨ρl, ρm⟩ P :=
  fun s fz ml Q E R k => wpAny_Compare1 (h s fz ml _ _ R fun a m fz1 ml1 h1 tk1 ua ha x1 R1 i1 => ha _ fz1 ml1 _ _ R1 fun b m' fz2 ml2 h2 tk2 ub hb x2 R2 i2 => hb _ fz2 ml2 ua ub Q E R2 (isVmono x2 i1) i2 (k.after (x1.trans x2))) hm
theorem WE.ife (h : WT c test ⟨ρl, ρm⟩ fun b m => if b = true then WE c body ⟨ρl, m⟩ P else WE c orelse ⟨ρl, m⟩ P) : WE c (.IfExp test body orelse pos) ⟨ρl, ρm⟩ P :=
  fun s fz ml Q E R k => IfExp_ (h s fz ml _ _ R fun b m fz1 ml1 h1 tk1 hb x1 R1 => by
    cases b with
    | true => exact hb _ fz1 ml1 Q E R1 (k.after x1)
    | false => exact hb _ fz1 ml1 Q E R1 (k.after x1))
theorem WE.sub (h : WE c l ⟨ρl, ρm⟩ fun a m => WE c r ⟨ρl, m⟩ fun b m' => W2 c (subscriptTail l r) a b ⟨ρl, m'⟩ P) : WE c (.Subscript l r pos) ⟨ρl, ρm⟩ P :=
  fun s fz ml Q E R k => Subscript_ (h s fz ml _ _ R fun a m fz1 ml1 h1 tk1 ua ha x1 R1 i1 => ha _ fz1 ml1 _ _ R1 fun b m' fz2 ml2 h2 tk2 ub hb x2 R2 i2 => hb _ fz2 ml2 ua ub Q E R2 (isVmono x2 i1) i2 (k.after (x1.trans x2)))
theorem WE.int {i : Int} {k : Nat} (h : P (.int i) ρm) : WE c (.Constant (.int i) k pos) ⟨ρl, ρm⟩ P :=
  fun s fz ml Q E R k => wpAny_Constant_int (k _ _ fz ml s.heap _ _ h .rfl R (by exact ⟨_, rfl⟩))
theorem WE.str {i : Str} {k : Nat} (h : P (.str i) ρm) : WE c (.Constant (.str i) k pos) ⟨ρl, ρm⟩ P :=
  fun s fz ml Q E R k => Constant_str (k _ _ fz ml s.heap _ _ h .rfl R (by exact ⟨_, rfl⟩))
theorem WE.none {k : Nat} (h : P .none ρm) : WE c (.Constant .none k pos) ⟨ρl, ρm⟩ P :=
  fun s fz ml Q E R k => wpAny_Constant_none (k _ _ fz ml s.heap s.toks _ h .rfl R (by rfl))
theorem WE.loc {x : Str} {v : V} (hv : ρl.lookup x = some v) (h : P v ρm) (hk : c.sc.names.lookup x = some .local := by rfl) (hd : (x == ("__debug__" : Str)) = false := by rfl) : WE c (.Name x pos) ⟨ρl, ρm⟩ P :=
  fun s fz ml Q E R k => by
    refine hold fun _ hK9 => ?_
    obtain ⟨m, f, F, LA, lo⟩ := R.fr
    refine hK9 ?_
    refine oEA (lo x v hv) fun u hu i => ?_
    exact R.ok.ld x pos u m f s Q E hk hd F (fun p hp => R.news p (List.mem_append.mpr (.inr hp))) LA hu (k v ρm fz ml s.heap s.toks u h .rfl R i)
end
end Mine
end
section
open PySem PySem.W PyProof.Rows PySem.Spec PySem.Calls
namespace Mine
inductive AtM (ml : Led) (i : Nat) (h : Heap) (mm : Obj → Prop) (u : Value) : Prop
  | mk (a : Addr) (o : Obj) (e : u = .ref a) (h1 : (a, o) ∈ ml) (h2 : ml[i]? = some (a, o)) (h3 : h.get? a = some o) (h4 : mm o) : AtM ml i h mm u
section
variable {c : Cx} {fz ml : Led} {u : Value}
theorem v_none (h : c.v fz ml .none u) : u = .none := h
theorem v_bool {b} (h : c.v fz ml (.bool b) u) : u = .bool b := h
theorem v_int {i} (h : c.v fz ml (.int i) u) : ∃ t, u = .int i t := h
theorem v_str {i} (h : c.v fz ml (.str i) u) : ∃ t, u = .str i t := h
theorem v_byt {i} (h : c.v fz ml (.byt i) u) : ∃ t, u = .bytes i t := h
theorem v_glob {v} (h : c.v fz ml (.glob v) u) : u = v := h
theorem v_ptr {i} (h : c.v fz ml (.ptr i) u) : ∃ a, u = .ref a ∧ (adr ml)[i]? = some a := h
theorem v_tup {vs} (h : c.v fz ml (.tup vs) u) : VSeq (Zf c.X.Zb fz) "tuple" (c.l fz ml vs) u := h
theorem v_lst {vs} (h : c.v fz ml (.lst vs) u) : VSeq (Zf c.X.Zb fz) "list" (c.l fz ml vs) u := by obtain ⟨a, o, ws, n, e, z, k, r, l⟩ := h; exact ⟨a, o, ws, n, e, z, by rw [k], r, l⟩
theorem v_lstD {vs} (h : c.v fz ml (.lst vs) u) : VLst (Zf c.X.Zb fz) (c.l fz ml vs) u := h
theorem v_dct {ks} (h : c.v fz ml (.dct ks) u) : VDct c.X.w (Zf c.X.Zb fz) (isF c.X.w c.X.Zb fz (adr ml) ks) u := h
theorem v_ins {C fs} (h : c.v fz ml (.ins C fs) u) : VIns (Zf c.X.Zb fz) C (isE c.X.w c.X.Zb fz (adr ml) fs) u := h
theorem v_rng {i j k} (h : c.v fz ml (.rng i j k) u) : VRng (Zf c.X.Zb fz) i j k u := h
theorem v_slc {i j} (h : c.v fz ml (.slc i j) u) : VSlc (Zf c.X.Zb fz) i j u := h
theorem v_lam {qual params body scope cv} (h : c.v fz ml (.lam qual params body scope cv) u) : VLam (Zf c.X.Zb fz) (adr ml) qual params body scope cv u := h
theorem mk_none : c.v fz ml .none .none := by rfl
theorem mk_bool {b} : c.v fz ml (.bool b) (.bool b) := by rfl
theorem mk_int {i t} : c.v fz ml (.int i) (.int i t) := by exact ⟨_, rfl⟩
theorem mk_str {i t} : c.v fz ml (.str i) (.str i t) := by exact ⟨_, rfl⟩
theorem mk_byt {i t} : c.v fz ml (.byt i) (.bytes i t) := by exact ⟨_, rfl⟩
theorem mk_glob {v} : c.v fz ml (.glob v) v := by rfl
theorem l_nil {us} (h : c.l fz ml [] us) : us = [] := h
theorem l_cons {v vs us} (h : c.l fz ml (v :: vs) us) : ∃ u us', us = u :: us' ∧ c.v fz ml v u ∧ c.l fz ml vs us' := h
theorem mk_nil : c.l fz ml [] [] := by rfl
theorem mk_cons {v vs us} (h : c.v fz ml v u) (k : c.l fz ml vs us) : c.l fz ml (v :: vs) (u :: us) := by exact ⟨_, _, rfl, h, k⟩
theorem l_get : ∀ {vs : List V} {us : List Value} {i : Nat} {v : V}, c.l fz ml vs us → vs[i]? = some v → ∃ u, us[i]? = some u ∧ c.v fz ml v u
  | [], us, i, v, h, e => by cases e
  | x :: xs, us, 0, v, h, e => by obtain ⟨u, us', rfl, a, b⟩ := l_cons h; cases e; exact ⟨u, rfl, a⟩
  | x :: xs, us, i + 1, v, h, e => by obtain ⟨u, us', rfl, a, b⟩ := l_cons h; exact l_get (i := i) b e
theorem l_len : ∀ {vs : List V} {us : List Value}, c.l fz ml vs us → us.length = vs.length
  | [], us, h => by rw [l_nil h]; rfl
  | x :: xs, us, h => by obtain ⟨u, us', rfl, a, b⟩ := l_cons h; rw [List.length_cons, List.length_cons, l_len b]
theorem l_app : ∀ {vs vs' : List V} {us us' : List Value}, c.l fz ml vs us → c.l fz ml vs' us' → c.l fz ml (vs ++ vs') (us ++ us')
  | [], vs', us, us', h, k => by rw [l_nil h]; exact k
  | x :: xs, vs', us, us', h, k => by obtain ⟨u, us1, rfl, a, b⟩ := l_cons h; exact mk_cons a (l_app b k)
theorem Rel.zf {c : Cx} {ρl : List (Str × V)} {ρm : List M} {h : Heap} (R : Rel c ⟨ρl, ρm⟩ fz ml h) {a : Addr} {o : Obj} (z : Zf c.X.Zb fz a o) : h.get? a = some o := by
  rcases z with z | z
  · obtain ⟨m, f, F, _⟩ := R.fr
    exact F.keep _ _ (R.ok.zb _ _ z)
  · exact (R.news _ (List.mem_append.mpr (.inl (List.mem_append.mpr (.inr z))))).1
theorem memIs.get {ad : List Addr} : ∀ {ms : List M} {l : Led} {i : Nat} {m : M}, memIs c fz ad ms l → ms[i]? = some m → ∃ p, l[i]? = some p ∧ isM c.X.w c.X.Zb fz ad m p.2
  | [], l, i, m, h, e => by cases e
  | x :: xs, l, 0, m, h, e => by obtain ⟨p, r, rfl, a, b⟩ := h; cases e; exact ⟨p, rfl, a⟩
  | x :: xs, l, i + 1, m, h, e => by obtain ⟨p, r, rfl, a, b⟩ := h; exact memIs.get (i := i) b e
theorem memIs.len {ad : List Addr} : ∀ {ms : List M} {l : Led}, memIs c fz ad ms l → l.length = ms.length
  | [], l, h => by rw [show l = [] from h]; rfl
  | x :: xs, l, h => by obtain ⟨p, r, rfl, a, b⟩ := h; rw [List.length_cons, List.length_cons, b.len]
theorem memIs.mono {ad ad' : List Addr} {fz' : Led} (hz : ∀ p ∈ fz, p ∈ fz') (ha : ad <+: ad') : ∀ {ms : List M} {l : Led}, memIs c fz ad ms l → memIs c fz' ad' ms l
  | [], l, h => h
  | x :: xs, l, h => by obtain ⟨p, r, rfl, a, b⟩ := h; exact ⟨p, r, rfl, a.mono hz ha, b.mono hz ha⟩
theorem memIs.app {ad : List Addr} : ∀ {ms ms' : List M} {l l' : Led}, memIs c fz ad ms l → memIs c fz ad ms' l' → memIs c fz ad (ms ++ ms') (l ++ l')
  | [], ms', l, l', h, k => by rw [show l = [] from h]; exact k
  | x :: xs, ms', l, l', h, k => by obtain ⟨p, r, rfl, a, b⟩ := h; exact ⟨p, r ++ l', rfl, a, b.app k⟩
theorem Rel.at {c : Cx} {ρl : List (Str × V)} {ρm : List M} {h : Heap} (R : Rel c ⟨ρl, ρm⟩ fz ml h) {i : Nat} {m : M} (hm : ρm[i]? = some m) (hu : c.v fz ml (.ptr i) u) : AtM ml i h (isM c.X.w c.X.Zb fz (adr ml) m) u := by
  refine oEA (R.mem.get hm) fun p hp hi => ?_
  refine oEA (v_ptr hu) fun a e91 e => ?_
  subst e91
  have e' : p.1 = a := by
    rw [List.getElem?_map, hp] at e
    exact Option.some.inj e
  have hmem : p ∈ ml := List.mem_of_getElem? hp
  subst e'
  exact ⟨p.1, p.2, rfl, hmem, hp, (R.news p (List.mem_append.mpr (.inl (List.mem_append.mpr (.inl hmem))))).1, hi⟩
end
section
variable {c : Cx} {σ : St} {ρl : List (Str × V)} {ρm : List M} {P : V → List M → Prop} {PT : Bool → List M → Prop} {l r e test body orelse : Expr} {pos : Pos} {a b : V} {i j : Int} {x y : Str}
theorem W2.add_ii (h : P (.int (i + j)) ρm) : W2 c (binaryOp .Add) (.int i) (.int j) ⟨ρl, ρm⟩ P :=
  fun s fz ml u u' Q E R hi hj k => by obtain ⟨t, rfl⟩ := v_int hi; obtain ⟨t', rfl⟩ := v_int hj; exact add_int (k _ _ fz ml s.heap _ _ h .rfl R mk_int)
theorem W2.sub_ii (h : P (.int (i - j)) ρm) : W2 c (binaryOp .Sub) (.int i) (.int j) ⟨ρl, ρm⟩ P :=
  fun s fz ml u u' Q E R hi hj k => by obtain ⟨t, rfl⟩ := v_int hi; obtain ⟨t', rfl⟩ := v_int hj; exact sub_int (k _ _ fz ml s.heap _ _ h .rfl R mk_int)
theorem W2.mul_ii (hok : IntMulOk i j) (h : P (.int (i * j)) ρm) : W2 c (binaryOp .Mult) (.int i) (.int j) ⟨ρl, ρm⟩ P :=
  fun s fz ml u u' Q E R hi hj k => by obtain ⟨t, rfl⟩ := v_int hi; obtain ⟨t', rfl⟩ := v_int hj; exact mul_int (k _ _ fz ml s.heap _ _ h .rfl R mk_int) hok
theorem W2.div_ii (h0 : 0 < j) (hb : j.natAbs.log2 < 9000) (h : P (.int (i.fdiv j)) ρm) : W2 c (binaryOp .FloorDiv) (.int i) (.int j) ⟨ρl, ρm⟩ P :=
  fun s fz ml u u' Q E R hi hj k => by obtain ⟨t, rfl⟩ := v_int hi; obtain ⟨t', rfl⟩ := v_int hj; exact floordiv_int (by lia) (k _ _ fz ml s.heap _ _ h .rfl R mk_int) (Or.inl (PyProof.noPylong_of_log2 hb))
theorem W2.mod_ii (h0 : 0 < j) (h : P (.int (i.fmod j)) ρm) : W2 c (binaryOp .Mod) (.int i) (.int j) ⟨ρl, ρm⟩ P :=
  fun s fz ml u u' Q E R hi hj k => by obtain ⟨t, rfl⟩ := v_int hi; obtain ⟨t', rfl⟩ := v_int hj; exact mod_int' (by lia) (k _ _ fz ml s.heap _ _ h .rfl R mk_int)
theorem W2.pow_ii (h0 : 0 ≤ j) (h1 : j ≤ 1000000) (h2 : i.natAbs < 2 ^ 64) (h : P (.int (i ^ j.toNat)) ρm) : W2 c (binaryOp .Pow) (.int i) (.int j) ⟨ρl, ρm⟩ P :=
  fun s fz ml u u' Q E R hi hj k => by obtain ⟨t, rfl⟩ := v_int hi; obtain ⟨t', rfl⟩ := v_int hj; exact pow_int_small h0 h1 h2 (k _ _ fz ml s.heap _ _ h .rfl R mk_int)
theorem W2.add_ss (hs : x.length + y.length ≤ 16777216) (h : P (.str (x ++ y)) ρm) : W2 c (binaryOp .Add) (.str x) (.str y) ⟨ρl, ρm⟩ P :=
  fun s fz ml u u' Q E R hi hj k => by obtain ⟨t, rfl⟩ := v_str hi; obtain ⟨t', rfl⟩ := v_str hj; exact my_add hs fun _ _ _ => k _ _ fz ml s.heap _ _ h .rfl R mk_str
theorem W2.mul_si (hs : x.length ≤ 16) (h0 : 0 ≤ i) (h1 : i ≤ 1048576) (h : P (.str (Txt.mul x i)) ρm) : W2 c (binaryOp .Mult) (.str x) (.int i) ⟨ρl, ρm⟩ P :=
  fun s fz ml u u' Q E R hi hj k => by obtain ⟨t, rfl⟩ := v_str hi; obtain ⟨t', rfl⟩ := v_int hj; exact my_mul (n := x.length) rfl hs h0 h1 fun _ _ _ => k _ _ fz ml s.heap _ _ h .rfl R mk_str
theorem W2.lt_ii (h : P (.bool (decide (i < j))) ρm) : W2 c (compareOp .Lt) (.int i) (.int j) ⟨ρl, ρm⟩ P :=
  fun s fz ml u u' Q E R hi hj k => by obtain ⟨t, rfl⟩ := v_int hi; obtain ⟨t', rfl⟩ := v_int hj; exact lt_int (k _ _ fz ml s.heap s.toks _ h .rfl R mk_bool)
theorem W2.le_ii (h : P (.bool (decide (i ≤ j))) ρm) : W2 c (compareOp .LtE) (.int i) (.int j) ⟨ρl, ρm⟩ P :=
  fun s fz ml u u' Q E R hi hj k => by obtain ⟨t, rfl⟩ := v_int hi; obtain ⟨t', rfl⟩ := v_int hj; exact le_int (k _ _ fz ml s.heap s.toks _ h .rfl R mk_bool)
theorem W2.gt_ii (h : P (.bool (decide (j < i))) ρm) : W2 c (compareOp .Gt) (.int i) (.int j) ⟨ρl, ρm⟩ P :=
  fun s fz ml u u' Q E R hi hj k => by obtain ⟨t, rfl⟩ := v_int hi; obtain ⟨t', rfl⟩ := v_int hj; exact gt_int (k _ _ fz ml s.heap s.toks _ h .rfl R mk_bool)
theorem W2.ge_ii (h : P (.bool (decide (j ≤ i))) ρm) : W2 c (compareOp .GtE) (.int i) (.int j) ⟨ρl, ρm⟩ P :=
  fun s fz ml u u' Q E R hi hj k => by obtain ⟨t, rfl⟩ := v_int hi; obtain ⟨t', rfl⟩ := v_int hj; exact ge_int (k _ _ fz ml s.heap s.toks _ h .rfl R mk_bool)
theorem W2.eq_ii (h : P (.bool (i == j)) ρm) : W2 c (compareOp .Eq) (.int i) (.int j) ⟨ρl, ρm⟩ P :=
  fun s fz ml u u' Q E R hi hj k => by obtain ⟨t, rfl⟩ := v_int hi; obtain ⟨t', rfl⟩ := v_int hj; exact eq_int (k _ _ fz ml s.heap s.toks _ h .rfl R mk_bool)
theorem W2.ne_ii (h : P (.bool (i != j)) ρm) : W2 c (compareOp .NotEq) (.int i) (.int j) ⟨ρl, ρm⟩ P :=
  fun s fz ml u u' Q E R hi hj k => by obtain ⟨t, rfl⟩ := v_int hi; obtain ⟨t', rfl⟩ := v_int hj; exact ne_int (k _ _ fz ml s.heap s.toks _ h .rfl R mk_bool)
theorem W2.eq_ss (h : P (.bool (x == y)) ρm) : W2 c (compareOp .Eq) (.str x) (.str y) ⟨ρl, ρm⟩ P :=
  fun s fz ml u u' Q E R hi hj k => by obtain ⟨t, rfl⟩ := v_str hi; obtain ⟨t', rfl⟩ := v_str hj; exact eq_str (k _ _ fz ml s.heap s.toks _ h .rfl R mk_bool)
theorem W2.ne_ss (h : P (.bool (x != y)) ρm) : W2 c (compareOp .NotEq) (.str x) (.str y) ⟨ρl, ρm⟩ P :=
  fun s fz ml u u' Q E R hi hj k => by obtain ⟨t, rfl⟩ := v_str hi; obtain ⟨t', rfl⟩ := v_str hj; exact ne_str (k _ _ fz ml s.heap s.toks _ h .rfl R mk_bool)
theorem W2.ne_bb {x y : Array UInt8} (h : P (.bool (x.toList != y.toList)) ρm) : W2 c (compareOp .NotEq) (.byt x) (.byt y) ⟨ρl, ρm⟩ P :=
  fun s fz ml u u' Q E R hi hj k => by obtain ⟨t, rfl⟩ := v_byt hi; obtain ⟨t', rfl⟩ := v_byt hj; exact ne_bytes (k _ _ fz ml s.heap s.toks _ h .rfl R mk_bool)
noncomputable def V.isNone : V → Bool
  | .none => true
  | .glob v => v == .none
  | _ => false
theorem v_isNone {fz ml u} (h : c.v fz ml a u) : (u == Value.none) = a.isNone := by
  cases a with
  | none => rw [v_none h]; rfl
  | bool => rw [v_bool h]; rfl
  | int => obtain ⟨t, rfl⟩ := v_int h; rfl
  | str => obtain ⟨t, rfl⟩ := v_str h; rfl
  | byt => obtain ⟨t, rfl⟩ := v_byt h; rfl
  | glob v => rw [v_glob h]; rfl
  | tup => obtain ⟨_, _, _, _, rfl, _⟩ := v_tup h; rfl
  | lst => obtain ⟨_, _, _, _, rfl, _⟩ := v_lst h; rfl
  | dct => obtain ⟨_, _, _, rfl, _⟩ := v_dct h; rfl
  | ins => obtain ⟨_, _, _, _, rfl, _⟩ := v_ins h; rfl
  | ptr => obtain ⟨_, rfl, _⟩ := v_ptr h; rfl
  | rng => obtain ⟨_, _, _, _, rfl, _⟩ := v_rng h; rfl
  | slc => obtain ⟨_, _, _, rfl, _⟩ := v_slc h; rfl
  | lam => obtain ⟨_, _, _, _, _, _, _, _, rfl, _⟩ := v_lam h; rfl
theorem W2.is_n (h : P (.bool a.isNone) ρm) : W2 c (compareOp .Is) a .none ⟨ρl, ρm⟩ P :=
  fun s fz ml u u' Q E R hi hj k => by rw [v_none hj]; exact is_none (by rw [v_isNone hi]; exact k _ _ fz ml s.heap s.toks _ h .rfl R mk_bool)
theorem W2.isnot_n (h : P (.bool (!a.isNone)) ρm) : W2 c (compareOp .IsNot) a .none ⟨ρl, ρm⟩ P :=
  fun s fz ml u u' Q E R hi hj k => by rw [v_none hj]; exact isNot_none (by first | (rw [v_isNone hi]; exact k _ _ fz ml s.heap s.toks _ h .rfl R mk_bool) | (show Q (.bool (!(u == Value.none))) s; rw [v_isNone hi]; exact k _ _ fz ml s.heap s.toks _ h .rfl R mk_bool))
noncomputable def strsV (xs : List Str) : List V := xs.map .str
theorem l_strs {fz ml} : ∀ {xs : List Str} {us : List Value}, c.l fz ml (strsV xs) us → StrsAre us xs
  | [], us, h => by rw [l_nil h]; constructor
  | x :: xs, us, h => by
    refine oEEAA (l_cons h) fun u us' e92 a b => ?_
    subst e92
    refine oE (v_str a) fun t e91 => ?_
    subst e91
    first | exact .cons _ _ (l_strs b) | (constructor; exact l_strs b)
theorem W2.in_st {xs : List Str} (h : P (.bool (xs.any fun y => y == x)) ρm) : W2 c (compareOp .In) (.str x) (.tup (strsV xs)) ⟨ρl, ρm⟩ P :=
  fun s fz ml u u' Q E R hi hj k => by
    refine oE (v_str hi) fun t e91 => ?_
    subst e91
    obtain ⟨a, o, ws, n, rfl, z, h1, h2, l⟩ := v_tup hj
    exact in_tuple_strs ⟨o, R.zf z, h1, n, h2⟩ (l_strs l) (k _ _ fz ml s.heap s.toks _ h .rfl R mk_bool)
theorem WU.bool {b : Bool} (h : PT b ρm) : WU c (.bool b) ⟨ρl, ρm⟩ PT :=
  fun s fz ml u Q E R hi k => by rw [v_bool hi]; exact wpAny_truthy_bool (k _ _ fz ml s.heap s.toks h .rfl R)
theorem W1.neg (h : P (.int (-i)) ρm) : W1 c (unaryOp .USub) (.int i) ⟨ρl, ρm⟩ P :=
  fun s fz ml u Q E R hi k => by obtain ⟨t, rfl⟩ := v_int hi; exact neg_int (k _ _ fz ml s.heap _ _ h .rfl R mk_int)
end
end Mine
end
section
open PySem PySem.W PyProof.Rows PySem.Spec PySem.Calls
namespace Mine
noncomputable def PostL (c : Cx) (loc : List (Str × V)) (fz ml : Led) (P : List V → List M → Prop) (Q : List Value → Shared → Prop) (s : Shared) : Prop :=
  ∀ v mem' fz' ml' h' tk' u, P v mem' → Ext fz ml fz' ml' → Rel c ⟨loc, mem'⟩ fz' ml' h' → c.l fz' ml' v u → Q u (shr s h' tk')
noncomputable abbrev callV (f : Value) (us : List Value) : Sem Value := call f us
noncomputable def WA (c : Cx) (es : List Expr) (σ : St) (P : List V → List M → Prop) : Prop :=
  ∀ pos s fz ml Q E, Rel c σ fz ml s.heap → PostL c σ.loc fz ml P Q s → wpAny c.M c.A (spliced (backTo pos (starEach es c.env))) Q E s
section
variable {c : Cx} {σ : St} {ρl : List (Str × V)} {ρm : List M} {P : V → List M → Prop} {PL : List V → List M → Prop} {PT : Bool → List M → Prop} {PX : Fl → St → Prop} {l r e e₂ test : Expr} {pos : Pos} {a b : V} {x : Str}
theorem Rel.K (R : Rel c ⟨ρl, ρm⟩ fz ml h) : (wrt.heap_1 c.X.w.params).In h := let ⟨_, _, F, _, _⟩ := R.fr; R.ok.kin.keeps F.keep
theorem WA.nil (h : PL [] ρm) : WA c [] ⟨ρl, ρm⟩ PL := fun pos s fz ml Q E R k => spliced_none (k _ _ fz ml s.heap s.toks _ h .rfl R mk_nil)
theorem WA.cons {rest : List Expr} (h : WE c e ⟨ρl, ρm⟩ fun v m => WA c rest ⟨ρl, m⟩ fun vs m' => PL (v :: vs) m') (he : starEach (e :: rest) c.env = (false, eval e c.env) :: starEach rest c.env := by rfl) : WA c (e :: rest) ⟨ρl, ρm⟩ PL :=
  fun pos s fz ml Q E R k => spliced_more (h s fz ml _ E R fun v m fz1 ml1 h1 tk1 u hv x1 R1 i1 => hv pos _ fz1 ml1 _ E R1 fun vs m' fz2 ml2 h2 tk2 us hvs x2 R2 i2 => k _ _ fz2 ml2 h2 tk2 _ hvs (x1.trans x2) R2 (mk_cons (isVmono x2 i1) i2)) he
theorem WE.glo {v : Value} (e1 : nsIn (wrt.heap_1 c.X.w.params) mainGlobals x = some (some v)) (h : P (.glob v) ρm) (hx : c.sc.names.lookup x = some .globalImplicit := by rfl) (hd : (x == ("__debug__" : Str)) = false := by rfl) : WE c (.Name x pos) ⟨ρl, ρm⟩ P :=
  fun s fz ml Q E R k => by
    obtain ⟨m, f, F, _⟩ := R.fr
    exact nameG_K F R.ok.kin (topRead_of R.ok.top) e1 (k _ _ fz ml s.heap s.toks _ h .rfl R mk_glob) R.ok.eg R.ok.ek (by show c.env.scope.names.lookup x = _; rw [R.ok.es]; exact hx) hd
theorem WE.gloV {v : Value} {t : V} (e1 : nsIn (wrt.heap_1 c.X.w.params) mainGlobals x = some (some v)) (ht : ∀ fz ml, (∀ a o, (wrt.heap_1 c.X.w.params).lookup a = some o → Zf c.X.Zb fz a o) → c.v fz ml t v) (h : P t ρm) (hx : c.sc.names.lookup x = some .globalImplicit := by rfl) (hd : (x == ("__debug__" : Str)) = false := by rfl) : WE c (.Name x pos) ⟨ρl, ρm⟩ P :=
  fun s fz ml Q E R k => by
    obtain ⟨m, f, F, _⟩ := R.fr
    exact nameG_K F R.ok.kin (topRead_of R.ok.top) e1 (k _ _ fz ml s.heap s.toks _ h .rfl R (ht fz ml fun a o e => .inl (R.ok.kz a o e))) R.ok.eg R.ok.ek (by show c.env.scope.names.lookup x = _; rw [R.ok.es]; exact hx) hd
theorem WE.blt {v : Value} (e1 : nsIn (wrt.heap_1 c.X.w.params) mainGlobals x = some Option.none) (hv : bootBuiltins x = some v) (hn : x ≠ "__name__") (h : P (.glob v) ρm) (hx : c.sc.names.lookup x = some .globalImplicit := by rfl) (hd : (x == ("__debug__" : Str)) = false := by rfl) : WE c (.Name x pos) ⟨ρl, ρm⟩ P :=
  fun s fz ml Q E R k => by
    obtain ⟨m, f, F, _⟩ := R.fr
    have T := topRead_of R.ok.top
    exact Name_function_global R.ok.ek (by show c.env.scope.names.lookup x = _; rw [R.ok.es]; exact hx) (loadGlobal_builtin (env := c.env) (by rw [R.ok.eg]; exact T.g.keeps F.keep) (mg_none_of R.ok.kin T.g e1) (by rw [R.ok.eb]; exact T.b.keeps F.keep) ((T.builtins x hn).trans hv) (k _ _ fz ml s.heap s.toks _ h .rfl R mk_glob)) hd
theorem WE.cel {i : Nat} {v : V} (hc : c.cel.lookup x = some i) (hm : ρm[i]? = some (.cel (some v))) (h : P v ρm) (hk : c.sc.names.lookup x = some .cell ∨ c.sc.names.lookup x = some .free) (hd : (x == ("__debug__" : Str)) = false := by rfl) (hd2 : (x == ("__classdict__" : Str)) = false := by rfl) : WE c (.Name x pos) ⟨ρl, ρm⟩ P :=
  fun s fz ml Q E R k => by
    refine oEA (R.cels x i hc) fun a ha hi => ?_
    have hp : c.v fz ml (.ptr i) (.ref a) := by exact ⟨a, rfl, hi⟩
    obtain ⟨a', o, e, hmem, _, hget, hM⟩ := R.at hm hp
    cases e
    refine oEAEA hM fun u hd' u' e' hv => ?_
    subst e'
    exact R.ok.lc x pos a o u' s Q E hk hd hd2 ha hget hd' (k _ _ fz ml s.heap s.toks _ h .rfl R hv)
theorem WE.callG {rest : List Expr} {v : Value} {xp : Pos} (e1 : nsIn (wrt.heap_1 c.X.w.params) mainGlobals x = some (some v)) (hkp : keepIn (wrt.heap_1 c.X.w.params) v = true) (h : WA c (e :: rest) ⟨ρl, ρm⟩ fun vs m => WL c (callV v) vs ⟨ρl, m⟩ P)
    (hx : c.sc.names.lookup x = some .globalImplicit := by rfl) (hd : (x == ("__debug__" : Str)) = false := by rfl)
    (he : starEach (e :: rest) c.env = (false, eval e c.env) :: starEach rest c.env := by rfl) (hp : (List.any (backTo pos (starEach rest c.env)) fun x => x.fst) = false := by rfl)
    (hc : eval (.Call (.Name x xp) (e :: rest) [] pos) c.env = (do callWith pos (← eval (.Name x xp) c.env) [] (backTo pos (starEach (e :: rest) c.env)) (backToKw pos (keywordEach [] c.env))) := by rfl) : WE c (.Call (.Name x xp) (e :: rest) [] pos) ⟨ρl, ρm⟩ P :=
  fun s fz ml Q E R k => Call_ (WE.glo (P := fun f m => f = .glob v ∧ m = ρm) e1 ⟨rfl, rfl⟩ hx hd s fz ml _ E R fun f m fz1 ml1 h1 tk1 u hf x1 R1 i1 => by
    obtain ⟨rfl, rfl⟩ := hf
    obtain rfl := v_glob i1
    refine callWith_K R1.ok.kin hkp (h pos _ fz1 ml1 _ E R1 fun vs m' fz2 ml2 h2 tk2 us hvs x2 R2 i2 => ⟨R2.K, ?_⟩) he hp
    exact hvs _ fz2 ml2 us Q E R2 i2 (k.after (x1.trans x2))) hc
theorem WE.callG0 {v : Value} {xp : Pos} (e1 : nsIn (wrt.heap_1 c.X.w.params) mainGlobals x = some (some v)) (hkp : keepIn (wrt.heap_1 c.X.w.params) v = true) (h : WL c (callV v) [] ⟨ρl, ρm⟩ P)
    (hx : c.sc.names.lookup x = some .globalImplicit := by rfl) (hd : (x == ("__debug__" : Str)) = false := by rfl)
    (hc : eval (.Call (.Name x xp) [] [] pos) c.env = (do callWith pos (← eval (.Name x xp) c.env) [] (backTo pos (starEach [] c.env)) (backToKw pos (keywordEach [] c.env))) := by rfl) : WE c (.Call (.Name x xp) [] [] pos) ⟨ρl, ρm⟩ P :=
  fun s fz ml Q E R k => Call_ (WE.glo (P := fun f m => f = .glob v ∧ m = ρm) e1 ⟨rfl, rfl⟩ hx hd s fz ml _ E R fun f m fz1 ml1 h1 tk1 u hf x1 R1 i1 => by
    obtain ⟨rfl, rfl⟩ := hf
    obtain rfl := v_glob i1
    exact callWith_K0 R1.K hkp (h _ fz1 ml1 [] Q E R1 mk_nil (k.after x1))) hc
theorem WE.callB {rest : List Expr} {id : String} {xp : Pos} (e1 : nsIn (wrt.heap_1 c.X.w.params) mainGlobals x = some Option.none) (hv : bootBuiltins x = some (.builtin id)) (hn : x ≠ "__name__") (h : WA c (e :: rest) ⟨ρl, ρm⟩ fun vs m => WL c (callV (.builtin id)) vs ⟨ρl, m⟩ P)
    (hx : c.sc.names.lookup x = some .globalImplicit := by rfl) (hd : (x == ("__debug__" : Str)) = false := by rfl)
    (he : starEach (e :: rest) c.env = (false, eval e c.env) :: starEach rest c.env := by rfl) (hp : (List.any (backTo pos (starEach rest c.env)) fun x => x.fst) = false := by rfl)
    (hc : eval (.Call (.Name x xp) (e :: rest) [] pos) c.env = (do callWith pos (← eval (.Name x xp) c.env) [] (backTo pos (starEach (e :: rest) c.env)) (backToKw pos (keywordEach [] c.env))) := by rfl) : WE c (.Call (.Name x xp) (e :: rest) [] pos) ⟨ρl, ρm⟩ P :=
  fun s fz ml Q E R k => Call_ (WE.blt (P := fun f m => f = .glob (.builtin id) ∧ m = ρm) e1 hv hn ⟨rfl, rfl⟩ hx hd s fz ml _ E R fun f m fz1 ml1 h1 tk1 u hf x1 R1 i1 => by
    obtain ⟨rfl, rfl⟩ := hf
    obtain rfl := v_glob i1
    refine PyProof.Rows.callWith_builtin1 (h pos _ fz1 ml1 _ E R1 fun vs m' fz2 ml2 h2 tk2 us hvs x2 R2 i2 => ?_) he hp
    exact hvs _ fz2 ml2 us Q E R2 i2 (k.after (x1.trans x2))) hc
theorem WE.callT {rest : List Expr} {T : String} {xp : Pos} (e1 : nsIn (wrt.heap_1 c.X.w.params) mainGlobals x = some Option.none) (hv : bootBuiltins x = some (.type T)) (hn : x ≠ "__name__") (h : WA c (e :: rest) ⟨ρl, ρm⟩ fun vs m => WL c (callV (.type T)) vs ⟨ρl, m⟩ P)
    (hx : c.sc.names.lookup x = some .globalImplicit := by rfl) (hd : (x == ("__debug__" : Str)) = false := by rfl)
    (he : starEach (e :: rest) c.env = (false, eval e c.env) :: starEach rest c.env := by rfl) (hp : (List.any (backTo pos (starEach rest c.env)) fun x => x.fst) = false := by rfl)
    (hc : eval (.Call (.Name x xp) (e :: rest) [] pos) c.env = (do callWith pos (← eval (.Name x xp) c.env) [] (backTo pos (starEach (e :: rest) c.env)) (backToKw pos (keywordEach [] c.env))) := by rfl) : WE c (.Call (.Name x xp) (e :: rest) [] pos) ⟨ρl, ρm⟩ P :=
  fun s fz ml Q E R k => Call_ (WE.blt (P := fun f m => f = .glob (.type T) ∧ m = ρm) e1 hv hn ⟨rfl, rfl⟩ hx hd s fz ml _ E R fun f m fz1 ml1 h1 tk1 u hf x1 R1 i1 => by
    obtain ⟨rfl, rfl⟩ := hf
    obtain rfl := v_glob i1
    refine PyProof.Rows.callWith_type1 (h pos _ fz1 ml1 _ E R1 fun vs m' fz2 ml2 h2 tk2 us hvs x2 R2 i2 => ?_) he hp
    exact hvs _ fz2 ml2 us Q E R2 i2 (k.after (x1.trans x2))) hc
theorem WT.cmp {op : CmpOp} (h : WE c l ⟨ρl, ρm⟩ fun a m => WE c r ⟨ρl, m⟩ fun b m' => W2 c (compareOp op) a b ⟨ρl, m'⟩ fun v m'' => WU c v ⟨ρl, m''⟩ PT) (hm : behindInMarks op r = false := by rfl) : WT c (.Compare l [op] [r] pos) ⟨ρl, ρm⟩ PT :=
  fun s fz ml Q E R k => wpAny_isTrue_Compare1 (h s fz ml _ E R fun a m fz1 ml1 h1 tk1 ua ha x1 R1 i1 => ha _ fz1 ml1 _ E R1 fun b m' fz2 ml2 h2 tk2 ub hb x2 R2 i2 => hb _ fz2 ml2 ua ub _ E R2 (isVmono x2 i1) i2 fun v m'' fz3 ml3 h3 tk3 u hv x3 R3 i3 => hv _ fz3 ml3 u Q E R3 i3 (k.after ((x1.trans x2).trans x3))) hm
theorem WT.not (h : WT c e ⟨ρl, ρm⟩ fun b m => PT (!b) m) : WT c (.UnaryOp .Not e pos) ⟨ρl, ρm⟩ PT :=
  fun s fz ml Q E R k => isTrue_not (h s fz ml _ E R fun b m fz1 ml1 h1 tk1 hb x1 R1 => k _ _ fz1 ml1 h1 tk1 hb x1 R1)
theorem WT.and {rest : List Expr} (h : WT c e ⟨ρl, ρm⟩ fun b m => if b = true then WT c (.BoolOp .And rest pos) ⟨ρl, m⟩ PT else PT false m) : WT c (.BoolOp .And (e :: rest) pos) ⟨ρl, ρm⟩ PT :=
  fun s fz ml Q E R k => isTrue_and (h s fz ml _ E R fun b m fz1 ml1 h1 tk1 hb x1 R1 => by
    cases b with
    | true => exact hb _ fz1 ml1 Q E R1 (k.after x1)
    | false => exact k _ _ fz1 ml1 h1 tk1 hb x1 R1)
theorem WT.or {rest : List Expr} (h : WT c e ⟨ρl, ρm⟩ fun b m => if b = true then PT true m else WT c (.BoolOp .Or rest pos) ⟨ρl, m⟩ PT) : WT c (.BoolOp .Or (e :: rest) pos) ⟨ρl, ρm⟩ PT :=
  fun s fz ml Q E R k => isTrue_or (h s fz ml _ E R fun b m fz1 ml1 h1 tk1 hb x1 R1 => by
    cases b with
    | true => exact k _ _ fz1 ml1 h1 tk1 hb x1 R1
    | false => exact hb _ fz1 ml1 Q E R1 (k.after x1))
theorem WT.and0 (h : PT true ρm) : WT c (.BoolOp .And [] pos) ⟨ρl, ρm⟩ PT := fun s fz ml Q E R k => isTrue_and_nil (k _ _ fz ml s.heap s.toks h .rfl R)
theorem WT.or0 (h : PT false ρm) : WT c (.BoolOp .Or [] pos) ⟨ρl, ρm⟩ PT := fun s fz ml Q E R k => isTrue_or_nil (k _ _ fz ml s.heap s.toks h .rfl R)
theorem WT.plain (h : WE c e ⟨ρl, ρm⟩ fun v m => WU c v ⟨ρl, m⟩ PT) (hp : isTrue e c.env (eval e c.env) = (do let v ← eval e c.env; standAt e.pos; holding [v] (truthy v)) := by rfl) : WT c e ⟨ρl, ρm⟩ PT :=
  fun s fz ml Q E R k => isTrue_plain (h s fz ml _ E R fun v m fz1 ml1 h1 tk1 u hv x1 R1 i1 => hv _ fz1 ml1 u Q E R1 i1 (k.after x1)) hp
theorem WT.chain {op op' : CmpOp} {r' : Expr} (h : WE c l ⟨ρl, ρm⟩ fun a m => WE c r ⟨ρl, m⟩ fun b m' => W2 c (compareOp op) a b ⟨ρl, m'⟩ fun v m2 => WU c v ⟨ρl, m2⟩ fun t m3 => if t = true then WE c r' ⟨ρl, m3⟩ (fun d m4 => W2 c (compareOp op') b d ⟨ρl, m4⟩ fun v' m5 => WU c v' ⟨ρl, m5⟩ PT) else PT false m3)
    (hm : lastMarks [op, op'] [r, r'] = false := by rfl) : WT c (.Compare l [op, op'] [r, r'] pos) ⟨ρl, ρm⟩ PT :=
  fun s fz ml Q E R k => isTrue_chain (h s fz ml _ E R fun a m fz1 ml1 h1 tk1 ua ha x1 R1 i1 => test_link (ha _ fz1 ml1 _ E R1 fun b m' fz2 ml2 h2 tk2 ub hb x2 R2 i2 => hb _ fz2 ml2 ua ub _ E R2 (isVmono x2 i1) i2 fun v m2 fz3 ml3 h3 tk3 u hv x3 R3 i3 => hv _ fz3 ml3 u _ E R3 i3 fun t m3 fz4 ml4 h4 tk4 ht x4 R4 => by
    have x14 := ((x1.trans x2).trans x3).trans x4
    cases t with
    | false => exact k _ _ fz4 ml4 h4 tk4 ht x14 R4
    | true =>
      exact test_last (ht _ fz4 ml4 _ E R4 fun d m4 fz5 ml5 h5 tk5 ud hd x5 R5 i5 => hd _ fz5 ml5 ub ud _ E R5 (isVmono ((x3.trans x4).trans x5) i2) i5 fun v' m5 fz6 ml6 h6 tk6 u' hv' x6 R6 i6 => hv' _ fz6 ml6 u' Q E R6 i6 (k.after ((x14.trans x5).trans x6))))) hm
theorem WX.nil (h : PX .nxt ⟨ρl, ρm⟩) : WX c [] ⟨ρl, ρm⟩ PX := fun hf s fz ml Q E R k kr => wpAny_execs_nil (k _ _ fz ml s.heap s.toks _ h .rfl R (rfl : Flow.next = _))
noncomputable def nextX (c : Cx) (ss : List Stmt) (PX : Fl → St → Prop) (f : Fl) (σ : St) : Prop := match f with
  | .nxt => WX c ss σ PX
  | f => PX f σ
theorem WX.cons {st : Stmt} {ss : List Stmt} (h : W0 c st ⟨ρl, ρm⟩ (nextX c ss PX)) : WX c (st :: ss) ⟨ρl, ρm⟩ PX :=
  fun hf s fz ml Q E R k kr => wpAny_execs_cons (h hf s fz ml _ E R (fun f σ' fz1 ml1 h1 tk1 u hp x1 R1 hu => by
    cases f with
    | rai => exact hu.elim
    | nxt => obtain rfl : u = .next := hu; exact hp hf _ fz1 ml1 Q E R1 (k.after R.n0 x1) (kr.after R.n0 x1)
    | brk => obtain rfl : u = .brk := hu; exact k _ _ fz1 ml1 h1 tk1 _ hp x1 R1 rfl
    | cnt => obtain rfl : u = .cont := hu; exact k _ _ fz1 ml1 h1 tk1 _ hp x1 R1 rfl
    | ret v => obtain ⟨u', rfl, hv⟩ := hu; exact k _ _ fz1 ml1 h1 tk1 _ hp x1 R1 ⟨u', rfl, hv⟩) kr)
theorem W0.if_ {body orelse : List Stmt} (h : WT c test ⟨ρl, ρm⟩ fun b m => if b = true then WX c body ⟨ρl, m⟩ PX else WX c orelse ⟨ρl, m⟩ PX) : W0 c (.If test body orelse pos) ⟨ρl, ρm⟩ PX :=
  fun hf s fz ml Q E R k kr => wpAny_If (h s fz ml _ E R fun b m fz1 ml1 h1 tk1 hb x1 R1 => by
    cases b with
    | true => exact hb hf _ fz1 ml1 Q E R1 (k.after R.n0 x1.n) (kr.after R.n0 x1.n)
    | false => exact hb hf _ fz1 ml1 Q E R1 (k.after R.n0 x1.n) (kr.after R.n0 x1.n))
theorem W0.ret (h : WE c e ⟨ρl, ρm⟩ fun v m => PX (.ret v) ⟨ρl, m⟩) : W0 c (.Return (some e) pos) ⟨ρl, ρm⟩ PX :=
  fun hf s fz ml Q E R k kr => wpAny_Return_some (h s fz ml _ E R fun v m fz1 ml1 h1 tk1 u hv x1 R1 i1 => k _ _ fz1 ml1 h1 tk1 _ hv x1.n R1 ⟨u, rfl, i1⟩)
theorem no_inter {fz ml : Led} {h : Heap} {ρl : List (Str × V)} {ρm : List M} (R : Rel c ⟨ρl, ρm⟩ fz ml h) : interactive c.env = false := by unfold interactive; rw [R.ok.ek]; rfl
theorem W0.expr (h : WE c e ⟨ρl, ρm⟩ fun v m => PX .nxt ⟨ρl, m⟩) (hs : swapsWith e none pos.line c.env = pure false := by rfl) : W0 c (.Expr e pos) ⟨ρl, ρm⟩ PX :=
  fun hf s fz ml Q E R k kr => wpAny_Expr_any (h s fz ml _ E R fun v m fz1 ml1 h1 tk1 u hv x1 R1 i1 => k _ _ fz1 ml1 h1 tk1 _ hv x1.n R1 (rfl : Flow.next = _)) (no_inter R) hs
theorem Rel.stored {m : Str → Option Value} {fz ml : Led} {h h' : Heap} {v : V} {u : Value} (R : Rel c ⟨ρl, ρm⟩ fz ml h) (hf : c.X.cm = none) (F : Fr c.X.h₀ c.X.L h m) (lo : ∀ y v, ρl.lookup y = some v → ∃ u, m y = some u ∧ c.v fz ml v u)
    (F' : Fr c.X.h₀ c.X.L h' (fun y => if y = x then some u else m y)) (N' : News c.X.h₀ c.X.L h' (ml ++ fz ++ c.X.xs)) (hv : c.v fz ml v u) : Rel c ⟨(x, v) :: ρl, ρm⟩ fz ml h' := by
  refine ⟨R.ok, ⟨_, _, F', (by rw [hf]; rfl), fun y w hy => ?_⟩, N', R.nd, R.mem, R.cels, R.n0, R.hi⟩
  rw [List.lookup_cons] at hy
  by_cases e : y = x
  · subst e
    rw [beq_self_eq_true] at hy
    cases hy
    exact ⟨u, by rw [if_pos rfl], hv⟩
  · rw [beq_false_of_ne e] at hy
    refine oEA (lo y w hy) fun u' h1 h2 => ?_
    exact ⟨u', by rw [if_neg e]; exact h1, h2⟩
theorem W0.asg {x : Str} {xp : Pos} (h : WE c e ⟨ρl, ρm⟩ fun v m => PX .nxt ⟨(x, v) :: ρl, m⟩) (hk : c.sc.names.lookup x = some .local := by rfl) (hs : swapsWith e (some (Expr.Name x xp)) pos.line c.env = pure false := by rfl) : W0 c (.Assign [.Name x xp] e pos) ⟨ρl, ρm⟩ PX :=
  fun hf s fz ml Q E R k kr => wpAny_Assign_Name (h s fz ml _ E R fun v m fz1 ml1 h1 tk1 u hv x1 R1 i1 => by
    obtain ⟨mm, f, F, LA, lo⟩ := R1.fr
    rw [hf.cm] at LA
    obtain rfl : f = mm := LA
    rw [Cx.env, hf.env]
    exact storeX_L F R1.news (fun h' F' N' => k _ _ fz1 ml1 h' _ _ hv x1.n (R1.stored hf.cm F lo F' N' i1) (rfl : Flow.next = _)) R1.ok.kind (by show List.lookup x c.X.cs.names = _; rw [← hf.sc]; exact hk)) hs
end
section
variable {c : Cx} {σ : St} {ρl : List (Str × V)} {ρm : List M} {P : V → List M → Prop} {PX : Fl → St → Prop} {PT : Bool → List M → Prop} {PA : List V → List M → Prop}
theorem G.asg {x : Str} {xp pos : Pos} {e : Expr} (h : W0 c (.Assign [.Name x xp] e pos) ⟨ρl, ρm⟩ PX) : W0 c (.Assign [.Name x xp] e pos) ⟨ρl, ρm⟩ PX := h
theorem G.item {a b e : Expr} {xp pos : Pos} (h : W0 c (.Assign [.Subscript a b xp] e pos) ⟨ρl, ρm⟩ PX) : W0 c (.Assign [.Subscript a b xp] e pos) ⟨ρl, ρm⟩ PX := h
theorem G.expr {e : Expr} {pos : Pos} (h : W0 c (.Expr e pos) ⟨ρl, ρm⟩ PX) : W0 c (.Expr e pos) ⟨ρl, ρm⟩ PX := h
theorem G.name {x : Str} {pos : Pos} (h : WE c (.Name x pos) ⟨ρl, ρm⟩ P) : WE c (.Name x pos) ⟨ρl, ρm⟩ P := h
theorem G.cmp {l : Expr} {ops : List CmpOp} {rs : List Expr} {pos : Pos} (h : WE c (.Compare l ops rs pos) ⟨ρl, ρm⟩ P) : WE c (.Compare l ops rs pos) ⟨ρl, ρm⟩ P := h
theorem G.attr {e : Expr} {x : Str} {pos : Pos} (h : WE c (.Attribute e x pos) ⟨ρl, ρm⟩ P) : WE c (.Attribute e x pos) ⟨ρl, ρm⟩ P := h
theorem G.tcmp {l : Expr} {ops : List CmpOp} {rs : List Expr} {pos : Pos} (h : WT c (.Compare l ops rs pos) ⟨ρl, ρm⟩ PT) : WT c (.Compare l ops rs pos) ⟨ρl, ρm⟩ PT := h
theorem G.args {e : Expr} {es : List Expr} (h : WA c (e :: es) ⟨ρl, ρm⟩ PA) : WA c (e :: es) ⟨ρl, ρm⟩ PA := h
theorem G.ite {p : Prop} [Decidable p] {a b : Prop} (h : if p then a else b) : if p then a else b := h
end
end Mine
end
section
open PySem PySem.W PyProof.Rows PySem.Spec PySem.Calls
namespace Mine
noncomputable def onInt (a : V) (f : Int → Option V) : Option V := match a with
  | .int i => f i
  | _ => none
noncomputable def onStr (a : V) (f : Str → Option V) : Option V := match a with
  | .str i => f i
  | _ => none
noncomputable def onNone (a : V) (r : Option V) : Option V := match a with
  | .none => r
  | _ => none
noncomputable def onBool (a : V) (f : Bool → Option Bool) : Option Bool := match a with
  | .bool i => f i
  | _ => none
noncomputable def ifInt (a : V) : Bool := match a with
  | .int _ => true
  | _ => false
noncomputable def v2B (op : Operator) (a b : V) : Option V := match op with
  | .Add => onInt a fun i => onInt b fun j => some (.int (i + j))
  | .Sub => onInt a fun i => onInt b fun j => some (.int (i - j))
  | _ => none
noncomputable def v2Eq (t : Bool) (a b : V) : Option V := match t with
  | true => onInt a fun i => onInt b fun j => some (.bool (i == j))
  | false => onStr a fun i => onStr b fun j => some (.bool (i == j))
noncomputable def v2NotEq (t : Bool) (a b : V) : Option V := match t with
  | true => onInt a fun i => onInt b fun j => some (.bool (i != j))
  | false => onStr a fun i => onStr b fun j => some (.bool (i != j))
noncomputable def v2C (op : CmpOp) (a b : V) : Option V := match op with
  | .Lt => onInt a fun i => onInt b fun j => some (.bool (decide (i < j)))
  | .LtE => onInt a fun i => onInt b fun j => some (.bool (decide (i ≤ j)))
  | .Gt => onInt a fun i => onInt b fun j => some (.bool (decide (j < i)))
  | .GtE => onInt a fun i => onInt b fun j => some (.bool (decide (j ≤ i)))
  | .Eq => v2Eq (ifInt a) a b
  | .NotEq => v2NotEq (ifInt a) a b
  | .Is => onNone b (some (.bool a.isNone))
  | .IsNot => onNone b (some (.bool (!a.isNone)))
  | .In => none
  | .NotIn => none
noncomputable def cellV (m : Option M) : Option V := match m with
  | some m => (match m with
    | .cel ov => ov
    | _ => none)
  | none => none
noncomputable def nmV (sc : Scope) (cel : List (Str × Nat)) (loc : List (Str × V)) (mem : List M) (x : Str) : Option V := match x == ("__debug__" : Str) with
  | true => none
  | false => (sc.names.lookup x).bind fun k => match k with
    | .local => loc.lookup x
    | .globalExplicit => none
    | .globalImplicit => none
    | _ => match x == ("__classdict__" : Str) with
      | true => none
      | false => (cel.lookup x).bind fun i => cellV mem[i]?
noncomputable def constV (k : Const) : Option V := match k with
  | .int i => some (.int i)
  | .str s => some (.str s)
  | .none => some .none
  | _ => none
noncomputable def neg (op : UnaryOp) (a : Option V) : Option V := match op with
  | .USub => a.bind fun a => onInt a fun i => some (.int (-i))
  | _ => none
noncomputable def sole {α β : Type} (l : List α) (f : α → Option β) : Option β := match l with
  | [] => none
  | x :: r => match r with
    | [] => f x
    | _ :: _ => none
noncomputable def vE (sc : Scope) (cel : List (Str × Nat)) (loc : List (Str × V)) (mem : List M) : Nat → Expr → Option V
  | 0 => fun _ => none
  | n + 1 => fun e => match e with
    | .Name x _ => nmV sc cel loc mem x
    | .Constant k _ _ => constV k
    | .UnaryOp op e _ => neg op (vE sc cel loc mem n e)
    | .BinOp l op r _ => (vE sc cel loc mem n l).bind fun a => (vE sc cel loc mem n r).bind fun b => v2B op a b
    | .Compare l ops rs _ => sole ops fun op => sole rs fun r => (vE sc cel loc mem n l).bind fun a => (vE sc cel loc mem n r).bind fun b => v2C op a b
    | _ => none
noncomputable def vT (sc : Scope) (cel : List (Str × Nat)) (loc : List (Str × V)) (mem : List M) : Nat → Expr → Option Bool
  | 0 => fun _ => none
  | n + 1 => fun e => match e with
    | .UnaryOp op e _ => (match op with
      | .Not => (vT sc cel loc mem n e).bind fun b => some (!b)
      | _ => none)
    | .Compare l ops rs _ => sole ops fun op => sole rs fun r => (vE sc cel loc mem n l).bind fun a => (vE sc cel loc mem n r).bind fun b => (v2C op a b).bind fun v => onBool v some
    | _ => none
noncomputable def vA (sc : Scope) (cel : List (Str × Nat)) (loc : List (Str × V)) (mem : List M) : List Expr → Option (List V)
  | [] => some []
  | e :: es => (vE sc cel loc mem 9 e).bind fun v => (vA sc cel loc mem es).bind fun vs => some (v :: vs)
section
variable {c : Cx} {loc : List (Str × V)} {mem : List M} {P : V → List M → Prop} {PL : List V → List M → Prop} {PT : Bool → List M → Prop} {PX : Fl → St → Prop} {e test : Expr} {a b v : V}
theorem nn {α : Type} {v : α} {p : Prop} (h : Option.none = some v) : p := nomatch h
theorem onInt_of {f : Int → Option V} (h : onInt a f = some v) : ∃ i, a = .int i ∧ f i = some v := by
  cases a <;> first | exact ⟨_, rfl, h⟩ | exact nn h
theorem onStr_of {f : Str → Option V} (h : onStr a f = some v) : ∃ i, a = .str i ∧ f i = some v := by
  cases a <;> first | exact ⟨_, rfl, h⟩ | exact nn h
theorem onNone_of {r : Option V} (h : onNone a r = some v) : a = .none ∧ r = some v := by
  cases a <;> first | exact ⟨rfl, h⟩ | exact nn h
theorem onBool_of {f : Bool → Option Bool} {b : Bool} (h : onBool a f = some b) : ∃ i, a = .bool i ∧ f i = some b := by
  cases a <;> first | exact ⟨_, rfl, h⟩ | exact nn h
theorem sole_of {α β : Type} {l : List α} {f : α → Option β} {v : β} (h : sole l f = some v) : ∃ x, l = [x] ∧ f x = some v :=
  match l, h with
  | [], h => nn h
  | [x], h => ⟨x, rfl, h⟩
  | _ :: _ :: _, h => nn h
theorem cellV_of {m : Option M} (h : cellV m = some v) : m = some (.cel (some v)) := by
  cases m with
  | none => exact nn h
  | some m => cases m <;> first | exact congrArg (fun z => some (M.cel z)) h | exact nn h
theorem W2.of_ints {t : Value → Value → Sem Value} {f : Int → Int → V} (h : (onInt a fun i => onInt b fun j => some (f i j)) = some v) (k : P v mem) (r : ∀ {i j}, P (f i j) mem → W2 c t (.int i) (.int j) ⟨loc, mem⟩ P) : W2 c t a b ⟨loc, mem⟩ P := by
  refine oEA (onInt_of h) fun i e91 h1 => ?_
  subst e91
  refine oEA (onInt_of h1) fun j e91 h2 => ?_
  subst e91
  exact r (by rw [Option.some.inj h2]; exact k)
theorem W2.of_strs {t : Value → Value → Sem Value} {f : Str → Str → V} (h : (onStr a fun i => onStr b fun j => some (f i j)) = some v) (k : P v mem) (r : ∀ {i j}, P (f i j) mem → W2 c t (.str i) (.str j) ⟨loc, mem⟩ P) : W2 c t a b ⟨loc, mem⟩ P := by
  refine oEA (onStr_of h) fun i e91 h1 => ?_
  subst e91
  refine oEA (onStr_of h1) fun j e91 h2 => ?_
  subst e91
  exact r (by rw [Option.some.inj h2]; exact k)
theorem W2.bB {op : Operator} (h : v2B op a b = some v) (k : P v mem) : W2 c (binaryOp op) a b ⟨loc, mem⟩ P := by
  cases op <;> first | exact nn h | exact W2.of_ints h k (fun h => W2.add_ii h) | exact W2.of_ints h k (fun h => W2.sub_ii h)
theorem W2.bE {t : Bool} (h : v2Eq t a b = some v) (k : P v mem) : W2 c (compareOp .Eq) a b ⟨loc, mem⟩ P :=
  match t, h with
  | true, h => W2.of_ints h k fun h => W2.eq_ii h
  | false, h => W2.of_strs h k fun h => W2.eq_ss h
theorem W2.bN {t : Bool} (h : v2NotEq t a b = some v) (k : P v mem) : W2 c (compareOp .NotEq) a b ⟨loc, mem⟩ P :=
  match t, h with
  | true, h => W2.of_ints h k fun h => W2.ne_ii h
  | false, h => W2.of_strs h k fun h => W2.ne_ss h
theorem W2.bI (h : onNone b (some (.bool a.isNone)) = some v) (k : P v mem) : W2 c (compareOp .Is) a b ⟨loc, mem⟩ P := by
  refine oA (onNone_of h) fun e90 h1 => ?_
  subst e90
  exact W2.is_n (by rw [Option.some.inj h1]; exact k)
theorem W2.bJ (h : onNone b (some (.bool (!a.isNone))) = some v) (k : P v mem) : W2 c (compareOp .IsNot) a b ⟨loc, mem⟩ P := by
  refine oA (onNone_of h) fun e90 h1 => ?_
  subst e90
  exact W2.isnot_n (by rw [Option.some.inj h1]; exact k)
theorem W2.bC {op : CmpOp} (h : v2C op a b = some v) (k : P v mem) : W2 c (compareOp op) a b ⟨loc, mem⟩ P := by
  cases op
  · exact W2.bE h k
  · exact W2.bN h k
  · exact W2.of_ints h k fun h => W2.lt_ii h
  · exact W2.of_ints h k fun h => W2.le_ii h
  · exact W2.of_ints h k fun h => W2.gt_ii h
  · exact W2.of_ints h k fun h => W2.ge_ii h
  · exact W2.bI h k
  · exact W2.bJ h k
  · exact nn h
  · exact nn h
theorem WE.nmV {x : Str} {pos : Pos} (h : nmV c.sc c.cel loc mem x = some v) (k : P v mem) : WE c (.Name x pos) ⟨loc, mem⟩ P := by
  unfold Mine.nmV at h
  cases h1 : x == ("__debug__" : Str) with
  | true => rw [h1] at h; cases h
  | false =>
    rw [h1] at h
    refine oEA (Option.bind_eq_some_iff.mp h) fun kd h3 h => ?_
    have other : kd = .cell ∨ kd = .free → (match x == ("__classdict__" : Str) with
      | true => Option.none
      | false => (c.cel.lookup x).bind fun i => cellV mem[i]?) = some v → WE c (.Name x pos) ⟨loc, mem⟩ P := by
      intro hk h
      cases h2 : x == ("__classdict__" : Str) with
      | true => rw [h2] at h; cases h
      | false =>
        rw [h2] at h
        refine oEA (Option.bind_eq_some_iff.mp h) fun i hi hm => ?_
        exact WE.cel hi (cellV_of hm) k (by rcases hk with rfl | rfl; exact .inl h3; exact .inr h3) h1 h2
    cases kd with
    | «local» => exact WE.loc h k h3 h1
    | cell => exact other (.inl rfl) h
    | free => exact other (.inr rfl) h
    | globalExplicit => cases h
    | globalImplicit => cases h
structure Plain (e : Expr) : Prop where
  marks : ∀ op, behindInMarks op e = false
  star : ∀ es env, starEach (e :: es) env = (false, eval e env) :: starEach es env
  swaps : ∀ t l env, swapsWith e t l env = Pure.pure false
theorem vE_plain {n : Nat} (h : vE c.sc c.cel loc mem n e = some v) : Plain e := by
  cases n with
  | zero => exact nn h
  | succ n => cases e <;> first | exact nn h | exact ⟨fun _ => rfl, fun _ _ => rfl, fun _ _ _ => rfl⟩
theorem WE.constV {k : Const} {n : Nat} {pos : Pos} (h : constV k = some v) (q : P v mem) : WE c (.Constant k n pos) ⟨loc, mem⟩ P := by
  cases k <;> first | exact nn h | (obtain rfl := Option.some.inj h; first | exact WE.int q | exact WE.str q | exact WE.none q)
theorem bind_of {α β : Type} {o : Option α} {f : α → Option β} {v : β} (h : o.bind f = some v) : ∃ a, o = some a ∧ f a = some v := Option.bind_eq_some_iff.mp h
theorem vE_sound : ∀ {n : Nat} {e : Expr} {v : V} {P : V → List M → Prop}, vE c.sc c.cel loc mem n e = some v → P v mem → WE c e ⟨loc, mem⟩ P
  | 0, e, v, P, h, k => nn h
  | n + 1, .Name _ _, v, P, h, k => WE.nmV h k
  | n + 1, .Constant _ _ _, v, P, h, k => WE.constV h k
  | n + 1, .BinOp l op r _, v, P, h, k => by
    refine oEA (bind_of h) fun a ha h => ?_
    refine oEA (bind_of h) fun b hb h => ?_
    exact WE.bin (vE_sound ha (vE_sound hb (W2.bB h k)))
  | n + 1, .Compare l ops rs _, v, P, h, k => by
    refine oEA (sole_of h) fun op e91 h => ?_
    subst e91
    refine oEA (sole_of h) fun r e91 h => ?_
    subst e91
    refine oEA (bind_of h) fun a ha h => ?_
    refine oEA (bind_of h) fun b hb h => ?_
    exact WE.cmp (vE_sound ha (vE_sound hb (W2.bC h k))) ((vE_plain hb).marks _)
  | n + 1, .BoolOp .., v, P, h, k => nn h
  | n + 1, .NamedExpr .., v, P, h, k => nn h
  | n + 1, .UnaryOp op e _, v, P, h, k => by
    cases op
    case USub =>
      refine oEA (bind_of h) fun a ha h => ?_
      refine oEA (onInt_of h) fun i e91 h => ?_
      subst e91
      exact WE.un (vE_sound ha (W1.neg (by rw [Option.some.inj h]; exact k)))
    all_goals exact nn h
  | n + 1, .Lambda .., v, P, h, k => nn h
  | n + 1, .IfExp .., v, P, h, k => nn h
  | n + 1, .Dict .., v, P, h, k => nn h
  | n + 1, .Set .., v, P, h, k => nn h
  | n + 1, .ListComp .., v, P, h, k => nn h
  | n + 1, .SetComp .., v, P, h, k => nn h
  | n + 1, .DictComp .., v, P, h, k => nn h
  | n + 1, .GeneratorExp .., v, P, h, k => nn h
  | n + 1, .Await .., v, P, h, k => nn h
  | n + 1, .Yield .., v, P, h, k => nn h
  | n + 1, .YieldFrom .., v, P, h, k => nn h
  | n + 1, .Call .., v, P, h, k => nn h
  | n + 1, .FormattedValue .., v, P, h, k => nn h
  | n + 1, .JoinedStr .., v, P, h, k => nn h
  | n + 1, .Attribute .., v, P, h, k => nn h
  | n + 1, .Subscript .., v, P, h, k => nn h
  | n + 1, .Starred .., v, P, h, k => nn h
  | n + 1, .List .., v, P, h, k => nn h
  | n + 1, .Tuple .., v, P, h, k => nn h
  | n + 1, .Slice .., v, P, h, k => nn h
theorem vT_cmp {n : Nat} {l : Expr} {ops : List CmpOp} {rs : List Expr} {p : Pos} {b : Bool} (h : vT c.sc c.cel loc mem (n + 1) (.Compare l ops rs p) = some b) (k : PT b mem) : WT c (.Compare l ops rs p) ⟨loc, mem⟩ PT := by
  refine oEA (sole_of h) fun op e91 h => ?_
  subst e91
  refine oEA (sole_of h) fun r e91 h => ?_
  subst e91
  refine oEA (bind_of h) fun a ha h => ?_
  refine oEA (bind_of h) fun d hb h => ?_
  refine oEA (bind_of h) fun w hc h => ?_
  refine oEA (onBool_of h) fun i e91 h => ?_
  subst e91
  obtain rfl := Option.some.inj h
  exact WT.cmp (vE_sound ha (vE_sound hb (W2.bC hc (WU.bool k)))) ((vE_plain hb).marks _)
theorem vT_sound {n : Nat} : ∀ {e : Expr} {b : Bool} {PT : Bool → List M → Prop}, vT c.sc c.cel loc mem n e = some b → PT b mem → WT c e ⟨loc, mem⟩ PT := by
  induction n with
  | zero => intro e b P h k; exact nn h
  | succ n ih =>
    intro e b P h k
    cases e
    case UnaryOp op e p =>
      cases op
      case Not =>
        refine oEA (bind_of h) fun a ha h => ?_
        obtain rfl := Option.some.inj h
        exact WT.not (ih ha k)
      all_goals exact nn h
    case Compare => exact vT_cmp h k
    all_goals exact nn h
theorem WA.pur : ∀ {es : List Expr} {vs : List V} {PL : List V → List M → Prop}, vA c.sc c.cel loc mem es = some vs → PL vs mem → WA c es ⟨loc, mem⟩ PL
  | [], vs, PL, h, k => by cases h; exact WA.nil k
  | e :: es, vs, PL, h, k => by
    unfold vA at h
    refine oEA (Option.bind_eq_some_iff.mp h) fun v hv h => ?_
    refine oEA (Option.bind_eq_some_iff.mp h) fun ws hw h => ?_
    cases h
    exact WA.cons (vE_sound hv (WA.pur hw k)) ((vE_plain hv).star _ _)
variable {ss body orelse : List Stmt} {pos xp : Pos} {x : Str}
noncomputable def noComp (e : Expr) : Bool := match e with
  | .ListComp _ _ _ _ => false
  | .SetComp _ _ _ _ => false
  | .DictComp _ _ _ _ _ => false
  | _ => true
noncomputable def noStar (e : Expr) : Bool := match e with
  | .Starred _ _ => false
  | _ => true
noncomputable def asgOk (sc : Scope) (x : Str) (e : Expr) : Bool := (sc.names.lookup x).elim false fun k => match k with
  | .local => noComp e
  | _ => false
noncomputable def isCF (k : Option NameKind) : Bool := match k with
  | some .cell => true
  | some .free => true
  | _ => false
theorem noComp_swaps (h : noComp e = true) (t : Option Expr) (l : Nat) (env : Env) : swapsWith e t l env = Pure.pure false := by
  cases e <;> first | rfl | cases h
theorem noStar_star (h : noStar e = true) (es : List Expr) (env : Env) : starEach (e :: es) env = (false, eval e env) :: starEach es env := by
  cases e <;> first | rfl | cases h
theorem asgOk_of {sc : Scope} (h : asgOk sc x e = true) : sc.names.lookup x = some .local ∧ noComp e = true := by
  unfold asgOk at h
  cases q : sc.names.lookup x with
  | none => rw [q] at h; cases h
  | some k => rw [q] at h; cases k <;> first | exact ⟨rfl, h⟩ | cases h
theorem isCF_of {k : Option NameKind} (h : isCF k = true) : k = some .cell ∨ k = some .free := by
  cases k with
  | none => cases h
  | some k => cases k <;> first | exact .inl rfl | exact .inr rfl | cases h
theorem S.val (v : V) (h : vE c.sc c.cel loc mem 9 e = some v) (k : P v mem) : WE c e ⟨loc, mem⟩ P := vE_sound h k
theorem S.tst (b : Bool) (h : vT c.sc c.cel loc mem 9 e = some b) (k : PT b mem) : WT c e ⟨loc, mem⟩ PT := vT_sound h k
theorem S.args {es : List Expr} (vs : List V) (h : vA c.sc c.cel loc mem es = some vs) (k : PL vs mem) : WA c es ⟨loc, mem⟩ PL := WA.pur h k
theorem S.b2 {op : Operator} (v : V) (h : v2B op a b = some v) (k : P v mem) : W2 c (binaryOp op) a b ⟨loc, mem⟩ P := W2.bB h k
theorem S.c2 {op : CmpOp} (v : V) (h : v2C op a b = some v) (k : P v mem) : W2 c (compareOp op) a b ⟨loc, mem⟩ P := W2.bC h k
theorem S.asg (hk : asgOk c.sc x e = true) (h : WE c e ⟨loc, mem⟩ fun v m => WX c ss ⟨(x, v) :: loc, m⟩ PX) : WX c (.Assign [.Name x xp] e pos :: ss) ⟨loc, mem⟩ PX :=
  WX.cons (W0.asg h (asgOk_of hk).1 (noComp_swaps (asgOk_of hk).2 _ _ _))
theorem S.expr (hk : noComp e = true) (h : WE c e ⟨loc, mem⟩ fun v m => WX c ss ⟨loc, m⟩ PX) : WX c (.Expr e pos :: ss) ⟨loc, mem⟩ PX :=
  WX.cons (W0.expr h (noComp_swaps hk _ _ _))
noncomputable def vS (sc : Scope) (cel : List (Str × Nat)) (loc : List (Str × V)) (mem : List M) (x : Str) (e : Expr) : Option V := match asgOk sc x e with
  | true => vE sc cel loc mem 9 e
  | false => none
theorem S.asgP (v : V) (h : vS c.sc c.cel loc mem x e = some v) (k : WX c ss ⟨(x, v) :: loc, mem⟩ PX) : WX c (.Assign [.Name x xp] e pos :: ss) ⟨loc, mem⟩ PX := by
  unfold vS at h
  cases q : asgOk c.sc x e with
  | false => rw [q] at h; exact nn h
  | true => rw [q] at h; exact S.asg q (vE_sound h k)
theorem S.ret (h : WE c e ⟨loc, mem⟩ fun v m => PX (.ret v) ⟨loc, m⟩) : WX c (.Return (some e) pos :: ss) ⟨loc, mem⟩ PX :=
  WX.cons (W0.ret h)
theorem S.retP (v : V) (h : vE c.sc c.cel loc mem 9 e = some v) (k : PX (.ret v) ⟨loc, mem⟩) : WX c (.Return (some e) pos :: ss) ⟨loc, mem⟩ PX :=
  S.ret (vE_sound h k)
theorem S.if (h : WT c test ⟨loc, mem⟩ fun b m => if b = true then WX c body ⟨loc, m⟩ (nextX c ss PX) else WX c orelse ⟨loc, m⟩ (nextX c ss PX)) : WX c (.If test body orelse pos :: ss) ⟨loc, mem⟩ PX :=
  WX.cons (W0.if_ h)
theorem S.ifP (b : Bool) (h : vT c.sc c.cel loc mem 9 test = some b) (k : if b = true then WX c body ⟨loc, mem⟩ (nextX c ss PX) else WX c orelse ⟨loc, mem⟩ (nextX c ss PX)) : WX c (.If test body orelse pos :: ss) ⟨loc, mem⟩ PX :=
  S.if (vT_sound h k)
theorem S.cmp {l r : Expr} {op : CmpOp} (hm : behindInMarks op r = false) (h : WE c l ⟨loc, mem⟩ fun a m => WE c r ⟨loc, m⟩ fun b m' => W2 c (compareOp op) a b ⟨loc, m'⟩ P) : WE c (.Compare l [op] [r] pos) ⟨loc, mem⟩ P :=
  WE.cmp h hm
theorem S.tcmp {l r : Expr} {op : CmpOp} (hm : behindInMarks op r = false) (h : WE c l ⟨loc, mem⟩ fun a m => WE c r ⟨loc, m⟩ fun b m' => W2 c (compareOp op) a b ⟨loc, m'⟩ fun v m'' => WU c v ⟨loc, m''⟩ PT) : WT c (.Compare l [op] [r] pos) ⟨loc, mem⟩ PT :=
  WT.cmp h hm
theorem S.arg {es : List Expr} (hm : noStar e = true) (h : WE c e ⟨loc, mem⟩ fun v m => WA c es ⟨loc, m⟩ fun vs m' => PL (v :: vs) m') : WA c (e :: es) ⟨loc, mem⟩ PL :=
  WA.cons h (noStar_star hm _ _)
theorem S.cel {m l : List M} {k : Nat} (hc : c.cel.lookup x = some (m.length + k)) (hm : l[k]? = some (.cel (some v))) (h : P v (m ++ l)) (hk : isCF (c.sc.names.lookup x) = true := by rfl) (hd : (x == ("__debug__" : Str)) = false := by rfl) (hd2 : (x == ("__classdict__" : Str)) = false := by rfl) : WE c (.Name x pos) ⟨loc, m ++ l⟩ P :=
  WE.cel hc (by rw [List.getElem?_append_right (Nat.le_add_right _ _), Nat.add_sub_cancel_left]; exact hm) h (isCF_of hk) hd hd2
theorem NX.nxt {σ : St} (h : WX c ss σ PX) : nextX c ss PX .nxt σ := h
theorem NX.brk {σ : St} (h : PX .brk σ) : nextX c ss PX .brk σ := h
theorem NX.cnt {σ : St} (h : PX .cnt σ) : nextX c ss PX .cnt σ := h
theorem NX.ret {σ : St} (h : PX (.ret v) σ) : nextX c ss PX (.ret v) σ := h
end
end Mine
end
section
open PySem PySem.W PyProof.Rows PySem.Spec PySem.Calls
namespace Mine
mutual
inductive Frz (n : Nat) (mem : List M) : V → V → Prop
  | same {v : V} : old n v → Frz n mem v v
  | lst {i : Nat} {vs vs' : List V} : n ≤ i → mem[i]? = some (.lst vs) → FrzL n mem vs vs' → Frz n mem (.ptr i) (.lst vs')
  | dct {i : Nat} {ks ks' : List (Str × V)} : n ≤ i → mem[i]? = some (.dct ks) → FrzF n mem ks ks' → Frz n mem (.ptr i) (.dct ks')
  | ins {i j : Nat} {C : Addr} {fs fs' : List (Str × V)} : n ≤ i → n ≤ j → mem[i]? = some (.ins C j) → mem[j]? = some (.nsd fs) → FrzF n mem fs fs' → Frz n mem (.ptr i) (.ins C fs')
  | tup {vs vs' : List V} : FrzL n mem vs vs' → Frz n mem (.tup vs) (.tup vs')
  | lstT {vs vs' : List V} : FrzL n mem vs vs' → Frz n mem (.lst vs) (.lst vs')
  | dctT {ks ks' : List (Str × V)} : FrzF n mem ks ks' → Frz n mem (.dct ks) (.dct ks')
inductive FrzL (n : Nat) (mem : List M) : List V → List V → Prop
  | nil : FrzL n mem [] []
  | cons {v v' : V} {vs vs' : List V} : Frz n mem v v' → FrzL n mem vs vs' → FrzL n mem (v :: vs) (v' :: vs')
inductive FrzF (n : Nat) (mem : List M) : List (Str × V) → List (Str × V) → Prop
  | nil : FrzF n mem [] []
  | cons {x : Str} {v v' : V} {vs vs' : List (Str × V)} : Frz n mem v v' → FrzF n mem vs vs' → FrzF n mem ((x, v) :: vs) ((x, v') :: vs')
end
end Mine
end
section
open PySem PySem.W PyProof.Rows PySem.Spec PySem.Calls
namespace Mine
section
variable {c : Cx} {σ : St} {ρl : List (Str × V)} {ρm : List M} {fz ml : Led} {h : Heap} {n : Nat}
theorem get_drop_mem {α : Type} {l : List α} {i : Nat} {a : α} (hi : n ≤ i) (h : l[i]? = some a) : a ∈ l.drop n := by
  have e : (l.drop n)[i - n]? = some a := by rw [List.getElem?_drop, Nat.add_sub_cancel' hi]; exact h
  exact List.mem_of_getElem? e
theorem adr_take (ml : Led) (n : Nat) : adr (ml.take n) = (adr ml).take n := List.map_take
noncomputable def FS (c : Cx) (fz ml : Led) (n : Nat) (v v' : V) : Prop := ∀ u, c.v fz ml v u → c.v (ml.drop n ++ fz) (ml.take n) v' u
noncomputable def FL (c : Cx) (fz ml : Led) (n : Nat) (v v' : List V) : Prop := ∀ u, c.l fz ml v u → c.l (ml.drop n ++ fz) (ml.take n) v' u
inductive FF (c : Cx) (fz ml : Led) (n : Nat) (v v' : List (Str × V)) : Prop
  | mk (f : ∀ u, isF c.X.w c.X.Zb fz (adr ml) v u → isF c.X.w c.X.Zb (ml.drop n ++ fz) (adr (ml.take n)) v' u) (e : ∀ u, isE c.X.w c.X.Zb fz (adr ml) v u → isE c.X.w c.X.Zb (ml.drop n ++ fz) (adr (ml.take n)) v' u) : FF c fz ml n v v'
section
variable {vs vs' : List V} {ks ks' : List (Str × V)} {v v' : V} {i j : Nat} {C : Addr} {x : Str}
theorem FS.same (q : old n v) : FS c fz ml n v v := fun u i => isV.keep (fun p hp => List.mem_append_right _ hp) (by rw [adr_take]; exact List.prefix_refl _) v u q i
theorem FS.lst (R : Rel c ⟨ρl, ρm⟩ fz ml h) (h1 : n ≤ i) (h2 : ρm[i]? = some (.lst vs)) (h3 : FL c fz ml n vs vs') : FS c fz ml n (.ptr i) (.lst vs') := fun u q => by
  obtain ⟨a, o, rfl, hm, hi, hg, ws, k, rfl, l⟩ := R.at h2 q
  exact ⟨a, _, ws, k, rfl, .inr (List.mem_append_left _ (get_drop_mem h1 hi)), rfl, rfl, h3 _ l⟩
theorem FS.dct (R : Rel c ⟨ρl, ρm⟩ fz ml h) (h1 : n ≤ i) (h2 : ρm[i]? = some (.dct ks)) (h3 : FF c fz ml n ks ks') : FS c fz ml n (.ptr i) (.dct ks') := fun u q => by
  obtain ⟨a, o, rfl, hm, hi, hg, kws, d, l⟩ := R.at h2 q
  refine ⟨a, o, kws, rfl, .inr (List.mem_append_left _ (get_drop_mem h1 hi)), fun e => ?_, d, h3.1 _ l⟩
  have := R.hi (a, o) (List.mem_append_left _ (List.mem_append_left _ hm))
  exact absurd this (by rw [show a = sysModules from e]; exact Nat.lt_irrefl _)
theorem FS.ins (R : Rel c ⟨ρl, ρm⟩ fz ml h) (h1 : n ≤ i) (h1' : n ≤ j) (h2 : ρm[i]? = some (.ins C j)) (h2' : ρm[j]? = some (.nsd ks)) (h3 : FF c fz ml n ks ks') : FS c fz ml n (.ptr i) (.ins C ks') := fun u q => by
  obtain ⟨a, o, rfl, hm, hi, hg, dx, rfl, e⟩ := R.at h2 q
  obtain ⟨a', o', e', hm', hi', hg', es, k, rfl, l⟩ := R.at h2' (u := .ref dx) (by exact ⟨dx, rfl, e⟩)
  cases e'
  exact ⟨a, dx, es, k, rfl, .inr (List.mem_append_left _ (get_drop_mem h1 hi)), .inr (List.mem_append_left _ (get_drop_mem h1' hi')), h3.2 _ l⟩
theorem FS.tup (h3 : FL c fz ml n vs vs') : FS c fz ml n (.tup vs) (.tup vs') := fun u q => by
  obtain ⟨a, o, ws, k, rfl, z, e1, e2, l⟩ := v_tup q
  exact ⟨a, o, ws, k, rfl, z.mono fun p hp => List.mem_append_right _ hp, e1, e2, h3 _ l⟩
theorem FS.lstT (h3 : FL c fz ml n vs vs') : FS c fz ml n (.lst vs) (.lst vs') := fun u q => by
  obtain ⟨a, o, ws, k, rfl, z, e1, e2, l⟩ := v_lstD q
  exact ⟨a, o, ws, k, rfl, z.mono fun p hp => List.mem_append_right _ hp, e1, e2, h3 _ l⟩
theorem FS.dctT (h3 : FF c fz ml n ks ks') : FS c fz ml n (.dct ks) (.dct ks') := fun u q => by
  obtain ⟨a, o, kws, rfl, z, e1, e2, l⟩ := v_dct q
  exact ⟨a, o, kws, rfl, z.mono fun p hp => List.mem_append_right _ hp, e1, e2, h3.1 _ l⟩
theorem FL.nil : FL c fz ml n [] [] := fun u q => q
theorem FL.cons (a : FS c fz ml n v v') (b : FL c fz ml n vs vs') : FL c fz ml n (v :: vs) (v' :: vs') := fun u q => by
  refine oEEAA (l_cons q) fun x xs e92 i1 i2 => ?_
  subst e92
  exact mk_cons (a _ i1) (b _ i2)
theorem FF.nil : FF c fz ml n [] [] := ⟨fun u q => q, fun u q => q⟩
theorem FF.cons (a : FS c fz ml n v v') (b : FF c fz ml n ks ks') : FF c fz ml n ((x, v) :: ks) ((x, v') :: ks') := ⟨fun u q => by
  refine oEEAA q fun y ys e92 i1 i2 => ?_
  subst e92
  exact ⟨y, ys, rfl, a _ i1, b.1 _ i2⟩, fun u q => by
  refine oEEEEAA q fun hs t y ys e94 i1 i2 => ?_
  subst e94
  exact ⟨hs, t, y, ys, rfl, a _ i1, b.2 _ i2⟩⟩
theorem Frz.sound (R : Rel c ⟨ρl, ρm⟩ fz ml h) {u : Value} (F : Frz n ρm v v') : c.v fz ml v u → c.v (ml.drop n ++ fz) (ml.take n) v' u :=
  Frz.rec (motive_1 := fun v v' _ => FS c fz ml n v v') (motive_2 := fun v v' _ => FL c fz ml n v v') (motive_3 := fun v v' _ => FF c fz ml n v v') FS.same (fun h1 h2 _ h3 => .lst R h1 h2 h3) (fun h1 h2 _ h3 => .dct R h1 h2 h3)
    (fun h1 h1' h2 h2' _ h3 => .ins R h1 h1' h2 h2' h3) (fun _ h3 => .tup h3) (fun _ h3 => .lstT h3) (fun _ h3 => .dctT h3) FL.nil (fun _ _ a b => .cons a b) FF.nil (fun _ _ a b => .cons a b) F u
end
theorem memIs.cut {ad ad' : List Addr} {fz' : Led} (hz : ∀ p ∈ fz, p ∈ fz') (ha : ad.take n <+: ad') : ∀ {k : Nat} {ms : List M} {l : Led}, memIs c fz ad ms l → (∀ m ∈ ms.take k, oldM n m) → memIs c fz' ad' (ms.take k) (l.take k)
  | 0, ms, l, h, q => by rw [List.take_zero, List.take_zero]; rfl
  | k + 1, [], l, h, q => by rw [show l = [] from h]; rfl
  | k + 1, x :: xs, l, h, q => by
    refine oEEAA h fun p r e92 a b => ?_
    subst e92
    exact ⟨p, r.take k, rfl, a.keep hz ha (q x (by simp)), memIs.cut hz ha b fun m hm => q m (by simp [hm])⟩
theorem Rel.cut (R : Rel c σ fz ml h) (hn : c.n0 ≤ n) (hl : n ≤ σ.mem.length) (hc : ∀ x i, c.cel.lookup x = some i → i < n) (hold : ∀ m ∈ σ.mem.take n, oldM n m) {loc' : List (Str × V)}
    (hloc : ∀ x v', loc'.lookup x = some v' → ∃ v, σ.loc.lookup x = some v ∧ Frz n σ.mem v v') : Rel c ⟨loc', σ.mem.take n⟩ (ml.drop n ++ fz) (ml.take n) h := by
  have hml : ml.length = σ.mem.length := R.mem.len
  have e : ml.take n ++ (ml.drop n ++ fz) ++ c.X.xs = ml ++ fz ++ c.X.xs := by rw [← List.append_assoc, List.take_append_drop]
  refine ⟨R.ok, ?_, by rw [e]; exact R.news, by rw [e]; exact R.nd, ?_, fun x i hx => ?_, by rw [List.length_take]; lia, by rw [e]; exact R.hi⟩
  · obtain ⟨m, f, F, LA, lo⟩ := R.fr
    refine ⟨m, f, F, LA, fun x v' hx => ?_⟩
    refine oEA (hloc x v' hx) fun v h1 h2 => ?_
    refine oEA (lo x v h1) fun u h3 h4 => ?_
    exact ⟨u, h3, h2.sound R h4⟩
  · exact memIs.cut (fun p hp => List.mem_append_right _ hp) (by rw [adr_take]; exact List.prefix_refl _) R.mem hold
  · refine oEA (R.cels x i hx) fun a h1 h2 => ?_
    exact ⟨a, h1, by rw [adr_take]; exact take_get (hc x i hx) h2⟩
end
end Mine
end
section
open PySem PySem.W PyProof.Rows PySem.Spec PySem.Calls
namespace Mine
noncomputable def retV : Fl → V
  | .ret v => v
  | _ => .none
noncomputable def OutR (n : Nat) (P : V → List M → Prop) (PR : List M → Prop) (fl : Fl) (σ : St) : Prop := match fl with
  | .rai => PR σ.mem
  | fl => P (retV fl) σ.mem ∨ (n ≤ σ.mem.length ∧ ∃ v', Frz n σ.mem (retV fl) v' ∧ (∀ m ∈ σ.mem.take n, oldM n m) ∧ P v' (σ.mem.take n))
noncomputable abbrev Out (n : Nat) (P : V → List M → Prop) : Fl → St → Prop := OutR n P fun _ => False
section
variable {w : World} {Zb : Addr → Obj → Prop} {fz : Led} {ad : List Addr}
theorem isF_app : ∀ {a a' : List (Str × V)} {b b' : List (Str × Value)}, isF w Zb fz ad a b → isF w Zb fz ad a' b' → isF w Zb fz ad (a ++ a') (b ++ b')
  | [], a', b, b', h, k => by rw [h]; exact k
  | (x, v) :: r, a', b, b', h, k => by
    refine oEEAA h fun u us e92 h1 h2 => ?_
    subst e92
    show isF w Zb fz ad ((x, v) :: (r ++ a')) ((x, u) :: (us ++ b'))
    exact ⟨u, _, rfl, h1, isF_app h2 k⟩
theorem isF_rev : ∀ {a : List (Str × V)} {b : List (Str × Value)}, isF w Zb fz ad a b → isF w Zb fz ad a.reverse b.reverse
  | [], b, h => by obtain rfl : b = [] := h; rfl
  | (x, v) :: r, b, h => by
    refine oEEAA h fun u us e92 h1 h2 => ?_
    subst e92
    rw [List.reverse_cons, List.reverse_cons]
    exact isF_app (isF_rev h2) (by exact ⟨u, [], rfl, h1, by rfl⟩)
theorem isF_look : ∀ {a : List (Str × V)} {b : List (Str × Value)} {x : Str} {v : V}, isF w Zb fz ad a b → a.lookup x = some v → ∃ u, b.lookup x = some u ∧ isV w Zb fz ad v u
  | [], b, x, v, h, e => by cases e
  | (y, v') :: r, b, x, v, h, e => by
    refine oEEAA h fun u us e92 h1 h2 => ?_
    subst e92
    rw [List.lookup_cons] at e
    rw [List.lookup_cons]
    by_cases q : x = y
    · subst q
      rw [beq_self_eq_true] at e ⊢
      cases e
      exact ⟨u, rfl, h1⟩
    · rw [beq_false_of_ne q] at e ⊢
      exact isF_look h2 e
theorem isF_keys : ∀ {a : List (Str × V)} {b : List (Str × Value)}, isF w Zb fz ad a b → b.map (·.1) = a.map (·.1)
  | [], b, h => by obtain rfl : b = [] := h; rfl
  | (y, v') :: r, b, h => by
    refine oEEAA h fun u us e92 h1 h2 => ?_
    subst e92
    rw [List.map_cons, List.map_cons, isF_keys h2]
end
section
variable {c : Cx} {σ : St} {P : V → List M → Prop} {f : Addr} {name qual : Str} {params : Arguments} {body : List Stmt} {scope : Scope} {dV kV doc pm cdv ct oc : Value} {an od : Option Addr} {osl : Array (Option Value)} {vs : List V}
theorem room_of {d l : Nat} (h : d + l < 900) : d < recursionLimit := Nat.lt_of_le_of_lt (show d ≤ 900 by lia) (by decide)
theorem memIs.cx {c c' : Cx} {fz : Led} {ad : List Addr} (hw : c'.X.w = c.X.w) (hz : c'.X.Zb = c.X.Zb) : ∀ {ms : List M} {l : Led}, memIs c' fz ad ms l → memIs c fz ad ms l := by
  intro ms
  induction ms with
  | nil => exact fun h => h
  | cons a ms ih =>
    intro l q81
    refine oEEAA q81 fun p r e92 i1 i2 => ?_
    subst e92
    exact ⟨p, r, rfl, by rw [← hw, ← hz]; exact i1, ih i2⟩
theorem Rel.back {c c' : Cx} {σ : St} {fz ml fz' ml' : Led} {h h' : Heap} {m f : Str → Option Value} {loc' : List (Str × V)} {mem' : List M} (R : Rel c σ fz ml h) (hw : c'.X.w = c.X.w) (hz : c'.X.Zb = c.X.Zb) (hx : c'.X.xs = c.X.xs)
    (LA : LocAt c.X.cm m f) (lo : ∀ x v, σ.loc.lookup x = some v → ∃ u, f x = some u ∧ c.v fz ml v u) (F : Fr c.X.h₀ c.X.L h' m) (N : News c.X.h₀ c.X.L h' (ml' ++ fz' ++ c.X.xs)) (R' : Rel c' ⟨loc', mem'⟩ fz' ml' h') (x : Ext fz ml fz' ml') :
    Rel c ⟨σ.loc, mem'⟩ fz' ml' h' := by
  refine ⟨R.ok, ⟨m, f, F, LA, fun y v hy => ?_⟩, N, by rw [← hx]; exact R'.nd, ?_, fun y i hy => ?_, ?_, by rw [← hx]; exact R'.hi⟩
  · refine oEA (lo y v hy) fun u h1 h2 => ?_
    exact ⟨u, h1, isVmono x h2⟩
  · exact R'.mem.cx hw hz
  · refine oEA (R.cels y i hy) fun a h1 h2 => ?_
    exact ⟨a, h1, pre_get x.2 h2⟩
  · have := x.2.length_le
    rw [List.length_map, List.length_map] at this
    exact Nat.le_trans R.n0 this
theorem Rel.oldmem {fz ml h} (R : Rel c σ fz ml h) : ∀ m ∈ σ.mem, oldM σ.mem.length m := by
  have hl : (adr ml).length = σ.mem.length := by rw [List.length_map]; exact R.mem.len
  have : ∀ {ms : List M} {l : Led}, memIs c fz (adr ml) ms l → ∀ m ∈ ms, oldM (adr ml).length m := by
    intro ms
    induction ms with
    | nil => intro l _ m hm; cases hm
    | cons a ms ih =>
      intro l q81 m hm
      refine oEEAA q81 fun p r e92 i1 i2 => ?_
      subst e92
      rcases List.mem_cons.mp hm with rfl | hm
      · exact i1.old
      · exact ih i2 m hm
  rw [← hl]
  exact this R.mem
theorem RelE.back {c c' : Cx} {σ : St} {fz ml fz' ml' : Led} {h h1 h' g : Heap} {m f : Str → Option Value} {loc' : List (Str × V)} {mem' : List M} {e : Addr} (R : Rel c σ fz ml h) (hw : c'.X.w = c.X.w) (hz : c'.X.Zb = c.X.Zb) (hx : c'.X.xs = c.X.xs)
    (LA : LocAt c.X.cm m f) (lo : ∀ x v, σ.loc.lookup x = some v → ∃ u, f x = some u ∧ c.v fz ml v u) (F : Fr c.X.h₀ c.X.L g m) {u : Value} (R' : RelE c' ⟨loc', mem'⟩ fz' ml' h1 u) (hr : RaisedX c.X.base g (envX c.X.cn c.X.cs c.X.L c.X.a c.X.ccd c.X.cl :: c.X.outer) c.X.L e (.ref 59) (ml' ++ fz' ++ c.X.xs) h') (hs : g.UpToSlots h') (x : Ext fz ml fz' ml') :
    RelE c ⟨σ.loc, mem'⟩ fz' ml' h' (.ref e) := by
  refine ⟨R.ok, ⟨e, g, m, f, rfl, F, LA, fun y v hy => ?_, hr, hs⟩, by rw [← hx]; exact R'.nd, ?_, fun y i hy => ?_, ?_, by rw [← hx]; exact R'.hi⟩
  · refine oEA (lo y v hy) fun u h1 h2 => ?_
    exact ⟨u, h1, isVmono x h2⟩
  · exact R'.mem.cx hw hz
  · refine oEA (R.cels y i hy) fun a h1 h2 => ?_
    exact ⟨a, h1, pre_get x.2 h2⟩
  · have := x.2.length_le
    rw [List.length_map, List.length_map] at this
    exact Nat.le_trans R.n0 this
theorem def_core {PR : List M → Prop} {dp' un' lv' : Nat} {gd' : Option (List Code)} (bv : List (Str × V)) (hd' : dp' + 1 + lv' < 900) (hu' : un' + 3 + 20 * lv' < 9000) (ho : (wrt.heap_1 c.X.w.params).lookup f = some ⟨oc, od, .func (fnOf name qual params body scope dV kV doc pm an cdv ct), osl⟩) (hcd : codeIn (wrt.heap_1 c.X.w.params) cdv qual = true)
    (hb : ∀ (s : Shared) (fz ml : Led) (us : List Value), (wrt.heap_1 c.X.w.params).In s.heap → c.l fz ml vs us → ∃ bs, BindsTo s (fnOf name qual params body scope dV kV doc pm an cdv ct) ⟨us, []⟩ bs ∧ isF c.X.w c.X.Zb fz (adr ml) bv bs)
    (hloc : (bv.all fun y => decide (scope.names.lookup y.1 = some .local)) = true)
    (h : ∀ X' : Cb, X'.w = c.X.w → X'.lv = lv' → (∀ m ∈ σ.mem, oldM σ.mem.length m) → oldL σ.mem.length vs → Cx.IsFn ⟨X', scope, [], σ.mem.length⟩ → WX ⟨X', scope, [], σ.mem.length⟩ body ⟨bv.reverse, σ.mem⟩ (OutR σ.mem.length P PR))
    (hcell : ∀ x ∈ scope.names, x.2 ≠ .cell) (hk : scope.kind = .function) (hco : scope.isCoroutine = false) (hgen : scope.isGenerator = false) {s : Shared} {fz ml : Led} {us : List Value} {Q E : Value → Shared → Prop} {RR : Result → Shared → Prop} (R : Rel c σ fz ml s.heap) (hu : c.l fz ml vs us) (k : Post c σ.loc fz ml P Q s) (kr : PostRE c σ.loc fz ml PR E s) (hQ : ∀ v s', Q v s' → RR (.ok (.ret v)) s') (hE : ∀ e s', E e s' → RR (.error e) s') :
    codeAny c.M (ktrTop dp' un' gd' c.X.cn c.X.cs c.X.L c.X.a c.X.ccd c.X.cl c.X.outer) (.call (.ref f) ⟨us, []⟩) RR s := by
  refine hold fun _ hK9 => ?_
  obtain ⟨m, lf, F, LA, lo⟩ := R.fr
  refine hK9 ?_
  refine oEA (hb s fz ml us R.K hu) fun bs hbind hbs => ?_
  have hml : ml.length = σ.mem.length := R.mem.len
  refine Mine.code_defG (env := envX c.X.cn c.X.cs c.X.L c.X.a c.X.ccd c.X.cl) (news := ml ++ fz ++ c.X.xs) R.ok.below F R.ok.kin R.news R.ok.top rfl rfl R.ok.kind ho hcd (room_of (l := lv') (show dp' + lv' < 900 by lia)) hbind
    (fun y hy => by
      have hy' : y.1 ∈ bv.map (·.1) := by rw [← isF_keys hbs]; exact List.mem_map_of_mem hy
      refine oEA (List.mem_map.mp hy') fun z hz e => ?_
      rw [← e]
      exact of_decide_eq_true (List.all_eq_true.mp hloc z hz)) ?_ hco hgen hk hcell
  intro g L' h₁ hK FG F' N' B' X' T'
  let X1 : Cb := Cb.mk c.X.w lv' c.X.p c.X.loose c.X.mean c.X.mg c.X.mb (dp' + 1) (un' + 3) gd' qual scope f cdv [] (envX c.X.cn c.X.cs c.X.L c.X.a c.X.ccd c.X.cl :: c.X.outer) (ktrTop dp' un' gd' c.X.cn c.X.cs c.X.L c.X.a c.X.ccd c.X.cl c.X.outer) c.X.base g L' c.X.Zb c.X.xs (envX qual scope L' f cdv []) none
  have ok1 : Cx.Ok ⟨X1, scope, [], σ.mem.length⟩ := by
    refine ⟨B', X', T', hk, ?_, ?_, fun a o z => ?_, R.ok.kz, rfl, hk, rfl, rfl, ?_, ?_⟩
    · exact hd'
    · exact hu'
    · have z0 := R.ok.zb a o z
      refine hK a o (F.keep _ _ z0) fun q hq e => ?_
      have := (R.news q hq).2.2
      rw [e, z0] at this
      cases this
    · intro x pos u m f s Q E hx hd FF NN LAA hfx hq
      obtain rfl : f = m := LAA
      exact nameX_L FF hfx hq hk hx hd
    · intro x pos cc o u s Q E hx hd hd2 hl
      cases hl
  have R1 : Rel ⟨X1, scope, [], σ.mem.length⟩ ⟨bv.reverse, σ.mem⟩ fz ml h₁ := by
    refine ⟨ok1, ⟨_, _, F', rfl, fun x v hx => isF_look (isF_rev hbs) hx⟩, N', R.nd, ?_, (fun x i hx => by cases hx), (by show σ.mem.length ≤ ml.length; lia), R.hi⟩
    exact memIs.cx (c := ⟨X1, scope, [], σ.mem.length⟩) (c' := c) rfl rfl R.mem
  refine h X1 rfl rfl R.oldmem (by have := isL.old _ _ hu; rw [List.length_map, hml] at this; exact this) ⟨rfl, rfl, rfl⟩ ⟨rfl, rfl, rfl⟩ _ fz ml _ _ R1 ?_ ?_
  rotate_left
  · intro σ' fz' ml' h' tk' u hp x1 RE
    have hx1 : Ext fz ml fz' ml' := ⟨x1.1, by
      have := x1.2
      rw [show (adr ml).take σ.mem.length = adr ml by rw [List.take_of_length_le (by rw [List.length_map]; lia)]] at this
      exact this⟩
    refine hold fun _ hK9 => ?_
    obtain ⟨e, G, m2, f2, rfl, F2, LA2, lo2, RS, hsl⟩ := RE.fl
    refine hK9 ?_
    refine hold fun _ hK9 => ?_
    refine oEEAAA RS fun B a0 hB hBG hl hair => ?_
    refine hK9 ?_
    refine hair.leave (Around.frames_deeper B'.stack) rfl fun h2 x1 x2 => ?_
    have r1 : RaisedX c.X.base g (envX c.X.cn c.X.cs c.X.L c.X.a c.X.ccd c.X.cl :: c.X.outer) c.X.L e (.ref 59) (ml' ++ fz' ++ c.X.xs) h2 := ⟨B, a0, hB, fun b o q nm => hBG b o (F2.keep b o q) (fun hm => by
      rcases kts_mem hm with z | z
      · rw [z, kts_self F2] at q
        cases q
      · exact nm z), fun q hq => ⟨(hl q hq).1, kts_none F2.keep (hl q hq).2.1, (hl q hq).2.2⟩, .inr (.inr x1)⟩
    have r3 : g.UpToSlots h2 := (Heap.UpToSlots.of_keeps F2.keep).trans (hsl.trans x2)
    exact hE _ _ <| kr _ fz' ml' h2 tk' _ hp hx1 (RelE.back (c' := ⟨X1, scope, [], σ.mem.length⟩) R rfl rfl rfl LA lo FG RE r1 r3 hx1)
  intro fl σ' fz' ml' h' tk' u hp x1 R2 hfl
  have hx1 : Ext fz ml fz' ml' := ⟨x1.1, by
    have := x1.2
    rw [show (adr ml).take σ.mem.length = adr ml by rw [List.take_of_length_le (by rw [List.length_map]; lia)]] at this
    exact this⟩
  have hne : fl ≠ .rai := fun e => by subst e; exact hfl
  have hp : P (retV fl) σ'.mem ∨ (σ.mem.length ≤ σ'.mem.length ∧ ∃ v', Frz σ.mem.length σ'.mem (retV fl) v' ∧ (∀ m ∈ σ'.mem.take σ.mem.length, oldM σ.mem.length m) ∧ P v' (σ'.mem.take σ.mem.length)) := by
    cases fl <;> first | exact hp | exact absurd rfl hne
  have hv : isV c.X.w c.X.Zb fz' (adr ml') (retV fl) (match (generalizing := false) u with | .ret v => v | _ => .none) := by
    cases fl with
    | nxt => obtain rfl : u = .next := hfl; exact mk_none (c := c)
    | brk => obtain rfl : u = .brk := hfl; exact mk_none (c := c)
    | cnt => obtain rfl : u = .cont := hfl; exact mk_none (c := c)
    | rai => exact hfl.elim
    | ret v => obtain ⟨u', rfl, hv⟩ := hfl; exact hv
  obtain ⟨m2, f2, F2, LA2, lo2⟩ := R2.fr
  refine leaveK_ F2 R2.news fun FF NN => ?_
  rcases hp with hp | ⟨hlen, v', hfr, hold, hp⟩
  · exact hQ _ _ <| k _ _ fz' ml' h' tk' _ hp hx1 (R.back (c' := ⟨X1, scope, [], σ.mem.length⟩) rfl rfl rfl LA lo FF NN R2 hx1) hv
  · have hn : σ.mem.length ≤ σ'.mem.length := hlen
    have RC := R2.cut (n := σ.mem.length) (Nat.le_refl _) hlen (fun x i hx => by cases hx) hold (loc' := []) (fun x v' hx => by cases hx)
    have e : ml'.take σ.mem.length ++ (ml'.drop σ.mem.length ++ fz') ++ c.X.xs = ml' ++ fz' ++ c.X.xs := by rw [← List.append_assoc, List.take_append_drop]
    have hx2 : Ext fz ml (ml'.drop σ.mem.length ++ fz') (ml'.take σ.mem.length) := ⟨fun p hp => List.mem_append_right _ (x1.1 p hp), by
      rw [adr_take]
      refine oE hx1.2 fun t ht => ?_
      rw [← ht, List.take_append_of_le_length (by rw [List.length_map]; lia), List.take_of_length_le (by rw [List.length_map]; lia)]
      exact List.prefix_refl _⟩
    exact hQ _ _ <| k _ _ _ _ h' tk' _ hp hx2 (R.back (c' := ⟨X1, scope, [], σ.mem.length⟩) rfl rfl rfl LA lo FF (by rw [e]; exact NN) RC hx2) (hfr.sound R2 hv)
theorem WR.def_ {PR : List M → Prop} (bv : List (Str × V)) (hlv : 1 ≤ c.X.lv) (ho : (wrt.heap_1 c.X.w.params).lookup f = some ⟨oc, od, .func (fnOf name qual params body scope dV kV doc pm an cdv ct), osl⟩) (hcd : codeIn (wrt.heap_1 c.X.w.params) cdv qual = true)
    (hb : ∀ (s : Shared) (fz ml : Led) (us : List Value), (wrt.heap_1 c.X.w.params).In s.heap → c.l fz ml vs us → ∃ bs, BindsTo s (fnOf name qual params body scope dV kV doc pm an cdv ct) ⟨us, []⟩ bs ∧ isF c.X.w c.X.Zb fz (adr ml) bv bs)
    (hloc : (bv.all fun y => decide (scope.names.lookup y.1 = some .local)) = true)
    (h : ∀ X' : Cb, X'.w = c.X.w → X'.lv = c.X.lv - 1 → (∀ m ∈ σ.mem, oldM σ.mem.length m) → oldL σ.mem.length vs → Cx.IsFn ⟨X', scope, [], σ.mem.length⟩ → WX ⟨X', scope, [], σ.mem.length⟩ body ⟨bv.reverse, σ.mem⟩ (OutR σ.mem.length P PR))
    (hcell : ∀ x ∈ scope.names, x.2 ≠ .cell) (hk : scope.kind = .function) (hco : scope.isCoroutine = false) (hgen : scope.isGenerator = false) : WR c (callV (.ref f)) vs σ P PR :=
  fun s fz ml us Q E R hu k kr => wpAny_call (def_core (lv' := c.X.lv - 1) bv (by have := R.ok.dep; lia) (by have := R.ok.unt; lia) ho hcd hb hloc h hcell hk hco hgen R hu k kr (fun _ _ q => q) fun _ _ q => q)
theorem WR.no {t : List Value → Sem Value} (h : WR c t vs σ P fun _ => False) : WL c t vs σ P := fun s fz ml us Q E R hu k => h s fz ml us Q E R hu k fun _ _ _ _ _ _ hp _ _ => hp.elim
theorem WL.def_ (bv : List (Str × V)) (hlv : 1 ≤ c.X.lv) (ho : (wrt.heap_1 c.X.w.params).lookup f = some ⟨oc, od, .func (fnOf name qual params body scope dV kV doc pm an cdv ct), osl⟩) (hcd : codeIn (wrt.heap_1 c.X.w.params) cdv qual = true)
    (hb : ∀ (s : Shared) (fz ml : Led) (us : List Value), (wrt.heap_1 c.X.w.params).In s.heap → c.l fz ml vs us → ∃ bs, BindsTo s (fnOf name qual params body scope dV kV doc pm an cdv ct) ⟨us, []⟩ bs ∧ isF c.X.w c.X.Zb fz (adr ml) bv bs)
    (hloc : (bv.all fun y => decide (scope.names.lookup y.1 = some .local)) = true)
    (h : ∀ X' : Cb, X'.w = c.X.w → X'.lv = c.X.lv - 1 → (∀ m ∈ σ.mem, oldM σ.mem.length m) → oldL σ.mem.length vs → Cx.IsFn ⟨X', scope, [], σ.mem.length⟩ → WX ⟨X', scope, [], σ.mem.length⟩ body ⟨bv.reverse, σ.mem⟩ (Out σ.mem.length P))
    (hcell : ∀ x ∈ scope.names, x.2 ≠ .cell) (hk : scope.kind = .function) (hco : scope.isCoroutine = false) (hgen : scope.isGenerator = false) : WL c (callV (.ref f)) vs σ P :=
  WR.no (WR.def_ bv hlv ho hcd hb hloc h hcell hk hco hgen)
end
end Mine
end
section
open PySem PySem.W PyProof.Rows PySem.Spec PySem.Calls
namespace Mine
section
variable {c : Cx} {σ : St} {ρl : List (Str × V)} {ρm : List M} {P : V → List M → Prop} {PX : Fl → St → Prop} {e : Expr} {pos : Pos} {f : Addr} {vs : List V}
theorem Rel.grow {fz ml : Led} {h h' : Heap} {m lf : Str → Option Value} (R : Rel c σ fz ml h) (hk : ∀ b o, h.get? b = some o → h'.get? b = some o) (F' : Fr c.X.h₀ c.X.L h' m) (LA : LocAt c.X.cm m lf)
    (lo : ∀ x v, σ.loc.lookup x = some v → ∃ u, lf x = some u ∧ c.v fz ml v u) : Rel c σ fz ml h' :=
  ⟨R.ok, ⟨m, lf, F', LA, lo⟩, fun p hp => ⟨hk _ _ (R.news p hp).1, (R.news p hp).2⟩, R.nd, R.mem, R.cels, R.n0, R.hi⟩
theorem Rel.move {fz ml : Led} {h h' : Heap} {m lf : Str → Option Value} (R : Rel c σ fz ml h) (F' : Fr c.X.h₀ c.X.L h' m) (LA : LocAt c.X.cm m lf)
    (lo : ∀ x v, σ.loc.lookup x = some v → ∃ u, lf x = some u ∧ c.v fz ml v u) (N' : News c.X.h₀ c.X.L h' (ml ++ fz ++ c.X.xs)) : Rel c σ fz ml h' :=
  ⟨R.ok, ⟨m, lf, F', LA, lo⟩, N', R.nd, R.mem, R.cels, R.n0, R.hi⟩
noncomputable def nmOf : Expr → Option Str
  | .Name x _ => some x
  | _ => none
noncomputable def nmsOf : List Expr → Option (List Str)
  | [] => some []
  | e :: r => match nmOf e, nmsOf r with
    | some x, some xs => some (x :: xs)
    | _, _ => none
theorem nm_is {e : Expr} {x : Str} (h : nmOf e = some x) : ∃ p, e = .Name x p := by
  cases e <;> simp [nmOf] at h
  subst h; exact ⟨_, rfl⟩
theorem nms_cons {es : List Expr} {xs : List Str} {x : Str} (h : nmsOf es = some (x :: xs)) : ∃ p r, es = .Name x p :: r ∧ nmsOf r = some xs := by
  cases es with
  | nil => cases h
  | cons e r =>
    unfold nmsOf at h
    split at h
    · rename_i y ys h1 h2
      cases h
      obtain ⟨p, rfl⟩ := nm_is h1
      exact ⟨p, r, rfl, h2⟩
    · cases h
theorem nms_nil {es : List Expr} (h : nmsOf es = some []) : es = [] := by
  cases es with
  | nil => rfl
  | cons e r => unfold nmsOf at h; split at h <;> cases h
theorem each_Name (x : Str) (p : Pos) (r : List Expr) (env : Env) : assignEach (.Name x p :: r) env = (false, fun v => assign (.Name x p) env v) :: assignEach r env := by
  first | rfl | simp [assignEach]
theorem each_nms : ∀ {xs : List Str} {es : List Expr} {env : Env}, nmsOf es = some xs → (assignEach es env).length = xs.length ∧ (assignEach es env).findIdx? (fun x => x.1) = none
  | [], es, env, h => by rw [nms_nil h]; constructor <;> first | rfl | simp [assignEach]
  | x :: xs, es, env, h => by
    refine oEEA (nms_cons h) fun p r e92 h2 => ?_
    subst e92
    refine oA (each_nms (env := env) h2) fun h3 h4 => ?_
    rw [each_Name]
    refine ⟨by rw [List.length_cons, List.length_cons, h3], ?_⟩
    rw [List.findIdx?_cons, h4]
    rfl
theorem store_nms (hf : c.IsFn) : ∀ {xs : List Str} {es : List Expr} {ws : List V} {us : List Value} {σ : St} {s : Shared} {fz ml : Led} {Q : Unit → Shared → Prop} {E : Value → Shared → Prop}, nmsOf es = some xs → (∀ x ∈ xs, c.sc.names.lookup x = some .local) → ws.length = xs.length →
    Rel c σ fz ml s.heap → c.l fz ml ws us → (∀ h' tk', Rel c ⟨(xs.zip ws).reverse ++ σ.loc, σ.mem⟩ fz ml h' → Q () (shr s h' tk')) → wpAny c.M c.A (assignInOrder ((assignEach es c.env).map (·.2)) us) Q E s
  | [], es, ws, us, σ, s, fz, ml, Q, E, h, hx, hl, R, i, k => by
    rw [nms_nil h]
    obtain rfl : ws = [] := List.eq_nil_of_length_eq_zero hl
    rw [l_nil i]
    exact assignInOrder_nil (k s.heap s.toks R)
  | x :: xs, es, ws, us, σ, s, fz, ml, Q, E, h, hx, hl, R, i, k => by
    refine oEEA (nms_cons h) fun p r e92 h2 => ?_
    subst e92
    cases ws with
    | nil => cases hl
    | cons w ws =>
      refine oEEAA (l_cons i) fun u us' e92 i1 i2 => ?_
      subst e92
      rw [each_Name, List.map_cons]
      refine assignInOrder_cons (PyProof.Rows.assign_Name ?_)
      obtain ⟨mm, f, F, LA, lo⟩ := R.fr
      rw [hf.cm] at LA
      obtain rfl : f = mm := LA
      rw [Cx.env, hf.env]
      refine storeX_L F R.news (fun h' F' N' => ?_) R.ok.kind (by show List.lookup x c.X.cs.names = _; rw [← hf.sc]; exact hx x (.head _))
      have R' := R.stored (x := x) hf.cm F lo F' N' i1
      rw [← hf.env]
      refine store_nms hf (s := shr s h' _) h2 (fun y hy => hx y (.tail _ hy)) (by simpa using hl) R' i2 fun h2 tk2 R2 => k h2 tk2 ?_
      rw [List.zip_cons_cons, List.reverse_cons, List.append_assoc]
      exact R2
theorem W0.unp {elts : List Expr} {kk : Nat} {tpos : Pos} {xs : List Str} (hn : nmsOf elts = some xs) (hx : ∀ x ∈ xs, c.sc.names.lookup x = some .local) (h : WE c e ⟨ρl, ρm⟩ fun v m => ∃ ws, v = .tup ws ∧ ws.length = xs.length ∧ PX .nxt ⟨(xs.zip ws).reverse ++ ρl, m⟩)
    (h1 : swapsWithSole [Expr.Tuple elts kk tpos] e pos.line c.env = pure false := by rfl) (h2 : swappedStores [Expr.Tuple elts kk tpos] e c.env = pure none := by rfl) : W0 c (.Assign [.Tuple elts kk tpos] e pos) ⟨ρl, ρm⟩ PX :=
  fun hf s fz ml Q E R k kr => Assign_Tuple (h s fz ml _ E R fun v m fz1 ml1 h1 tk1 u hv x1 R1 i1 => by
    obtain ⟨ws, rfl, hl, hv⟩ := hv
    obtain ⟨a, o, us, n, rfl, z, e1, e2, i⟩ := v_tup i1
    obtain ⟨mm, f, F, LA, lo⟩ := R1.fr
    obtain ⟨n1, n2⟩ := each_nms (env := c.env) hn
    refine unpackN_ F R1.news ⟨o, R1.zf z, e1, n, e2⟩ rfl (by rw [n1, List.size_toArray, l_len i, hl]) n2 fun h' F' N' => ?_
    exact store_nms hf hn hx hl (R1.move F' LA lo N') i fun h2 tk2 R2 => k _ _ fz1 ml1 h2 tk2 _ hv x1.n R2 (rfl : Flow.next = _)) h1 h2
end
end Mine
end
section
open PySem PySem.W PyProof.Rows PySem.Spec PySem.Calls
namespace Mine
noncomputable def Cb.add (X : Cb) (p : Addr × Obj) : Cb := { X with xs := p :: X.xs }
noncomputable def Cx.add (c : Cx) (p : Addr × Obj) : Cx := ⟨c.X.add p, c.sc, c.cel, c.n0⟩
section
variable {c : Cx} {σ : St} {ρl : List (Str × V)} {ρm : List M} {fz ml : Led} {h h' : Heap} {p : Addr × Obj}
theorem Cx.Ok.add (o : c.Ok) : (c.add p).Ok := by
  refine ⟨o.below, o.kin, o.top, o.kind, o.dep, o.unt, o.zb, o.kz, o.eg, o.ek, o.es, o.eb, ?_, o.lc⟩
  intro x pos u m f s Q E hx hd F N LA hf hq
  exact o.ld x pos u m f s Q E hx hd F (fun q hq => N q (List.mem_cons_of_mem _ hq)) LA hf hq
theorem Rel.addx (R : Rel c σ fz ml h) {I : Addr} {o : Obj} (hI : h.get? I = some o) (hL : I ≠ c.X.L) (h0 : c.X.h₀.get? I = none) (hf : ∀ p ∈ ml ++ fz ++ c.X.xs, p.1 ≠ I) (hs : sysModules < I) : Rel (c.add (I, o)) σ fz ml h := by
  refine ⟨R.ok.add, R.fr, ?_, ?_, memIs.cx (c := c.add (I, o)) (c' := c) rfl rfl R.mem, R.cels, R.n0, ?_⟩
  · intro q hq
    rcases List.mem_append.mp hq with hq | hq
    · exact R.news q (List.mem_append_left _ hq)
    · rcases List.mem_cons.mp hq with rfl | hq
      · exact ⟨hI, hL, h0⟩
      · exact R.news q (List.mem_append_right _ hq)
  · show ((ml ++ fz ++ (I, o) :: c.X.xs).map (·.1)).Nodup
    have := R.nd
    rw [List.map_append] at this ⊢
    rw [List.map_cons]
    refine (List.perm_middle.nodup_iff).mpr (List.nodup_cons.mpr ⟨fun hm => ?_, this⟩)
    rw [← List.map_append] at hm
    refine oEA (List.mem_map.mp hm) fun q hq e => ?_
    exact hf q hq e
  · intro q hq
    rcases List.mem_append.mp hq with hq | hq
    · exact R.hi q (List.mem_append_left _ hq)
    · rcases List.mem_cons.mp hq with rfl | hq
      · exact hs
      · exact R.hi q (List.mem_append_right _ hq)
theorem Rel.subx (ok : c.Ok) {I : Addr} {o : Obj} (R : Rel (c.add (I, o)) σ fz ml h) : Rel c σ fz ml h ∧ h.get? I = some o ∧ (∀ p ∈ ml ++ fz ++ c.X.xs, p.1 ≠ I) ∧ I ≠ c.X.L ∧ c.X.h₀.get? I = none ∧ sysModules < I := by
  have hmem : (I, o) ∈ ml ++ fz ++ (c.add (I, o)).X.xs := List.mem_append_right _ (.head _)
  have sub : ∀ q, q ∈ ml ++ fz ++ c.X.xs → q ∈ ml ++ fz ++ (c.add (I, o)).X.xs := fun q hq => by
    rcases List.mem_append.mp hq with hq | hq
    · exact List.mem_append_left _ hq
    · exact List.mem_append_right _ (List.mem_cons_of_mem _ hq)
  have hnd : (I :: (ml ++ fz ++ c.X.xs).map (·.1)).Nodup := by
    have := R.nd
    rw [List.map_append, show (c.add (I, o)).X.xs = (I, o) :: c.X.xs from rfl, List.map_cons] at this
    rw [List.map_append]
    exact (List.perm_middle.nodup_iff).mp this
  refine oA (List.nodup_cons.mp hnd) fun n1 n2 => ?_
  refine ⟨⟨ok, R.fr, fun q hq => R.news q (sub q hq), n2, memIs.cx (c := c) (c' := c.add (I, o)) rfl rfl R.mem, R.cels, R.n0, fun q hq => R.hi q (sub q hq)⟩, (R.news _ hmem).1, fun q hq e => n1 (e ▸ List.mem_map_of_mem hq), (R.news _ hmem).2.1, (R.news _ hmem).2.2, R.hi _ hmem⟩
theorem RelE.subx (ok : c.Ok) {I : Addr} {o : Obj} {u : Value} (R : RelE (c.add (I, o)) σ fz ml h u) : RelE c σ fz ml h u := by
  have sub : ∀ q, q ∈ ml ++ fz ++ c.X.xs → q ∈ ml ++ fz ++ (c.add (I, o)).X.xs := fun q hq => by
    rcases List.mem_append.mp hq with hq | hq
    · exact List.mem_append_left _ hq
    · exact List.mem_append_right _ (List.mem_cons_of_mem _ hq)
  have hnd : (I :: (ml ++ fz ++ c.X.xs).map (·.1)).Nodup := by
    have := R.nd
    rw [List.map_append, show (c.add (I, o)).X.xs = (I, o) :: c.X.xs from rfl, List.map_cons] at this
    rw [List.map_append]
    exact (List.perm_middle.nodup_iff).mp this
  obtain ⟨e, G, m, f, e1, F, LA, lo, ⟨B, a0, r1, r2, r3, r4⟩, hs⟩ := R.fl
  exact ⟨ok, ⟨e, G, m, f, e1, F, LA, lo, ⟨B, a0, r1, r2, fun q hq => r3 q (sub q hq), r4⟩, hs⟩, (List.nodup_cons.mp hnd).2, memIs.cx (c := c) (c' := c.add (I, o)) rfl rfl R.mem, R.cels, R.n0, fun q hq => R.hi q (sub q hq)⟩
theorem Rel.but (R : Rel c σ fz ml h) {I : Addr} (hk : ∀ b o, b ≠ I → h.get? b = some o → h'.get? b = some o) (hL : I ≠ c.X.L) (h0 : c.X.h₀.get? I = none) (hf : ∀ p ∈ ml ++ fz ++ c.X.xs, p.1 ≠ I) : Rel c σ fz ml h' := by
  refine hold fun _ hK9 => ?_
  obtain ⟨m, f, F, LA, lo⟩ := R.fr
  refine hK9 ?_
  refine R.move (m := m) ⟨F.ns.at' fun o e => hk _ o (Ne.symm hL) e, fun b o e => hk b o (fun q => by rw [q, h0] at e; cases e) (F.keep b o e), F.above⟩ LA lo fun q hq => ⟨hk _ _ (hf q hq) (R.news q hq).1, (R.news q hq).2⟩
end
noncomputable def itCls : List String := ["list_iterator", "tuple_iterator", "range_iterator", "str_ascii_iterator", "bytes_iterator", "dict_keyiterator"]
theorem isF_at {w : World} {Zb : Addr → Obj → Prop} {fz : Led} {ad : List Addr} : ∀ {a : List (Str × V)} {b : List (Str × Value)} {i : Nat} {k : Str} {u : Value}, isF w Zb fz ad a b → b[i]? = some (k, u) → ∃ v, a[i]? = some (k, v)
  | [], b, i, k, u, h, e => by subst h; cases e
  | (x, v) :: r, b, 0, k, u, h, e => by obtain ⟨u', us, rfl, h1, h2⟩ := h; cases e; exact ⟨v, rfl⟩
  | (x, v) :: r, b, i + 1, k, u, h, e => by obtain ⟨u', us, rfl, h1, h2⟩ := h; exact isF_at (i := i) h2 e
theorem isF_length {w : World} {Zb : Addr → Obj → Prop} {fz : Led} {ad : List Addr} : ∀ {a : List (Str × V)} {b : List (Str × Value)}, isF w Zb fz ad a b → b.length = a.length
  | [], b, h => by subst h; rfl
  | (y, v) :: r, b, h => by obtain ⟨u, us, rfl, h1, h2⟩ := h; rw [List.length_cons, List.length_cons, isF_length h2]
theorem key_str {prog : Program} {w : World} {x : Str} {v : Value} (h : (strKind prog w).is x v = true) : ∃ t, v = .str x t := Value.isStrOf_shape h
inductive Src : V → List V → Prop
  | lst {vs : List V} : Src (.lst vs) vs
  | tup {vs : List V} : Src (.tup vs) vs
  | str {x : Str} (ha : x.cps.all (· < 128) = true) : Src (.str x) (x.cps.toList.map fun c => V.str ⟨#[c]⟩)
  | byt {b : Array UInt8} : Src (.byt b) (b.toList.map fun c => V.int (c.toNat : Int))
  | dct {ks : List (Str × V)} : Src (.dct ks) (ks.map fun p => V.str p.1)
  | rng {a b d : Int} {n : Nat} (hs : Builtin.Range.small a b d = true) (hn : Builtin.Range.rangeSize a b d = n) : Src (.rng a b d) ((List.range n).map fun i : Nat => V.int (a + (i : Int) * d))
theorem rng_get {a d : Int} {n i : Nat} (h : i < n) : ((List.range n).map fun i : Nat => V.int (a + (i : Int) * d))[i]? = some (V.int (a + (i : Int) * d)) := by
  rw [List.getElem?_map, List.getElem?_range h]; rfl
inductive ForI (c : Cx) (fz1 ml1 : Led) (I : Addr) (n : Nat) (Sx : Nat → Heap → Prop) (J : List V → Mine.St → Prop) (items : List V) (s : Shared) (n' : Nat) (s' : Shared) : Prop
  | mk (i : Nat) (rest : List V) (σ' : Mine.St) (fz' ml' : Led) (h : Heap) (tk : Nat) (e1 : s' = shr s h tk) (e2 : n' = rest.length + 1) (e3 : items.drop i = rest) (e4 : i ≤ n) (e5 : J rest σ') (e6 : Rel c σ' fz' ml' h) (e7 : ExtN c fz1 ml1 fz' ml') (e8 : Sx i h) (e9 : ∀ p ∈ ml' ++ fz' ++ c.X.xs, p.1 ≠ I) : ForI c fz1 ml1 I n Sx J items s n' s'
section
variable {c : Cx} {σ : St} {ρl : List (Str × V)} {ρm : List M} {fz ml : Led} {s : Shared}
theorem Rel.modules {h : Heap} (R : Rel c σ fz ml h) : sysModules < h.objs.size := by
  obtain ⟨m, f, F, _⟩ := R.fr
  have := modules_low R.ok.top.nolimit
  exact Nat.lt_trans this (Nat.lt_of_le_of_lt F.above F.ns.lt)
theorem Rel.fresh {h : Heap} (R : Rel c σ fz ml h) : h.objs.size ≠ c.X.L ∧ c.X.h₀.get? h.objs.size = none ∧ ∀ p ∈ ml ++ fz ++ c.X.xs, p.1 ≠ h.objs.size := by
  obtain ⟨m, f, F, _⟩ := R.fr
  refine ⟨Nat.ne_of_gt F.ns.lt, ?_, fun p hp => Nat.ne_of_lt (Heap.lt_size (R.news p hp).1)⟩
  cases e : c.X.h₀.get? h.objs.size with
  | none => rfl
  | some o => exact absurd (Heap.lt_size (F.keep _ _ e)) (Nat.lt_irrefl _)
theorem Rel.pushed {h : Heap} (R : Rel c σ fz ml h) (o : Obj) : Rel c σ fz ml (h.push o) := by
  obtain ⟨m, f, F, LA, lo⟩ := R.fr
  exact R.grow (fun b o' e => Heap.get?_push_of_some o e) (F.push o) LA lo
structure Its (c : Cx) (kk : Nat) (fz ml : Led) (I : Addr) (fp : List Addr) (n : Nat) (Pv : Nat → Value → Prop) (St : Nat → Heap → Prop) (items : List V) : Prop where
  walk : Walks thePr c.X.w c.A I fp [I] n Pv St
  len : n = items.length
  src : ∀ b ∈ fp, b = I ∨ ∃ o, Zf c.X.Zb fz b o
  val : ∀ fz' ml' i v, (∀ p ∈ fz, p ∈ fz') → (adr ml).take kk <+: adr ml' → Pv i v → i < n → ∃ x, items[i]? = some x ∧ c.v fz' ml' x v
  lets : ∀ i (h : Heap), St i h → ∃ o vs, h.get? I = some o ∧ (∃ T, o.cls = .type T ∧ T ∈ itCls) ∧ o.data = .fields vs
theorem oldL_get {n : Nat} : ∀ {vs : List V} {i : Nat} {v : V}, oldL n vs → vs[i]? = some v → old n v
  | [], i, v, h, e => by cases e
  | x :: xs, 0, v, h, e => by cases e; exact h.1
  | x :: xs, i + 1, v, h, e => by exact oldL_get (i := i) h.2 e
theorem Src.iter {v : V} {items : List V} {u : Value} {Q : Value → Shared → Prop} {E : Value → Shared → Prop} (S : Src v items) (R : Rel c ⟨ρl, ρm⟩ fz ml s.heap) {kk : Nat} (hv : c.v fz ml v u) (ho : oldL kk items)
    (k : ∀ I fp n Pv St h' tk', Its c kk fz ml I fp n Pv St items → Rel c ⟨ρl, ρm⟩ fz ml h' → St 0 h' → I ≠ c.X.L → c.X.h₀.get? I = none → (∀ p ∈ ml ++ fz ++ c.X.xs, p.1 ≠ I) → sysModules < I → Q (.ref I) (shr s h' tk')) : wpAny c.M c.A (pyIter u) Q E s := by
  refine oAA R.fresh fun f1 f2 f3 => ?_
  have hsys := R.modules
  cases S with
  | lst =>
    obtain ⟨a, o, ws, n, rfl, z, e1, e2, l⟩ := v_lst hv
    have hl : s.heap.IsList a ws.toArray := ⟨o, R.zf z, e1, n, e2⟩
    have hne : a ≠ s.heap.objs.size := Nat.ne_of_lt (Heap.lt_size (R.zf z))
    refine wpAny_pyIter_list hl (k s.heap.objs.size _ _ _ _ _ s.toks ⟨Walks.list (prog := thePr) (w := c.X.w) rfl s.heap.objs.size a hne ws.toArray, by rw [List.size_toArray, l_len l], ?_, ?_, ?_⟩ (R.pushed _) ⟨⟨_, Heap.get?_push_size _ rfl, rfl, rfl⟩, hl.push _⟩ f1 f2 f3 hsys)
    · intro b hb
      rcases List.mem_cons.mp hb with rfl | hb
      · exact .inl rfl
      · rw [List.mem_singleton.mp hb]; exact .inr ⟨o, z⟩
    · intro fz' ml' i v hz ha hP hi
      rw [List.size_toArray, l_len l] at hi
      refine oE (⟨items[i], List.getElem?_eq_getElem hi⟩ : ∃ x, items[i]? = some x) fun x hx => ?_
      refine oEA (l_get l hx) fun u' hu' hr => ?_
      rw [List.getElem?_toArray] at hP
      rw [hu'] at hP
      cases hP
      exact ⟨x, hx, isV.keep hz ha x _ (oldL_get ho hx) hr⟩
    · intro i h q82
      refine oA q82 fun q90 _ => ?_
      obtain ⟨o', h1, h2, h3⟩ := q90
      exact ⟨o', _, h1, ⟨_, h2, by decide⟩, h3⟩
  | tup =>
    obtain ⟨a, o, ws, n, rfl, z, e1, e2, l⟩ := v_tup hv
    have hl : s.heap.IsTuple a ws.toArray := ⟨o, R.zf z, e1, n, e2⟩
    have hne : a ≠ s.heap.objs.size := Nat.ne_of_lt (Heap.lt_size (R.zf z))
    refine wpAny_pyIter_tuple hl (k s.heap.objs.size _ _ _ _ _ s.toks ⟨Walks.tuple (prog := thePr) (w := c.X.w) rfl s.heap.objs.size a hne ws.toArray, by rw [List.size_toArray, l_len l], ?_, ?_, ?_⟩ (R.pushed _) ⟨⟨_, Heap.get?_push_size _ rfl, rfl, rfl⟩, ⟨o, Heap.get?_push_of_some _ (R.zf z), e1, n, e2⟩⟩ f1 f2 f3 hsys)
    · intro b hb
      rcases List.mem_cons.mp hb with rfl | hb
      · exact .inl rfl
      · rw [List.mem_singleton.mp hb]; exact .inr ⟨o, z⟩
    · intro fz' ml' i v hz ha hP hi
      rw [List.size_toArray, l_len l] at hi
      refine oE (⟨items[i], List.getElem?_eq_getElem hi⟩ : ∃ x, items[i]? = some x) fun x hx => ?_
      refine oEA (l_get l hx) fun u' hu' hr => ?_
      rw [List.getElem?_toArray] at hP
      rw [hu'] at hP
      cases hP
      exact ⟨x, hx, isV.keep hz ha x _ (oldL_get ho hx) hr⟩
    · intro i h q82
      refine oA q82 fun q90 _ => ?_
      obtain ⟨o', h1, h2, h3⟩ := q90
      exact ⟨o', _, h1, ⟨_, h2, by decide⟩, h3⟩
  | @str x ha =>
    refine oE (v_str hv) fun t e91 => ?_
    subst e91
    refine wpAny_pyIter_ascii ha (k s.heap.objs.size _ _ _ _ _ s.toks ⟨Walks.strAscii (prog := thePr) (w := c.X.w) rfl s.heap.objs.size x t, by simp, ?_, ?_, ?_⟩ (R.pushed _) ⟨_, Heap.get?_push_size _ rfl, rfl, rfl⟩ f1 f2 f3 hsys)
    · intro b hb; rw [List.mem_singleton.mp hb]; exact .inl rfl
    · intro fz' ml' i v hz ha' q86
      refine oEEA q86 fun cc u hcc e93 => ?_
      subst e93
      intro hi
      exact ⟨.str ⟨#[cc]⟩, by rw [List.getElem?_map, Array.getElem?_toList, hcc]; rfl, mk_str⟩
    · intro i h q82
      refine oEAA q82 fun o' h1 h2 h3 => ?_
      exact ⟨o', _, h1, ⟨_, h2, by decide⟩, h3⟩
  | @byt b =>
    refine oE (v_byt hv) fun t e91 => ?_
    subst e91
    refine KBw.pyIter_bytes (k s.heap.objs.size _ _ _ _ _ s.toks ⟨KBw.walks (prog := thePr) (w := c.X.w) rfl s.heap.objs.size b t, by simp, ?_, ?_, ?_⟩ (R.pushed _) ⟨_, Heap.get?_push_size _ rfl, rfl, rfl⟩ f1 f2 f3 hsys)
    · intro b hb; rw [List.mem_singleton.mp hb]; exact .inl rfl
    · intro fz' ml' i v hz ha' q86
      refine oEEA q86 fun cc u hcc e93 => ?_
      subst e93
      intro hi
      exact ⟨.int (cc.toNat : Int), by rw [List.getElem?_map, Array.getElem?_toList, hcc]; rfl, mk_int⟩
    · intro i h q82
      refine oEAA q82 fun o' h1 h2 h3 => ?_
      exact ⟨o', _, h1, ⟨_, h2, by decide⟩, h3⟩
  | @dct ks =>
    obtain ⟨a, o, kws, rfl, z, e1, d, l⟩ := v_dct hv
    refine oEE (id d) fun es ep hd => ?_
    have hne : a ≠ s.heap.objs.size := Nat.ne_of_lt (Heap.lt_size (R.zf z))
    have hA : s.heap.DictAt (strKind thePr c.X.w) a kws ep := ⟨o, es, R.zf z, hd⟩
    refine wpAny_pyIter_dict (by simpa using e1) hA (k s.heap.objs.size _ _ _ _ _ s.toks ⟨Walks.dictKeys (prog := thePr) (w := c.X.w) rfl s.heap.objs.size a hne kws ep, by rw [List.length_map, isF_length l], ?_, ?_, ?_⟩ (R.pushed _) ⟨⟨_, Heap.get?_push_size _ rfl, rfl, rfl⟩, hA.push _⟩ f1 f2 f3 hsys)
    · intro b hb
      rcases List.mem_cons.mp hb with rfl | hb
      · exact .inl rfl
      · rw [List.mem_singleton.mp hb]; exact .inr ⟨o, z⟩
    · intro fz' ml' i v hz ha' q86
      refine oEEA q86 fun kk u hk hkv => ?_
      intro hi
      refine oE (key_str hkv) fun t e91 => ?_
      subst e91
      refine oE (isF_at l hk) fun v hv => ?_
      exact ⟨.str kk, by rw [List.getElem?_map, hv]; rfl, mk_str⟩
    · intro i h q82
      refine oA q82 fun q90 _ => ?_
      obtain ⟨o', h1, h2, h3⟩ := q90
      exact ⟨o', _, h1, ⟨_, h2, by decide⟩, h3⟩
  | @rng a b d n hs hn =>
    obtain ⟨r, t1, t2, t3, rfl, z⟩ := v_rng hv
    refine wpAny_pyIter_range (R.zf z) hs (k s.heap.objs.size _ _ _ _ _ s.toks ⟨Walks.range (prog := thePr) (w := c.X.w) rfl s.heap.objs.size a d n, by rw [List.length_map, List.length_range], ?_, ?_, ?_⟩ (R.pushed _) ?_ f1 f2 f3 hsys)
    · intro b hb
      rw [List.mem_singleton.mp hb]; exact .inl rfl
    · intro fz' ml' i v hz ha q86
      refine oE q86 fun t e91 => ?_
      subst e91
      intro hi
      exact ⟨_, rng_get hi, mk_int⟩
    · intro i h hst
      exact ⟨_, _, hst, ⟨_, rfl, by decide⟩, rfl⟩
    · have e : (s.heap.push { cls := .type "range_iterator", data := .fields #[rawInt a, rawInt (Builtin.Range.rangeSize a b d), rawInt d] }).get? s.heap.objs.size = some { cls := .type "range_iterator", data := .fields #[rawInt a, rawInt (Builtin.Range.rangeSize a b d), rawInt d] } := Heap.get?_push_size _ rfl
      rw [hn] at e ⊢
      show Heap.get? _ _ = some _
      rw [e]
      simp
theorem let_pure {target : Expr} {I : Addr} {v : Value} {o : Obj} {vs : Array Value} {Q : Unit → Shared → Prop} {E : Value → Shared → Prop} {M : Model} {A : Around} (hI : s.heap.get? I = some o) (hc : ∃ T, o.cls = .type T ∧ T ∈ itCls) (hd : o.data = .fields vs) (hq : Q () s) :
    wpAny M A (letOwnedTupleGo target (.ref I) v) Q E s := by
  refine oEA hc fun T hc hT => ?_
  have hno : ∀ T ∈ itCls, (["enumerate", "zip", "dict_itemiterator", "dict_reverseitemiterator", "odict_iterator", "itertools.zip_longest", "itertools.pairwise"].contains T) = false := by decide
  have key : ∀ a : Addr, (["enumerate", "zip", "dict_itemiterator", "dict_reverseitemiterator", "odict_iterator", "itertools.zip_longest", "itertools.pairwise"].contains T && vs[0]? == some (rawInt a)) = false := fun a => by rw [hno T hT]; rfl
  unfold letOwnedTupleGo
  split <;> first
    | (split
       · rename_i e
         cases e
         refine wpAny_bind (wpAny_load hI ?_)
         rw [hd, hc]
         dsimp only
         rw [if_neg (by rw [key]; decide)]
         exact wpAny_pure hq
       · exact wpAny_pure hq)
    | exact wpAny_pure hq
inductive Tgt (c : Cx) : Expr → V → St → St → Prop
  | name {x : Str} {p : Pos} {v : V} {σ : St} (hx : c.sc.names.lookup x = some .local) : Tgt c (.Name x p) v σ ⟨(x, v) :: σ.loc, σ.mem⟩
  | tup {elts : List Expr} {k : Nat} {p : Pos} {xs : List Str} {ws : List V} {σ : St} (hn : nmsOf elts = some xs) (hx : ∀ x ∈ xs, c.sc.names.lookup x = some .local) (hl : ws.length = xs.length) : Tgt c (.Tuple elts k p) (.tup ws) σ ⟨(xs.zip ws).reverse ++ σ.loc, σ.mem⟩
theorem Tgt.sound {target : Expr} {v : V} {σ' : St} {u : Value} {Q : Unit → Shared → Prop} {E : Value → Shared → Prop} (T : Tgt c target v σ σ') (hf : c.IsFn) (R : Rel c σ fz ml s.heap) (hv : c.v fz ml v u) (k : ∀ h' tk', Rel c σ' fz ml h' → Q () (shr s h' tk')) :
    wpAny c.M c.A (assign target c.env u) Q E s := by
  obtain ⟨mm, f, F, LA, lo⟩ := R.fr
  cases T with
  | name hx =>
    refine PyProof.Rows.assign_Name ?_
    rw [hf.cm] at LA
    obtain rfl : f = mm := LA
    rw [Cx.env, hf.env]
    exact storeX_L F R.news (fun h' F' N' => k h' _ (R.stored hf.cm F lo F' N' hv)) R.ok.kind (by show List.lookup _ c.X.cs.names = _; rw [← hf.sc]; exact hx)
  | tup hn hx hl =>
    obtain ⟨a, o, us, n, rfl, z, e1, e2, i⟩ := v_tup hv
    refine oA (each_nms (env := c.env) hn) fun n1 n2 => ?_
    refine unpackN_ F R.news ⟨o, R.zf z, e1, n, e2⟩ rfl (by rw [n1, List.size_toArray, l_len i, hl]) n2 fun h' F' N' => ?_
    exact store_nms hf hn hx hl (R.move F' LA lo N') i k
end
noncomputable def TurnE (J : St → Prop) (PX : Fl → St → Prop) (fl : Fl) (σ : St) : Prop := match fl with
  | .brk => PX .nxt σ
  | .ret v => PX (.ret v) σ
  | .rai => PX .rai σ
  | _ => J σ
theorem RelE.came {c : Cx} {σ : St} {fz ml : Led} {s : Shared} {u : Value} {E : Value → Shared → Prop} (R : RelE c σ fz ml s.heap u) (hf : c.IsFn) (k : ∀ h', RelE c σ fz ml h' u → E u { s with heap := h' }) : notedBy c.M c.A c.env (cameBackBy c.M c.A c.env E) u s := by
  refine hold fun _ hK9 => ?_
  obtain ⟨e, G, m, f, rfl, F, LA, lo, ⟨B, a0, r1, r2, r3, r4⟩, hs⟩ := R.fl
  refine hK9 ?_
  have hfr : c.A.frames = some (c.env :: c.X.outer) := by rw [Cx.env, hf.env]
  have hL : c.env.frame = some c.X.L := by rw [Cx.env, hf.env]
  rw [← hf.env] at r4
  refine InAir.noted r4 hfr hL fun h1 x1 s1 => held_again x1 hL (E' := E) fun h2 x2 s2 => k h2 ⟨R.ok, ⟨e, G, m, f, rfl, F, LA, lo, ⟨B, a0, r1, r2, r3, ?_⟩, (hs.trans s1).trans s2⟩, R.nd, R.mem, R.cels, R.n0, R.hi⟩
  rw [← hf.env]
  exact .inr (.inl x2)
theorem W0.for_ {c : Cx} {ρl : List (Str × V)} {ρm : List M} {target iter : Expr} {body : List Stmt} {pos : Pos} {PX : Fl → St → Prop} (J : List V → St → Prop)
    (hiter : WE c iter ⟨ρl, ρm⟩ fun v m => ∃ items, Src v items ∧ oldL c.n0 items ∧ J items ⟨ρl, m⟩)
    (turn : ∀ X' : Cb, X'.w = c.X.w → X'.lv = c.X.lv → ∀ x rest σ', J (x :: rest) σ' → ∃ σ'', Tgt c target x σ' σ'' ∧ WX ⟨X', c.sc, c.cel, c.n0⟩ body σ'' (TurnE (J rest) PX))
    (done : ∀ σ', J [] σ' → PX .nxt σ')
    (hs : ∀ x, foldedSetIterable iter c.env x = pure x := by intro _; rfl) : W0 c (.For target iter body [] pos) ⟨ρl, ρm⟩ PX := by
  intro hf s fz ml Q E R k kr
  refine wpAny_For (hiter s fz ml _ E R ?_) hs
  rintro v m fz1 ml1 h1 tk1 u ⟨items, S, ho, hJ⟩ x1 R1 i1
  refine S.iter R1 i1 ho fun I fp n Pv St h2 tk2 W R2 st2 f1 f2 f3 f4 => ?_
  refine codeAny_forLoop_any (ForI c fz1 ml1 I n St J items s) ?_ (items.length + 1)
    ⟨0, items, _, fz1, ml1, h2, _, rfl, rfl, rfl, Nat.zero_le _, hJ, R2, .rfl, st2, f3⟩
  rintro n' s' ⟨i, rest, σ', fz', ml', h, tk, rfl, rfl, hd, hi, hJ', R', X', st, hoff⟩
  cases rest with
  | nil =>
    have hin : i = n := by
      have := congrArg List.length hd
      rw [List.length_drop, List.length_nil, ← W.len] at this
      lia
    subst hin
    refine W.walk.done _ _ _ st fun h3 tk3 hk => ?_
    have R3 := R'.but (I := I) (fun b o hb e => hk b o (by simpa using hb) e) f1 f2 hoff
    refine wpAny_execs_nil ?_
    exact k _ _ fz' ml' h3 tk3 _ (done _ hJ') ((x1.n).trans R.n0 X') R3 rfl
  | cons x rest =>
    have hin : i < n := by
      have := congrArg List.length hd
      rw [List.length_drop, List.length_cons, ← W.len] at this
      lia
    have hx : items[i]? = some x := by
      have := congrArg (fun l => l[0]?) hd
      simpa [List.getElem?_drop] using this
    have hd' : items.drop (i + 1) = rest := by
      have := congrArg List.tail hd
      simpa [List.tail_drop] using this
    refine W.walk.item i _ _ _ hin st fun v3 h3 tk3 hP st3 hk => ?_
    have R3 := R'.but (I := I) (fun b o hb e => hk b o (by simpa using hb) e) f1 f2 hoff
    refine oEA (W.val fz' ml' i v3 X'.1 X'.2 hP hin) fun x' hx' hv3 => ?_
    rw [hx] at hx'
    cases hx'
    refine oEEAA (W.lets _ _ st3) fun o3 vs3 g1 g2 g3 => ?_
    refine let_pure g1 g2 g3 ?_
    have RA := R3.addx (I := I) (o := o3) g1 f1 f2 hoff f4
    refine oEA (turn (c.X.add (I, o3)) rfl rfl x rest σ' hJ') fun σ'' T hb => ?_
    have hfa : Cx.IsFn (c.add (I, o3)) := ⟨hf.cm, hf.env, hf.sc⟩
    have Ta : Tgt (c.add (I, o3)) target x σ' σ'' := by
      cases T with
      | name hx => exact .name hx
      | tup a b d => exact .tup a b d
    refine Ta.sound hfa RA hv3 fun h4 tk4 R4 => ?_
    refine hb hfa _ fz' ml' _ _ R4 ?_ fun σ5 fz5 ml5 h5 tk5 ur hp x5 R5 => (R5.subx R.ok).came hf fun h6 R6 => kr σ5 fz5 ml5 h6 tk5 ur hp ((x1.n).trans R.n0 (X'.trans R1.n0 x5)) R6
    rintro fl σ5 fz5 ml5 h5 tk5 uf hp x5 R5 hfl
    refine oAAAAA (R5.subx R.ok) fun R6 g6 off6 _ _ _ => ?_
    have x15 : ExtN c fz1 ml1 fz5 ml5 := X'.trans R1.n0 x5
    have again : J rest σ5 → ∃ m, m < (x :: rest).length + 1 ∧ ForI c fz1 ml1 I n St J items s m (shr s h5 tk5) := fun hj => by
      refine ⟨rest.length + 1, by simp, i + 1, rest, σ5, fz5, ml5, h5, tk5, rfl, rfl, hd', hin, hj, R6, x15, ?_, off6⟩
      refine W.walk.frame _ _ _ st3 fun b hb o ho => ?_
      rcases W.src b hb with rfl | ⟨ob, z⟩
      · rw [g1] at ho; cases ho; exact g6
      · have e3 := R3.zf (z.mono X'.1)
        rw [e3] at ho
        cases ho
        exact R6.zf (z.mono x15.1)
    cases fl with
    | rai => exact hfl.elim
    | nxt => obtain rfl : uf = .next := hfl; exact again hp
    | cnt => obtain rfl : uf = .cont := hfl; exact again hp
    | brk => obtain rfl : uf = .brk := hfl; exact k _ _ fz5 ml5 h5 tk5 _ hp ((x1.n).trans R.n0 x15) R6 rfl
    | ret v => obtain ⟨u', rfl, hv'⟩ := hfl; exact k _ _ fz5 ml5 h5 tk5 _ hp ((x1.n).trans R.n0 x15) R6 ⟨u', rfl, hv'⟩
end Mine
end
section
open PySem PySem.W PyProof.Rows PySem.Spec PySem.Calls
namespace Mine
section
variable {c : Cx} {σ : St} {ρl : List (Str × V)} {ρm : List M} {fz ml : Led} {h h' : Heap}
theorem Rel.addfz (R : Rel c σ fz ml h) {D : Addr} {o : Obj} (hD : h.get? D = some o) (hL : D ≠ c.X.L) (h0 : c.X.h₀.get? D = none) (hf : ∀ p ∈ ml ++ fz ++ c.X.xs, p.1 ≠ D) (hs : sysModules < D) : Rel c σ ((D, o) :: fz) ml h := by
  have hx : Ext fz ml ((D, o) :: fz) ml := ⟨fun p hp => List.mem_cons_of_mem _ hp, List.prefix_refl _⟩
  obtain ⟨m, f, F, LA, lo⟩ := R.fr
  refine ⟨R.ok, ⟨m, f, F, LA, fun x v hv => ?_⟩, fun q hq => ?_, ?_, R.mem.mono hx.1 hx.2, R.cels, R.n0, fun q hq => ?_⟩
  · refine oEA (lo x v hv) fun u h1 h2 => ?_
    exact ⟨u, h1, isVmono hx h2⟩
  · rw [List.append_assoc, List.cons_append] at hq
    rcases List.mem_append.mp hq with hq | hq
    · exact R.news q (List.mem_append_left _ (List.mem_append_left _ hq))
    · rcases List.mem_cons.mp hq with rfl | hq
      · exact ⟨hD, hL, h0⟩
      · exact R.news q (by rw [List.append_assoc]; exact List.mem_append_right _ hq)
  · have := R.nd
    rw [List.append_assoc, List.map_append] at this
    rw [List.append_assoc, List.cons_append, List.map_append, List.map_cons]
    refine (List.perm_middle.nodup_iff).mpr (List.nodup_cons.mpr ⟨fun hm => ?_, this⟩)
    rw [← List.map_append, ← List.append_assoc] at hm
    refine oEA (List.mem_map.mp hm) fun q hq e => ?_
    exact hf q hq e
  · rw [List.append_assoc, List.cons_append] at hq
    rcases List.mem_append.mp hq with hq | hq
    · exact R.hi q (List.mem_append_left _ (List.mem_append_left _ hq))
    · rcases List.mem_cons.mp hq with rfl | hq
      · exact hs
      · exact R.hi q (by rw [List.append_assoc]; exact List.mem_append_right _ hq)
end
noncomputable def relabelS (scope sc : Scope) : Scope :=
  { scope with names := scope.names.map fun (n, k) => if (k == .free && sc.kind == .function && sc.names.lookup n == some .cell) then (n, .cell) else (n, k) }
theorem relabel_eq {c : Cx} (o : c.Ok) (scope : Scope) : relabel scope c.X.env = relabelS scope c.sc := by
  unfold relabel relabelS
  have e := o.es
  have : c.X.env.scope = c.sc := e
  simp only [Env.kindOf, this]
noncomputable def Cx.comp (c : Cx) (scope : Scope) (cl : List (Str × Addr)) (C : Addr) (lf m : Str → Option Value) (cel : List (Str × Nat)) (xs : Led) : Cx :=
  ⟨{ c.X with env := compEnvC scope cl C c.X.env, cm := some (lf, m), xs := xs }, relabelS scope c.sc, cel, c.n0⟩
section
variable {c : Cx} {σ : St} {ρl : List (Str × V)} {ρm : List M} {fz ml : Led} {h h' : Heap}
theorem Cx.Ok.comp (o : c.Ok) {scope : Scope} {cl : List (Str × Addr)} {C : Addr} {lf m : Str → Option Value} {cel : List (Str × Nat)} {xs : Led} {oC : Obj} (hk : scope.kind = .function) (hC : (C, oC) ∈ xs) (hns : LCg.NsObj oC lf) : (c.comp scope cl C lf m cel xs).Ok := by
  refine ⟨o.below, o.kin, o.top, o.kind, o.dep, o.unt, o.zb, o.kz, o.eg, hk, relabel_eq o scope, o.eb, ?_, ?_⟩
  · rintro x pos u m' f s Q E hx hd F N ⟨rfl, rfl⟩ hf hq
    rw [show (c.comp scope cl C f m' cel xs).sc = relabel scope c.X.env from (relabel_eq o scope).symm] at hx
    exact wpAny_Name (wpAny_loadName_local hk hx (hns.ns (N _ hC).1) hf hq) hd
  · intro x pos cc ob u s Q E hx hd hd2 hl hg hdat hq
    rw [show (c.comp scope cl C lf m cel xs).sc = relabel scope c.X.env from (relabel_eq o scope).symm] at hx
    rcases hx with hx | hx
    · exact wpAny_Name (wpAny_loadName_cell hk hx hl ⟨ob, hg, hdat⟩ hq) hd
    · exact wpAny_Name (wpAny_loadName_free hk hx hl ⟨ob, hg, hdat⟩ hq hd2) hd
end
inductive TgtC (sc : Scope) : Expr → V → List (Str × V) → Prop
  | name {x : Str} {p : Pos} {v : V} (hx : sc.names.lookup x = some .local) : TgtC sc (.Name x p) v [(x, v)]
  | tup {elts : List Expr} {k : Nat} {p : Pos} {xs : List Str} {ws : List V} (hn : nmsOf elts = some xs) (hx : ∀ x ∈ xs, sc.names.lookup x = some .local) (hl : ws.length = xs.length) : TgtC sc (.Tuple elts k p) (.tup ws) (xs.zip ws).reverse
section
variable {c : Cx} {scope : Scope} {cl : List (Str × Addr)} {C : Addr} {m : Str → Option Value} {oth : Led}
structure CAt (c : Cx) (C : Addr) (m lf : Str → Option Value) (oth : Led) (h : Heap) : Prop where
  F : Fr c.X.h₀ c.X.L h m
  N : News c.X.h₀ c.X.L h oth
  ns : h.Ns C lf
  off : ∀ p ∈ oth, p.1 ≠ C
  nL : C ≠ c.X.L
  n0 : c.X.h₀.get? C = none
theorem CAt.but {lf lf' : Str → Option Value} {h h' : Heap} (K : CAt c C m lf oth h) (hn : h'.Ns C lf') (hs : Heap.SameBut C h h') : CAt c C m lf' oth h' :=
  ⟨⟨K.F.ns.at' fun o e => hs.extBut _ o (Ne.symm K.nL) e, fun b o e => hs.extBut b o (fun q => by rw [q, K.n0] at e; cases e) (K.F.keep b o e), K.F.above⟩, fun p hp => ⟨hs.extBut _ _ (K.off p hp) (K.N p hp).1, (K.N p hp).2⟩, hn, K.off, K.nL, K.n0⟩
theorem storeC {lf : Str → Option Value} {s : Shared} {x : Str} {u : Value} {Q : Unit → Shared → Prop} {E : Value → Shared → Prop} (hx : (relabel scope c.X.env).names.lookup x = some .local) (hk : scope.kind = .function) (K : CAt c C m lf oth s.heap)
    (k : ∀ h' tk', CAt c C m (fun y => if y = x then some u else lf y) oth h' → Q () (shr s h' tk')) : wpAny c.M c.A (storeName (compEnvC scope cl C c.X.env) x u) Q E s :=
  wpAny_storeName_local hx K.ns (fun h' hn hs => k h' _ (K.but hn hs)) (by show (scope.kind == .class || (scope.kind == .module && _)) = false; rw [hk]; rfl)
theorem store_nmsC {fz ml : Led} (hk : scope.kind = .function) : ∀ {xs : List Str} {es : List Expr} {ws : List V} {us : List Value} {loc : List (Str × V)} {lf : Str → Option Value} {s : Shared} {Q : Unit → Shared → Prop} {E : Value → Shared → Prop}, nmsOf es = some xs → (∀ x ∈ xs, (relabel scope c.X.env).names.lookup x = some .local) → ws.length = xs.length →
    CAt c C m lf oth s.heap → (∀ y v, loc.lookup y = some v → ∃ u, lf y = some u ∧ c.v fz ml v u) → c.l fz ml ws us →
    (∀ h' tk' lf', CAt c C m lf' oth h' → (∀ y v, ((xs.zip ws).reverse ++ loc).lookup y = some v → ∃ u, lf' y = some u ∧ c.v fz ml v u) → Q () (shr s h' tk')) → wpAny c.M c.A (assignInOrder ((assignEach es (compEnvC scope cl C c.X.env)).map (·.2)) us) Q E s
  | [], es, ws, us, loc, lf, s, Q, E, h, hx, hl, K, lo, i, k => by
    rw [nms_nil h]
    obtain rfl : ws = [] := List.eq_nil_of_length_eq_zero hl
    rw [l_nil i]
    exact assignInOrder_nil (k s.heap s.toks lf K lo)
  | x :: xs, es, ws, us, loc, lf, s, Q, E, h, hx, hl, K, lo, i, k => by
    refine oEEA (nms_cons h) fun p r e92 h2 => ?_
    subst e92
    cases ws with
    | nil => cases hl
    | cons w ws =>
      refine oEEAA (l_cons i) fun u us' e92 i1 i2 => ?_
      subst e92
      rw [each_Name, List.map_cons]
      refine assignInOrder_cons (PyProof.Rows.assign_Name (storeC (hx x (.head _)) hk K fun h' tk' K' => ?_))
      refine store_nmsC hk (loc := (x, w) :: loc) (s := shr s h' tk') h2 (fun y hy => hx y (.tail _ hy)) (by simpa using hl) K' (fun y v hy => ?_) i2 fun h2 tk2 lf2 K2 lo2 => k h2 tk2 lf2 K2 ?_
      · rw [List.lookup_cons] at hy
        by_cases e : y = x
        · subst e
          rw [beq_self_eq_true] at hy
          cases hy
          exact ⟨u, by rw [if_pos rfl], i1⟩
        · rw [beq_false_of_ne e] at hy
          refine oEA (lo y v hy) fun u' h1 h2 => ?_
          exact ⟨u', by rw [if_neg e]; exact h1, h2⟩
      · rw [List.zip_cons_cons, List.reverse_cons, List.append_assoc]
        exact lo2
theorem TgtC.sound {fz ml : Led} {target : Expr} {v : V} {loc : List (Str × V)} {lf : Str → Option Value} {s : Shared} {u : Value} {Q : Unit → Shared → Prop} {E : Value → Shared → Prop} (T : TgtC (relabel scope c.X.env) target v loc) (hk : scope.kind = .function) (K : CAt c C m lf oth s.heap) (hv : c.v fz ml v u)
    (hz : ∀ a o, Zf c.X.Zb fz a o → s.heap.get? a = some o)
    (k : ∀ h' tk' lf', CAt c C m lf' oth h' → (∀ y v, loc.lookup y = some v → ∃ u, lf' y = some u ∧ c.v fz ml v u) → Q () (shr s h' tk')) : wpAny c.M c.A (assign target (compEnvC scope cl C c.X.env) u) Q E s := by
  cases T with
  | @name x p _ hx =>
    refine PyProof.Rows.assign_Name (storeC hx hk K fun h' tk' K' => k h' tk' _ K' fun y w hy => ?_)
    rw [List.lookup_cons] at hy
    by_cases e : y = x
    · subst e
      rw [beq_self_eq_true] at hy
      cases hy
      exact ⟨u, by rw [if_pos rfl], hv⟩
    · rw [beq_false_of_ne e] at hy
      cases hy
  | @tup elts kk p xs ws hn hx hl =>
    refine hold fun _ hK9 => ?_
    obtain ⟨a, o, us, n, rfl, z, e1, e2, i⟩ := v_tup hv
    refine hK9 ?_
    refine oA (each_nms (env := compEnvC scope cl C c.X.env) hn) fun n1 n2 => ?_
    refine hold fun _ hK9 => ?_
    refine oEA (LCg.ns_obj K.ns) fun oC hoC hns => ?_
    refine hK9 ?_
    have N2 : News c.X.h₀ c.X.L s.heap ((C, oC) :: oth) := fun q hq => by
      rcases List.mem_cons.mp hq with rfl | hq
      · exact ⟨hoC, K.nL, K.n0⟩
      · exact K.N q hq
    refine unpackN_ K.F N2 ⟨o, hz _ _ z, e1, n, e2⟩ rfl (by rw [n1, List.size_toArray, l_len i, hl]) n2 fun h' F' N' => ?_
    have K' : CAt c C m lf oth h' := ⟨F', fun q hq => N' q (List.mem_cons_of_mem _ hq), hns.ns (N' _ (.head _)).1, K.off, K.nL, K.n0⟩
    refine store_nmsC hk (loc := []) (s := shr s h' _) hn hx hl K' (fun y v hy => by cases hy) i fun h2 tk2 lf2 K2 lo2 => k h2 tk2 lf2 K2 ?_
    rw [List.append_nil] at lo2
    exact lo2
end
end Mine
end
section
open PySem PySem.W PyProof.Rows PySem.Spec PySem.Calls
namespace Mine
section
variable {prog : Program} {w : World} {A : Around} {s : Shared}
theorem codeAny_compLoop_any {R : Result → Shared → Prop} {elt target iter : Expr} {ifs : List Expr} {scope : Scope} {pos : Pos} {it acc : Value} {env : Env} (I : Nat → Shared → Prop)
    (turn : ∀ n s, I n s → wpAny (model prog w) A (pyNext it) (fun r s₁ => match r with
      | none => R (.ok .next) s₁
      | some v => wpAny (model prog w) A (letOwnedTupleGo target it v) (fun _ s₁' => wpAny (model prog w) A (assign target env v) (fun _ s₂ =>
          wpAny (model prog w) A (forIn ifs true fun c r => if r = true then do let ok ← isTrue c env (eval c env); pure (ForInStep.yield ok) else pure (ForInStep.yield r)) (fun ok s₃ =>
            if ok = true then wpAny (model prog w) A (eval elt env) (fun x s₄ =>
              wpAny (model prog w) A (call (.builtin "list.append") [acc, x]) (fun _ s₅ => ∃ m, m < n ∧ I m s₅) (notedBy (model prog w) A env fun e s' => R (.error e) s') s₄) (notedBy (model prog w) A env fun e s' => R (.error e) s') s₃
            else ∃ m, m < n ∧ I m s₃) (notedBy (model prog w) A env fun e s' => R (.error e) s') s₂) (notedBy (model prog w) A env fun e s' => R (.error e) s') s₁') (notedBy (model prog w) A env fun e s' => R (.error e) s') s₁) (notedBy (model prog w) A env fun e s' => R (.error e) s') s)
    (n : Nat) (h : I n s) :
    codeAny (model prog w) A (.compLoop (.ListComp elt [⟨target, iter, ifs, 0⟩] scope pos) 0 it acc env) R s := by
  refine codeAny_loop rfl I (fun n s hI => ?_) n h
  show wpAny _ A ((compTurn (.ListComp elt [⟨target, iter, ifs, 0⟩] scope pos) 0 it acc env).onRaise (fun x => do noteFrame x env; theTreesLotGoes x)) _ _ s
  refine wpAny_noted ?_
  rw [compTurn_list]
  refine wpAny_bind (wpAny_standAt (wpAny_bind (wpAny_mono (turn n s hI) (fun r s₁ h₁ => ?_) fun _ _ h' => h')))
  cases r with
  | none => exact wpAny_pure h₁
  | some v =>
    refine wpAny_bind (wpAny_mono h₁ (fun _ s₁' h₁' => ?_) fun _ _ h' => h')
    refine wpAny_bind (wpAny_mono h₁' (fun _ s₂ h₂ => wpAny_bind (wpAny_mono h₂ (fun ok s₃ h₃ => ?_) fun _ _ h' => h')) fun _ _ h' => h')
    cases ok with
    | false => exact wpAny_pure ⟨rfl, h₃⟩
    | true =>
      exact wpAny_bind (wpAny_bind (wpAny_mono h₃ (fun x s₄ h₄ => wpAny_bind (wpAny_mono h₄ (fun _ s₅ h₅ => wpAny_pure (wpAny_pure ⟨rfl, h₅⟩)) fun _ _ h' => h')) fun _ _ h' => h'))
end
noncomputable def celC (scope : Scope) (cel : List (Str × Nat)) : List (Str × Nat) := scope.names.filterMap fun y => if y.2 == .free then (cel.lookup y.1).map fun i => (y.1, i) else none
noncomputable def WTs (c : Cx) : List Expr → St → (Bool → List M → Prop) → Prop
  | [], σ, PT => PT true σ.mem
  | [t], σ, PT => WT c t σ PT
  | _, _, _ => False
theorem closure_go (env : Env) : ∀ (names : List (Str × NameKind)) (acc : List (Str × Addr)), (∀ y ∈ names, y.2 = .free → ∃ a, env.cells.lookup y.1 = some a) → (∀ q ∈ acc, env.cells.lookup q.1 = some q.2) →
    ∃ cl : List (Str × Addr), (forIn names acc fun (x : Str × NameKind) r => (if x.2 == .free then (do let a ← cellOf env x.1; pure (ForInStep.yield ((x.1, a) :: r)) : Sem (ForInStep (List (Str × Addr)))) else pure (ForInStep.yield r))) = pure cl ∧ (∀ q ∈ cl, env.cells.lookup q.1 = some q.2) ∧ (∀ y ∈ names, y.2 = .free → y.1 ∈ cl.map (·.1)) ∧ ∀ q ∈ acc, q ∈ cl
  | [], acc, _, ha => ⟨acc, rfl, ha, fun _ h => (nomatch h), fun _ h => h⟩
  | y :: r, acc, hn, ha => by
    by_cases hy : y.2 = .free
    · obtain ⟨a, e⟩ := hn y (.head _) hy
      obtain ⟨cl, h1, h2, h3, h4⟩ := closure_go env r ((y.1, a) :: acc) (fun z hz => hn z (.tail _ hz)) (fun q hq => by
        rcases List.mem_cons.mp hq with rfl | hq
        · exact e
        · exact ha q hq)
      refine ⟨cl, ?_, h2, fun z hz hk => ?_, fun q hq => h4 q (.tail _ hq)⟩
      · rw [List.forIn_cons, hy]
        have : cellOf env y.1 = pure a := by unfold cellOf; rw [e]
        simp only [this]
        exact h1
      · rcases List.mem_cons.mp hz with rfl | hz
        · exact List.mem_map_of_mem (h4 _ (.head _))
        · exact h3 z hz hk
    · refine hold fun _ hK9 => ?_
      obtain ⟨cl, h1, h2, h3, h4⟩ := closure_go env r acc (fun z hz => hn z (.tail _ hz)) ha
      refine hK9 ?_
      refine ⟨cl, ?_, h2, fun z hz hk => ?_, h4⟩
      · rw [List.forIn_cons, if_neg (by simpa using hy)]
        exact h1
      · rcases List.mem_cons.mp hz with rfl | hz
        · exact absurd hk hy
        · exact h3 z hz hk
theorem lookup_of_all {β : Type} {f : Str → Option β} : ∀ {cl : List (Str × β)} {x : Str}, (∀ q ∈ cl, f q.1 = some q.2) → x ∈ cl.map (·.1) → cl.lookup x = f x
  | [], x, _, h => nomatch h
  | q :: r, x, ha, h => by
    rw [List.lookup_cons]
    by_cases e : x = q.1
    · rw [e, beq_self_eq_true]; exact (ha q (.head _)).symm
    · rw [beq_false_of_ne e]
      rcases List.mem_cons.mp h with h | h
      · exact absurd h e
      · exact lookup_of_all (fun z hz => ha z (.tail _ hz)) h
theorem closure_is (scope : Scope) (env : Env) (hn : ∀ y ∈ scope.names, y.2 = .free → ∃ a, env.cells.lookup y.1 = some a) : ∃ cl, closureFor scope env = pure cl ∧ ∀ y ∈ scope.names, y.2 = .free → cl.lookup y.1 = env.cells.lookup y.1 := by
  refine hold fun _ hK9 => ?_
  refine oEAAA (closure_go env scope.names [] hn (fun _ h => (nomatch h))) fun cl h1 h2 h3 _ => ?_
  refine hK9 ?_
  refine ⟨cl, ?_, fun y hy hk => lookup_of_all (f := fun x => env.cells.lookup x) h2 (h3 y hy hk)⟩
  unfold closureFor
  first | exact h1 | (simp only [bind_pure]; exact h1) | (rw [← h1]; simp only [bind_pure]; rfl) | (rw [← h1]; simp; rfl)
end Mine
end
section
open PySem PySem.W PyProof.Rows PySem.Spec PySem.Calls
namespace Mine
theorem celC_get {scope : Scope} {cel : List (Str × Nat)} {x : Str} {i : Nat} (h : (celC scope cel).lookup x = some i) : (∃ y ∈ scope.names, y.2 = .free ∧ y.1 = x) ∧ cel.lookup x = some i := by
  have key : ∀ names : List (Str × NameKind), (names.filterMap fun y => if y.2 == .free then (cel.lookup y.1).map fun i => (y.1, i) else none).lookup x = some i → (∃ y ∈ names, y.2 = .free ∧ y.1 = x) ∧ cel.lookup x = some i := by
    intro names
    induction names with
    | nil => intro h; cases h
    | cons y r ih =>
      intro h
      rw [List.filterMap_cons] at h
      by_cases hy : y.2 = .free
      · rw [if_pos (by simpa using hy)] at h
        cases e : cel.lookup y.1 with
        | none =>
          rw [e] at h
          refine hold fun _ hK9 => ?_
          refine oA (ih h) fun q90 h2 => ?_
          obtain ⟨z, hz, h1⟩ := q90
          refine hK9 ?_
          exact ⟨⟨z, .tail _ hz, h1⟩, h2⟩
        | some j =>
          rw [e] at h
          simp only [Option.map_some, List.lookup_cons] at h
          by_cases q : x = y.1
          · subst q
            rw [beq_self_eq_true] at h
            cases h
            exact ⟨⟨y, .head _, hy, rfl⟩, e⟩
          · rw [beq_false_of_ne q] at h
            refine oA (ih h) fun q90 h2 => ?_
            obtain ⟨z, hz, h1⟩ := q90
            exact ⟨⟨z, .tail _ hz, h1⟩, h2⟩
      · rw [if_neg (by simpa using hy)] at h
        refine hold fun _ hK9 => ?_
        refine oA (ih h) fun q90 h2 => ?_
        obtain ⟨z, hz, h1⟩ := q90
        refine hK9 ?_
        exact ⟨⟨z, .tail _ hz, h1⟩, h2⟩
  exact key _ h
theorem Rel.conv {c c' : Cx} {σ : St} {loc : List (Str × V)} {fz ml : Led} {h : Heap} {m f : Str → Option Value} (R : Rel c ⟨σ.loc, σ.mem⟩ fz ml h) (ok : c'.Ok) (hw : c.X.w = c'.X.w) (hz : c.X.Zb = c'.X.Zb) (hx : c.X.xs = c'.X.xs) (h0 : c.X.h₀ = c'.X.h₀) (hL : c.X.L = c'.X.L) (hn : c'.n0 ≤ ml.length)
    (F : Fr c'.X.h₀ c'.X.L h m) (LA : LocAt c'.X.cm m f) (lo : ∀ x v, loc.lookup x = some v → ∃ u, f x = some u ∧ c'.v fz ml v u) (hc : ∀ x i, c'.cel.lookup x = some i → ∃ a, c'.env.cells.lookup x = some a ∧ (adr ml)[i]? = some a) : Rel c' ⟨loc, σ.mem⟩ fz ml h :=
  ⟨ok, ⟨m, f, F, LA, lo⟩, by rw [← h0, ← hL, ← hx]; exact R.news, by rw [← hx]; exact R.nd, R.mem.cx hw hz, hc, hn, by rw [← hx]; exact R.hi⟩
inductive LcI (c : Cx) (loc : List (Str × V)) (fz ml : Led) (I C D : Addr) (n : Nat) (Sx : Nat → Heap → Prop) (J : List V → List V → List M → Prop) (items : List V) (s : Shared) (n' : Nat) (s' : Shared) : Prop
  | mk (i : Nat) (rest ys : List V) (mem' : List M) (fz' ml' : Led) (h : Heap) (tk : Nat) (lf : Str → Option Value) (ws : List Value) (k : Nat) (e1 : s' = shr s h tk) (e2 : n' = rest.length + 1) (e3 : items.drop i = rest) (e4 : i ≤ n) (e5 : J rest ys mem') (e6 : Rel c ⟨loc, mem'⟩ fz' ml' h) (e7 : Ext fz ml fz' ml') (e8 : Sx i h) (e9 : ∀ p ∈ ml' ++ fz' ++ c.X.xs, p.1 ≠ I)
      (e10 : h.get? D = some (listOf ws.toArray k)) (e11 : c.l fz' ml' ys ws) (e12 : ws.length ≤ i) (e13 : ∀ p ∈ ml' ++ fz' ++ c.X.xs, p.1 ≠ D) (e14 : h.Ns C lf) (e15 : ∀ p ∈ ml' ++ fz' ++ c.X.xs, p.1 ≠ C) : LcI c loc fz ml I C D n Sx J items s n' s'
section
variable {c : Cx} {σ : St} {ρl : List (Str × V)} {ρm : List M} {fz ml : Led} {s : Shared} {elt target iter : Expr} {ifs : List Expr} {scope : Scope} {pos : Pos} {cl : List (Str × Addr)}
theorem ws_tests {c : Cx} {σ : St} {PT : Bool → List M → Prop} {env : Env} (he : c.env = env) (h : WTs c ifs σ PT) {s : Shared} {fz ml : Led} {Q : Bool → Shared → Prop} {E : Value → Shared → Prop} (R : Rel c σ fz ml s.heap) (k : PostT c σ.loc fz ml PT Q s) :
    wpAny (model thePr c.X.w) c.A (forIn ifs true fun t r => if r = true then do let ok ← isTrue t env (eval t env); pure (ForInStep.yield ok) else pure (ForInStep.yield r)) Q E s := by
  subst he
  match ifs, h with
  | [], h => exact wpAny_tests_nil (k _ _ fz ml s.heap s.toks h .rfl R)
  | [t], h => exact wpAny_tests_one (h s fz ml Q E R k)
theorem comp_back {σ' : St} {loc0 : List (Str × V)} {C D I : Addr} {oC oD oI : Obj} {lf m f0 : Str → Option Value} {fz' ml' : Led} {h' : Heap} (ok : c.Ok) (R : Rel (c.comp scope cl C lf m (celC scope c.cel) ((I, oI) :: (C, oC) :: (D, oD) :: c.X.xs)) σ' fz' ml' h') (x : Ext fz ml fz' ml')
    (LA : LocAt c.X.cm m f0) (lo : ∀ x v, loc0.lookup x = some v → ∃ u, f0 x = some u ∧ c.v fz ml v u) (cels : ∀ x i, c.cel.lookup x = some i → ∃ a, c.env.cells.lookup x = some a ∧ (adr ml)[i]? = some a) :
    Rel c ⟨loc0, σ'.mem⟩ fz' ml' h' ∧ Fr c.X.h₀ c.X.L h' m ∧ h'.get? I = some oI ∧ h'.get? C = some oC ∧ h'.get? D = some oD ∧ (∀ p ∈ ml' ++ fz' ++ c.X.xs, p.1 ≠ I) ∧ (∀ p ∈ ml' ++ fz' ++ c.X.xs, p.1 ≠ C) ∧ (∀ p ∈ ml' ++ fz' ++ c.X.xs, p.1 ≠ D) := by
  refine hold fun _ hK9 => ?_
  obtain ⟨mm, ff, FF, ⟨e1, e2⟩, _⟩ := R.fr
  refine hK9 ?_
  subst e1
  have RB : Rel (((c.add (D, oD)).add (C, oC)).add (I, oI)) ⟨loc0, σ'.mem⟩ fz' ml' h' := Rel.conv (c := c.comp scope cl C lf mm (celC scope c.cel) ((I, oI) :: (C, oC) :: (D, oD) :: c.X.xs)) (σ := σ') R ok.add.add.add rfl rfl rfl rfl rfl R.n0 FF LA
    (fun y v hy => let ⟨u, h1, h2⟩ := lo y v hy; ⟨u, h1, isVmono (c := c) x h2⟩) (fun y i hy => let ⟨a, h1, h2⟩ := cels y i hy; ⟨a, h1, pre_get x.2 h2⟩)
  refine hold fun _ hK9 => ?_
  refine oAAA (RB.subx ok.add.add) fun R1 a1 a2 _ => ?_
  refine hK9 ?_
  refine hold fun _ hK9 => ?_
  refine oAAA (R1.subx ok.add) fun R2 b1 b2 _ => ?_
  refine hK9 ?_
  refine hold fun _ hK9 => ?_
  refine oAAA (R2.subx ok) fun R3 d1 d2 _ => ?_
  refine hK9 ?_
  have up : ∀ p, p ∈ ml' ++ fz' ++ c.X.xs → p ∈ ml' ++ fz' ++ (D, oD) :: c.X.xs := fun p hp => by
    rcases List.mem_append.mp hp with hp | hp
    · exact List.mem_append_left _ hp
    · exact List.mem_append_right _ (List.mem_cons_of_mem _ hp)
  have up2 : ∀ p, p ∈ ml' ++ fz' ++ c.X.xs → p ∈ ml' ++ fz' ++ (C, oC) :: (D, oD) :: c.X.xs := fun p hp => by
    rcases List.mem_append.mp hp with hp | hp
    · exact List.mem_append_left _ hp
    · exact List.mem_append_right _ (List.mem_cons_of_mem _ (List.mem_cons_of_mem _ hp))
  exact ⟨R3, FF, a1, b1, d1, fun p hp => a2 p (up2 p hp), fun p hp => b2 p (up p hp), d2⟩
theorem lcomp_core (J : List V → List V → List M → Prop) {I : Addr} {fp : List Addr} {n : Nat} {Pv : Nat → Value → Prop} {St : Nat → Heap → Prop} {items : List V} {RR : Value → Addr → Result → Shared → Prop} {E : Value → Shared → Prop}
    (R : Rel c ⟨ρl, ρm⟩ fz ml s.heap) (W : Its c ml.length fz ml I fp n Pv St items) (st : St 0 s.heap) (f1 : I ≠ c.X.L) (f2 : c.X.h₀.get? I = none) (f3 : ∀ p ∈ ml ++ fz ++ c.X.xs, p.1 ≠ I) (f4 : sysModules < I) (hIs : I < s.heap.objs.size)
    (hsz : items.length ≤ sizeLine) (hJ : J items [] ρm) (hcl : ∀ y ∈ scope.names, y.2 = .free → cl.lookup y.1 = c.env.cells.lookup y.1) (hcell : ∀ y ∈ scope.names, y.2 ≠ .cell) (hkind : scope.kind = .function)
    (turn : ∀ x rest ys m, J (x :: rest) ys m → ∃ loc, TgtC (relabelS scope c.sc) target x loc ∧ ∀ X' : Cb, X'.w = c.X.w → X'.lv = c.X.lv → WTs ⟨X', relabelS scope c.sc, celC scope c.cel, c.n0⟩ ifs ⟨loc, m⟩ (fun ok m' => if ok = true then WE ⟨X', relabelS scope c.sc, celC scope c.cel, c.n0⟩ elt ⟨loc, m'⟩ (fun y m'' => J rest (ys ++ [y]) m'') else J rest ys m'))
    (fin : ∀ D C ys mem' fz' ml' h' tk' lf, J [] ys mem' → Ext fz ml fz' ml' → Rel c ⟨ρl, mem'⟩ fz' ml' h' → (∃ ws k, h'.get? D = some (listOf ws.toArray k) ∧ c.l fz' ml' ys ws) → (∀ p ∈ ml' ++ fz' ++ c.X.xs, p.1 ≠ D) → D ≠ c.X.L → c.X.h₀.get? D = none → sysModules < D →
      h'.Ns C lf → (∀ p ∈ ml' ++ fz' ++ c.X.xs, p.1 ≠ C) → C ≠ c.X.L → c.X.h₀.get? C = none → C ≠ D → sysModules < C → RR (.ref D) C (.ok .next) (shr s h' tk')) :
    wpAny c.M c.A (newList []) (fun acc s₃ => wpAny c.M c.A (newFunctionEnv scope c.X.env.globals cl [] c.X.env.qual none .none (some c.X.env)) (fun cenv s₄ =>
      codeAny c.M c.A (.compStart (.ListComp elt [⟨target, iter, ifs, 0⟩] scope pos) 0 (.ref I) acc { cenv with scope := relabel scope c.X.env }) (RR acc cenv.locals) s₄) E s₃) E s := by
  refine wpAny_newObj_type (wpAny_newFunctionEnv hcell (by intro y hy; simp at hy) (fun h₁ hns₁ hsb₁ => ?_) hkind)
  dsimp only at hns₁ hsb₁ ⊢
  generalize hH2 : s.heap.push { cls := .type "list", dict := none, data := .seq ([] : List Value).toArray } = H2 at hns₁ hsb₁ ⊢
  have hC : H2.objs.size = s.heap.objs.size + 1 := by rw [← hH2, Heap.size_push]
  have hDC : s.heap.objs.size ≠ H2.objs.size := by rw [hC]; exact Nat.ne_of_lt (Nat.lt_succ_self _)
  have below : ∀ b, b < s.heap.objs.size → b ≠ H2.objs.size ∧ b ≠ s.heap.objs.size := fun b hb => ⟨by rw [hC]; exact Nat.ne_of_lt (Nat.lt_succ_of_lt hb), Nat.ne_of_lt hb⟩
  have keep1 : ∀ b o, s.heap.get? b = some o → h₁.get? b = some o := fun b o e => hsb₁.extBut b o (below b (Heap.lt_size e)).1 (Heap.get?_push_of_some _ (hH2 ▸ Heap.get?_push_of_some _ e))
  have hacc : h₁.get? s.heap.objs.size = some (listOf ([] : List Value).toArray 0) := hsb₁.extBut _ _ hDC (Heap.get?_push_of_some _ (hH2 ▸ Heap.get?_push_size _ rfl))
  refine oAA R.fresh fun d1 d2 d3 => ?_
  have hsys := R.modules
  obtain ⟨m0, lf0, F0, LA0, lo0⟩ := R.fr
  have F1 : Fr c.X.h₀ c.X.L h₁ m0 := ⟨F0.ns.at' fun o e => keep1 _ o e, fun b o e => keep1 b o (F0.keep b o e), F0.above⟩
  have R1 : Rel c ⟨ρl, ρm⟩ fz ml h₁ := R.grow keep1 F1 LA0 lo0
  have cL : H2.objs.size ≠ c.X.L := Nat.ne_of_gt (by rw [hC]; exact Nat.lt_succ_of_lt F0.ns.lt)
  have c0 : c.X.h₀.get? H2.objs.size = none := by
    cases e : c.X.h₀.get? H2.objs.size with
    | none => rfl
    | some o => have := Heap.lt_size (F0.keep _ _ e); rw [hC] at this; exact absurd (Nat.lt_of_succ_lt this) (Nat.lt_irrefl _)
  have c3 : ∀ p ∈ ml ++ fz ++ c.X.xs, p.1 ≠ H2.objs.size := fun p hp => (below _ (Heap.lt_size (R.news p hp).1)).1
  have st₁ : St 0 h₁ := W.walk.frame _ _ _ st fun b _ o e => keep1 b o e
  have hID : I ≠ s.heap.objs.size := (below I hIs).2
  have hIC : I ≠ H2.objs.size := (below I hIs).1
  generalize hDe : s.heap.objs.size = D at *
  generalize hCe : H2.objs.size = C at *
  have hlt : sysModules < C := by rw [hC]; exact Nat.lt_succ_of_lt hsys
  have loop : ∀ s₃ : Shared, s₃ = { s with heap := h₁, toks := s.toks + ([] : List (Str × Value)).length } →
      codeAny c.M c.A (.compLoop (.ListComp elt [⟨target, iter, ifs, 0⟩] scope pos) 0 (.ref I) (.ref D) (compEnvC scope cl C c.X.env)) (RR (.ref D) C) s₃ := by
    rintro s₃ rfl
    refine codeAny_compLoop_any (LcI c ρl fz ml I C D n St J items s) ?_ (items.length + 1)
      ⟨0, items, [], ρm, fz, ml, h₁, _, _, [], 0, rfl, rfl, rfl, Nat.zero_le _, hJ, R1, .rfl, st₁, f3, hacc, mk_nil, Nat.le_refl _, d3, hns₁, c3⟩
    rintro n' s' ⟨i, rest, ys, mem', fz', ml', h, tk, lf, ws, k, rfl, rfl, hd, hi, hJ', R', X', st', offI, hD, hys, hwl, offD, hns, offC⟩
    cases rest with
    | nil =>
      have hin : i = n := by
        have := congrArg List.length hd
        rw [List.length_drop, List.length_nil, ← W.len] at this
        lia
      subst hin
      refine W.walk.done _ _ _ st' fun h3 tk3 hk => ?_
      have hk' : ∀ b o, b ≠ I → h.get? b = some o → h3.get? b = some o := fun b o hb e => hk b o (by simpa using hb) e
      exact fin D C ys mem' fz' ml' h3 tk3 lf hJ' X' (R'.but hk' f1 f2 offI) ⟨ws, k, hk' _ _ (Ne.symm hID) hD, hys⟩ offD d1 d2 hsys (hns.at' fun o e => hk' C o (Ne.symm hIC) e) offC cL c0 (Ne.symm hDC) hlt
    | cons x rest =>
      have hin : i < n := by
        have := congrArg List.length hd
        rw [List.length_drop, List.length_cons, ← W.len] at this
        lia
      have hx : items[i]? = some x := by
        have := congrArg (fun l => l[0]?) hd
        simpa [List.getElem?_drop] using this
      have hd' : items.drop (i + 1) = rest := by
        have := congrArg List.tail hd
        simpa [List.tail_drop] using this
      refine W.walk.item i _ _ _ hin st' fun v3 h3 tk3 hP st3 hk => ?_
      have hk' : ∀ b o, b ≠ I → h.get? b = some o → h3.get? b = some o := fun b o hb e => hk b o (by simpa using hb) e
      have R3 := R'.but hk' f1 f2 offI
      have hD3 := hk' _ _ (Ne.symm hID) hD
      have hns3 : h3.Ns C lf := hns.at' fun o e => hk' C o (Ne.symm hIC) e
      have hpre : (adr ml).take ml.length <+: adr ml' := by
        rw [List.take_of_length_le (by rw [List.length_map]; exact Nat.le_refl _)]; exact X'.2
      refine oEA (W.val fz' ml' i v3 X'.1 hpre hP hin) fun x' hx' hv3 => ?_
      rw [hx] at hx'
      cases hx'
      refine oEEAA (W.lets _ _ st3) fun o3 vs3 g1 g2 g3 => ?_
      refine let_pure g1 g2 g3 ?_
      obtain ⟨m3, lf3, F3, LA3, lo3⟩ := R3.fr
      have N3 : News c.X.h₀ c.X.L h3 ((I, o3) :: (D, listOf ws.toArray k) :: (ml' ++ fz' ++ c.X.xs)) := fun q hq => by
        rcases List.mem_cons.mp hq with rfl | hq
        · exact ⟨g1, f1, f2⟩
        · rcases List.mem_cons.mp hq with rfl | hq
          · exact ⟨hD3, d1, d2⟩
          · exact R3.news q hq
      have K3 : CAt c C m3 lf ((I, o3) :: (D, listOf ws.toArray k) :: (ml' ++ fz' ++ c.X.xs)) h3 := ⟨F3, N3, hns3, fun q hq => by
        rcases List.mem_cons.mp hq with rfl | hq
        · exact hIC
        · rcases List.mem_cons.mp hq with rfl | hq
          · exact hDC
          · exact offC q hq, cL, c0⟩
      refine oEA (turn x rest ys mem' hJ') fun loc T0 hb => ?_
      rw [← relabel_eq R.ok scope] at T0
      refine TgtC.sound (cl := cl) T0 hkind K3 hv3 (fun a o z => R3.zf z) fun h4 tk4 lf4 K4 lo4 => ?_
      refine oEA (LCg.ns_obj K4.ns) fun oC hoC hnsC => ?_
      have R4 : Rel c ⟨ρl, mem'⟩ fz' ml' h4 := R3.move K4.F LA3 lo3 fun q hq => K4.N q (List.mem_cons_of_mem _ (List.mem_cons_of_mem _ hq))
      have gI := (K4.N _ (.head _)).1
      have gD := (K4.N _ (.tail _ (.head _))).1
      have RA : Rel (((c.add (D, listOf ws.toArray k)).add (C, oC)).add (I, o3)) ⟨ρl, mem'⟩ fz' ml' h4 := ((R4.addx gD d1 d2 offD hsys).addx hoC cL c0 (fun q hq => by
        rcases List.mem_append.mp hq with hq | hq
        · exact offC q (List.mem_append_left _ hq)
        · rcases List.mem_cons.mp hq with rfl | hq
          · exact hDC
          · exact offC q (List.mem_append_right _ hq)) hlt).addx gI f1 f2 (fun q hq => by
        rcases List.mem_append.mp hq with hq | hq
        · exact offI q (List.mem_append_left _ hq)
        · rcases List.mem_cons.mp hq with rfl | hq
          · exact Ne.symm hIC
          · rcases List.mem_cons.mp hq with rfl | hq
            · exact Ne.symm hID
            · exact offI q (List.mem_append_right _ hq)) f4
      have okC : (c.comp scope cl C lf4 m3 (celC scope c.cel) ((I, o3) :: (C, oC) :: (D, listOf ws.toArray k) :: c.X.xs)).Ok := R.ok.comp hkind (.tail _ (.head _)) hnsC
      have RE : Rel (c.comp scope cl C lf4 m3 (celC scope c.cel) ((I, o3) :: (C, oC) :: (D, listOf ws.toArray k) :: c.X.xs)) ⟨loc, mem'⟩ fz' ml' h4 :=
        Rel.conv (σ := ⟨ρl, mem'⟩) RA okC rfl rfl rfl rfl rfl R4.n0 K4.F ⟨rfl, rfl⟩ lo4 fun y j hy => by
          refine oA (celC_get hy) fun q90 hj => ?_
          obtain ⟨z, hz, hzf, rfl⟩ := q90
          refine oEA (R4.cels _ _ hj) fun a e1 e2 => ?_
          exact ⟨a, by show cl.lookup _ = _; rw [hcl z hz hzf]; exact e1, e2⟩
      refine ws_tests (c := c.comp scope cl C lf4 m3 (celC scope c.cel) ((I, o3) :: (C, oC) :: (D, listOf ws.toArray k) :: c.X.xs)) rfl (hb _ rfl rfl) RE ?_
      rintro okk m5 fz5 ml5 h5 tk5 hok x5 R5
      have stay : ∀ {fz6 ml6 : Led} {h6 : Heap}, (∀ p ∈ fz', p ∈ fz6) → Rel c ⟨ρl, m5⟩ fz6 ml6 h6 ∨ True → True := fun _ _ => trivial
      cases okk with
      | false =>
        rw [if_neg (by decide)] at hok ⊢
        refine hold fun _ hK9 => ?_
        refine oAAAAAAA (comp_back R.ok R5 x5 LA3 lo3 R4.cels) fun R6 _ q1 q2 q3 q4 q5 q6 => ?_
        refine hK9 ?_
        refine ⟨rest.length + 1, by simp, i + 1, rest, ys, m5, fz5, ml5, h5, tk5, lf4, ws, k, rfl, rfl, hd', hin, hok, R6, X'.trans x5, ?_, q4, q3, isLmono (c := c) x5 hys, Nat.le_succ_of_le hwl, q6, hnsC.ns q2, q5⟩
        refine W.walk.frame _ _ _ st3 fun b hb' o ho => ?_
        rcases W.src b hb' with rfl | ⟨ob, z⟩
        · rw [g1] at ho; cases ho; exact q1
        · have e3 := R3.zf (z.mono X'.1)
          rw [e3] at ho
          cases ho
          exact R6.zf (z.mono (X'.trans x5).1)
      | true =>
        rw [if_pos rfl] at hok ⊢
        refine hok _ fz5 ml5 _ _ R5 fun y m6 fz6 ml6 h6 tk6 uy hy x6 R6 i6 => ?_
        refine hold fun _ hK9 => ?_
        refine oAAAAAAA (comp_back R.ok R6 (x5.trans x6) LA3 lo3 R4.cels) fun R7 F7 q1 q2 q3 q4 q5 q6 => ?_
        refine hK9 ?_
        have N7 : News c.X.h₀ c.X.L h6 ((D, listOf ws.toArray k) :: (I, o3) :: (C, oC) :: (ml6 ++ fz6 ++ c.X.xs)) := fun q hq => by
          rcases List.mem_cons.mp hq with rfl | hq
          · exact ⟨q3, d1, d2⟩
          · rcases List.mem_cons.mp hq with rfl | hq
            · exact ⟨q1, f1, f2⟩
            · rcases List.mem_cons.mp hq with rfl | hq
              · exact ⟨q2, cL, c0⟩
              · exact R7.news q hq
        refine append_K F7 N7 (.head fun q hq => ?_) (fun h8 F8 N8 => ?_) (by
          have := W.len
          rw [List.size_toArray]
          exact Nat.le_trans hwl (Nat.le_trans (Nat.le_of_lt hin) (this ▸ hsz)))
        · rcases List.mem_cons.mp hq with rfl | hq
          · exact hID
          · rcases List.mem_cons.mp hq with rfl | hq
            · exact Ne.symm hDC
            · exact q6 q hq
        · have e8 : listOf (ws.toArray.push uy) (k + 1) = listOf (ws ++ [uy]).toArray (k + 1) := by rw [List.push_toArray]
          have R8 : Rel c ⟨ρl, m6⟩ fz6 ml6 h8 := R7.move F8 LA3 (fun y v hy => let ⟨u, h1, h2⟩ := lo3 y v hy; ⟨u, h1, isVmono (c := c) (x5.trans x6) h2⟩) fun q hq => N8 q (.tail _ (.tail _ (.tail _ hq)))
          refine ⟨rest.length + 1, by simp, i + 1, rest, ys ++ [y], m6, fz6, ml6, h8, _, lf4, ws ++ [uy], k + 1, rfl, rfl, hd', hin, hy, R8, X'.trans (x5.trans x6), ?_, q4, by rw [← e8]; exact (N8 _ (.head _)).1,
            l_app (c := c) (isLmono (c := c) (x5.trans x6) hys) (mk_cons (c := c) i6 (mk_nil (c := c))), by rw [List.length_append]; simpa using hwl, q6, hnsC.ns (N8 _ (.tail _ (.tail _ (.head _)))).1, q5⟩
          refine W.walk.frame _ _ _ st3 fun b hb' o ho => ?_
          rcases W.src b hb' with rfl | ⟨ob, z⟩
          · rw [g1] at ho; cases ho; exact (N8 _ (.tail _ (.head _))).1
          · have e3 := R3.zf (z.mono X'.1)
            rw [e3] at ho
            cases ho
            exact R8.zf (z.mono (X'.trans (x5.trans x6)).1)
  exact codeAny_compStart_list (loop _ rfl) (W.walk.self 0 _ _ _ st₁ (loop _ rfl))
end
end Mine
end
section
open PySem PySem.W PyProof.Rows PySem.Spec PySem.Calls
namespace Mine
theorem oldL_ints {n : Nat} {f : Nat → Int} : ∀ {l : List Nat}, oldL n (l.map fun i => V.int (f i))
  | [] => trivial
  | x :: l => by rw [List.map_cons]; exact ⟨trivial, oldL_ints⟩
theorem oldL_leaf {n : Nat} : ∀ {l : List V}, (∀ v ∈ l, Mine.old n v) → oldL n l
  | [], _ => trivial
  | x :: l, h => by exact ⟨h x (.head _), oldL_leaf fun v hv => h v (.tail _ hv)⟩
theorem Src.old {v : V} {items : List V} {n : Nat} (S : Src v items) (h : Mine.old n v) : oldL n items := by
  cases S with
  | lst => exact h
  | tup => exact h
  | rng => exact oldL_ints
  | str => exact oldL_leaf fun v hv => by obtain ⟨c, _, rfl⟩ := List.mem_map.mp hv; exact trivial
  | byt => exact oldL_leaf fun v hv => by obtain ⟨c, _, rfl⟩ := List.mem_map.mp hv; exact trivial
  | dct => exact oldL_leaf fun v hv => by obtain ⟨c, _, rfl⟩ := List.mem_map.mp hv; exact trivial
section
variable {c : Cx} {σ : St} {ρl : List (Str × V)} {ρm : List M} {P : V → List M → Prop} {PX : Fl → St → Prop} {elt target iter : Expr} {ifs : List Expr} {scope : Scope} {pos spos : Pos}
theorem Rel.closure {fz ml : Led} {h : Heap} (R : Rel c σ fz ml h) (hfree : ∀ y ∈ scope.names, y.2 = .free → (c.cel.lookup y.1).isSome = true) : ∃ cl, closureFor scope c.X.env = pure cl ∧ ∀ y ∈ scope.names, y.2 = .free → cl.lookup y.1 = c.env.cells.lookup y.1 :=
  closure_is scope c.X.env fun y hy hk => by
    refine oE (Option.isSome_iff_exists.mp (hfree y hy hk)) fun i hi => ?_
    refine oEA (R.cels _ _ hi) fun a h1 _ => ?_
    exact ⟨a, h1⟩
theorem iter_low {fz ml : Led} {kk : Nat} {I : Addr} {fp : List Addr} {n : Nat} {Pv : Nat → Value → Prop} {St : Nat → Heap → Prop} {items : List V} {h : Heap} (W : Its c kk fz ml I fp n Pv St items) (st : St 0 h) : I < h.objs.size := by
  refine oEEA (W.lets _ _ st) fun o vs e _ => ?_
  exact Heap.lt_size e
theorem WE.lcomp (J : List V → List V → List M → Prop) (hiter : WE c iter ⟨ρl, ρm⟩ fun v m => ∃ items, Src v items ∧ items.length ≤ sizeLine ∧ J items [] m)
    (turn : ∀ x rest ys m, J (x :: rest) ys m → ∃ loc, TgtC (relabelS scope c.sc) target x loc ∧ ∀ X' : Cb, X'.w = c.X.w → X'.lv = c.X.lv → WTs ⟨X', relabelS scope c.sc, celC scope c.cel, c.n0⟩ ifs ⟨loc, m⟩ (fun ok m' => if ok = true then WE ⟨X', relabelS scope c.sc, celC scope c.cel, c.n0⟩ elt ⟨loc, m'⟩ (fun y m'' => J rest (ys ++ [y]) m'') else J rest ys m'))
    (done : ∀ ys m, J [] ys m → P (.lst ys) m)
    (hfree : ∀ y ∈ scope.names, y.2 = .free → (c.cel.lookup y.1).isSome = true) (hcell : ∀ y ∈ scope.names, y.2 ≠ .cell) (hkind : scope.kind = .function) (hnames : ∀ y ∈ scope.names, y.2 = .local → scope.names.lookup y.1 = some .local)
    (hs : ∀ x, foldedSetIterable iter c.env x = pure x := by intro _; rfl) : WE c (.ListComp elt [⟨target, iter, ifs, 0⟩] scope pos) ⟨ρl, ρm⟩ P := by
  intro s fz ml Q E R k
  refine hold fun _ hK9 => ?_
  refine oEA (R.closure hfree) fun cl hclos hcl => ?_
  refine hK9 ?_
  rw [eval_ListComp]
  refine wpAny_comprehension_free (e := .ListComp elt [⟨target, iter, ifs, 0⟩] scope pos) (env := c.env) (g := ⟨target, iter, ifs, 0⟩) (gs := []) (use := Option.none) rfl hs hclos hkind hnames (hiter s fz ml _ E R ?_)
  intro v m fz1 ml1 h1 tk1 u q87 x1 R1 i1
  refine oEAA q87 fun items S hsz hJ => ?_
  refine S.iter (kk := ml1.length) R1 i1 (S.old (by have := isV.old _ _ i1; rw [List.length_map] at this; exact this)) fun I fp n Pv St h2 tk2 W R2 st2 f1 f2 f3 f4 => ?_
  refine lcomp_core (RR := fun acc C => compPost c.M c.A E Option.none Q acc C) (s := shr (shr s h1 tk1) h2 tk2) J R2 W st2 f1 f2 f3 f4 (iter_low W st2) hsz hJ hcl hcell hkind turn ?_
  intro D C ys mem' fz' ml' h' tk' lf hJ' X' R' q812 offD d1 d2 hsys hns offC cL c0 hCD hsC
  refine oEEA q812 fun ws kk hD hys => ?_
  refine ⟨lf, hns, fun h'' hs'' => ?_⟩
  have R'' := (R'.but (fun b o hb e => hs''.extBut b o hb e) cL c0 offC).addfz (o := listOf ws.toArray kk) (hs''.extBut _ _ (Ne.symm hCD) hD) d1 d2 offD hsys
  have X'' : Ext fz' ml' ((D, listOf ws.toArray kk) :: fz') ml' := ⟨fun p hp => List.mem_cons_of_mem _ hp, List.prefix_refl _⟩
  exact k _ _ _ _ h'' _ _ (done _ _ hJ') ((x1.trans X').trans X'') R'' (by exact ⟨D, _, ws, kk, rfl, .inr (.head _), rfl, rfl, isLmono (c := c) X'' hys⟩)
theorem W0.lasg {y : Str} {py : Pos} (J : List V → List V → List M → Prop) (hiter : WE c iter ⟨ρl, ρm⟩ fun v m => ∃ items, Src v items ∧ items.length ≤ sizeLine ∧ J items [] m)
    (turn : ∀ x rest ys m, J (x :: rest) ys m → ∃ loc, TgtC (relabelS scope c.sc) target x loc ∧ ∀ X' : Cb, X'.w = c.X.w → X'.lv = c.X.lv → WTs ⟨X', relabelS scope c.sc, celC scope c.cel, c.n0⟩ ifs ⟨loc, m⟩ (fun ok m' => if ok = true then WE ⟨X', relabelS scope c.sc, celC scope c.cel, c.n0⟩ elt ⟨loc, m'⟩ (fun y m'' => J rest (ys ++ [y]) m'') else J rest ys m'))
    (done : ∀ ys m, J [] ys m → PX .nxt ⟨(y, .lst ys) :: ρl, m⟩)
    (hy : c.sc.names.lookup y = some .local) (hck : c.sc.kind = .function) (hline : (spos.line == pos.line) = true ∨ True) (hsw : ∀ env : Env, env.scope = c.sc → swapsWith (.ListComp elt [⟨target, iter, ifs, 0⟩] scope pos) (some (.Name y py)) spos.line env = pure true)
    (hfree : ∀ y ∈ scope.names, y.2 = .free → (c.cel.lookup y.1).isSome = true) (hcell : ∀ y ∈ scope.names, y.2 ≠ .cell) (hkind : scope.kind = .function) (hnames : ∀ y ∈ scope.names, y.2 = .local → scope.names.lookup y.1 = some .local)
    (hs : ∀ x, foldedSetIterable iter c.env x = pure x := by intro _; rfl) : W0 c (.Assign [.Name y py] (.ListComp elt [⟨target, iter, ifs, 0⟩] scope pos) spos) ⟨ρl, ρm⟩ PX := by
  intro hf s fz ml Q E R k kr
  refine oEA (R.closure hfree) fun cl hclos hcl => ?_
  have hes : c.env.scope = c.sc := R.ok.es
  rw [exec_Assign_Name_used _ _ _ _ (hsw c.env hes)]
  refine wpAny_bind (wpAny_standAt (wpAny_bind ?_))
  show wpAny _ c.A (do let _ ← comprehension (.ListComp elt [⟨target, iter, ifs, 0⟩] scope pos) scope c.env _ (newList []) false (eval iter c.env) (some (assign (.Name y py) c.env))) _ _ s
  refine wpAny_bind (wpAny_mono (wpAny_comprehension_free (e := .ListComp elt [⟨target, iter, ifs, 0⟩] scope pos) (env := c.env) (g := ⟨target, iter, ifs, 0⟩) (gs := []) (use := some (assign (.Name y py) c.env)) (Q := fun _ s' => Q .next s') rfl hs hclos hkind hnames (hiter s fz ml _ E R ?_)) (fun _ s' hq => wpAny_pure (wpAny_pure hq)) fun _ _ e => e)
  intro v m fz1 ml1 h1 tk1 u q87 x1 R1 i1
  refine oEAA q87 fun items S hsz hJ => ?_
  refine S.iter (kk := ml1.length) R1 i1 (S.old (by have := isV.old _ _ i1; rw [List.length_map] at this; exact this)) fun I fp n Pv St h2 tk2 W R2 st2 f1 f2 f3 f4 => ?_
  refine lcomp_core (RR := fun acc C => compPost c.M c.A E (some (assign (.Name y py) c.env)) (fun _ s' => Q .next s') acc C) (s := shr (shr s h1 tk1) h2 tk2) J R2 W st2 f1 f2 f3 f4 (iter_low W st2) hsz hJ hcl hcell hkind turn ?_
  intro D C ys mem' fz' ml' h' tk' lf hJ' X' R' q812 offD d1 d2 hsys hns offC cL c0 hCD hsC
  refine oEEA q812 fun ws kk hD hys => ?_
  have X'' : Ext fz' ml' ((D, listOf ws.toArray kk) :: fz') ml' := ⟨fun p hp => List.mem_cons_of_mem _ hp, List.prefix_refl _⟩
  have RD := R'.addfz (o := listOf ws.toArray kk) hD d1 d2 offD hsys
  refine oEA (LCg.ns_obj hns) fun oC hoC hnsC => ?_
  have RC := RD.addx hoC cL c0 (fun p hp => by
    rw [List.append_assoc, List.cons_append] at hp
    rcases List.mem_append.mp hp with hp | hp
    · exact offC p (List.mem_append_left _ (List.mem_append_left _ hp))
    · rcases List.mem_cons.mp hp with rfl | hp
      · exact Ne.symm hCD
      · exact offC p (by rw [List.append_assoc]; exact List.mem_append_right _ hp)) hsC
  refine hold fun _ hK9 => ?_
  obtain ⟨mm, f, F, LA, lo⟩ := RC.fr
  refine hK9 ?_
  rw [show (c.add (C, oC)).X.cm = c.X.cm from rfl, hf.cm] at LA
  obtain rfl : f = mm := LA
  show wpAny _ c.A (assign (.Name y py) c.env (.ref D)) _ _ _
  refine PyProof.Rows.assign_Name ?_
  rw [Cx.env, hf.env]
  refine storeX_L F RC.news (fun h3 F3 N3 => ?_) R.ok.kind (by show List.lookup _ c.X.cs.names = _; rw [← hf.sc]; exact hy)
  have hv : (c.add (C, oC)).v ((D, listOf ws.toArray kk) :: fz') ml' (.lst ys) (.ref D) := by exact ⟨D, _, ws, kk, rfl, .inr (.head _), rfl, rfl, isLmono (c := c) X'' hys⟩
  have RS := RC.stored (x := y) (v := .lst ys) hf.cm F lo F3 N3 hv
  refine oAAA (RS.subx R.ok) fun R4 g4 off4 _ => ?_
  refine ⟨lf, hnsC.ns g4, fun h4 hs4 => ?_⟩
  exact k _ _ _ _ h4 _ _ (done _ _ hJ') ((x1.trans X').trans X'').n (R4.but (fun b o hb e => hs4.extBut b o hb e) cL c0 off4) (rfl : Flow.next = _)
end
end Mine
end
section
open PySem PySem.W PyProof.Rows PySem.Spec PySem.Calls
namespace Mine
inductive LstAt (σ : St) : V → List V → Prop
  | tree {vs : List V} : LstAt σ (.lst vs) vs
  | cell {i : Nat} {vs : List V} : σ.mem[i]? = some (.lst vs) → LstAt σ (.ptr i) vs
inductive DctAt (σ : St) : V → List (Str × V) → Prop
  | tree {ks : List (Str × V)} : DctAt σ (.dct ks) ks
  | cell {i : Nat} {ks : List (Str × V)} : σ.mem[i]? = some (.dct ks) → DctAt σ (.ptr i) ks
section
variable {c : Cx} {σ : St} {ρl : List (Str × V)} {ρm : List M} {fz ml : Led} {h : Heap}
theorem LstAt.get {v : V} {vs : List V} {u : Value} (S : LstAt ⟨ρl, ρm⟩ v vs) (R : Rel c ⟨ρl, ρm⟩ fz ml h) (hv : c.v fz ml v u) : ∃ a o ws n, u = .ref a ∧ h.get? a = some o ∧ o.cls = .type "list" ∧ o.dict = none ∧ o.data = .seq ws.toArray n ∧ c.l fz ml vs ws ∧ o = listOf ws.toArray n := by
  cases S with
  | tree =>
    refine hold fun _ hK9 => ?_
    obtain ⟨a, o, ws, n, rfl, z, rfl, e3, l⟩ := v_lstD hv
    refine hK9 ?_
    exact ⟨a, _, ws, n, rfl, R.zf z, rfl, rfl, e3, l, rfl⟩
  | cell hm =>
    refine hold fun _ hK9 => ?_
    obtain ⟨a, o, rfl, _, _, hg, ws, n, rfl, l⟩ := R.at hm hv
    refine hK9 ?_
    exact ⟨a, _, ws, n, rfl, hg, rfl, rfl, rfl, l, rfl⟩
theorem DctAt.get {v : V} {ks : List (Str × V)} {u : Value} (S : DctAt ⟨ρl, ρm⟩ v ks) (R : Rel c ⟨ρl, ρm⟩ fz ml h) (hv : c.v fz ml v u) : ∃ a kws, u = .ref a ∧ (a == sysModules) = false ∧ h.DictOf (strKind thePr c.X.w) a kws ∧ isF c.X.w c.X.Zb fz (adr ml) ks kws := by
  cases S with
  | tree =>
    refine hold fun _ hK9 => ?_
    obtain ⟨a, o, kws, rfl, z, e1, d, l⟩ := v_dct hv
    refine hK9 ?_
    exact ⟨a, kws, rfl, by simpa using e1, Heap.dictOf_iff.mpr ⟨o, R.zf z, d⟩, l⟩
  | cell hm =>
    obtain ⟨a, o, rfl, hml, _, hg, kws, d, l⟩ := R.at hm hv
    refine ⟨a, kws, rfl, ?_, Heap.dictOf_iff.mpr ⟨o, hg, d⟩, l⟩
    have := R.hi (a, o) (List.mem_append_left _ (List.mem_append_left _ hml))
    exact beq_false_of_ne (Nat.ne_of_gt this)
theorem isF_val {w : World} {Zb : Addr → Obj → Prop} {ad : List Addr} : ∀ {a : List (Str × V)} {b : List (Str × Value)} {x : Str}, isF w Zb fz ad a b → (∀ v, a.lookup x = some v → ∃ u, valueAt b x = some u ∧ isV w Zb fz ad v u) ∧ (a.lookup x = none → valueAt b x = none)
  | [], b, x, h => by subst h; exact ⟨fun v e => (nomatch e), fun _ => rfl⟩
  | (y, v') :: r, b, x, h => by
    refine oEEAA h fun u us e92 h1 h2 => ?_
    subst e92
    refine oA (isF_val (x := x) h2) fun k1 k2 => ?_
    unfold valueAt at k1 k2 ⊢
    rw [List.lookup_cons, List.find?_cons]
    by_cases q : x = y
    · subst q
      simp only [beq_self_eq_true, decide_true, Option.map_some]
      exact ⟨fun v e => by cases e; exact ⟨u, rfl, h1⟩, fun e => by cases e⟩
    · simp only [beq_false_of_ne q, show decide (y = x) = false from decide_eq_false (Ne.symm q)]
      exact ⟨k1, k2⟩
end
section
variable {c : Cx} {σ : St} {ρl : List (Str × V)} {ρm : List M} {P : V → List M → Prop} {value slice : Expr} {a b : V} {x : Str} {k : Int}
theorem W2.item_t {vs : List V} {j : Nat} {v : V} (h1 : -2 ^ 63 ≤ k) (h2 : k < 2 ^ 63) (hj : seqIndex? k vs.length = some j) (hv : vs[j]? = some v) (h : P v ρm)
    (hsub : ∀ u t, subscripted slice false (.ref u) (.int k t) = operate [.ref u, .int k t] (getItem (.ref u) (.int k t)) := by intro _ _; rfl) : W2 c (subscriptTail value slice) (.tup vs) (.int k) ⟨ρl, ρm⟩ P :=
  fun s fz ml u u' Q E R hi hk K => by
    refine oE (v_int hk) fun t e91 => ?_
    subst e91
    obtain ⟨ad, o, ws, n, rfl, z, e1, e2, l⟩ := v_tup hi
    refine oEA (l_get l hv) fun y hy iy => ?_
    exact item_tupleT ⟨o, R.zf z, e1, n, e2⟩ h1 h2 (by rw [l_len l]; exact hj) hy (K _ _ fz ml s.heap s.toks _ h .rfl R iy) (hsub _ _)
theorem W2.item_l {vs : List V} {v : V} (S : LstAt ⟨ρl, ρm⟩ a vs) (h0 : 0 ≤ k) (h2 : k < 2 ^ 63) (hv : vs[k.toNat]? = some v) (h : P v ρm)
    (hsub : ∀ u t, subscripted slice false (.ref u) (.int k t) = operate [.ref u, .int k t] (getItem (.ref u) (.int k t)) := by intro _ _; rfl) : W2 c (subscriptTail value slice) a (.int k) ⟨ρl, ρm⟩ P :=
  fun s fz ml u u' Q E R hi hk K => by
    refine oE (v_int hk) fun t e91 => ?_
    subst e91
    refine oEEEEAAAAAA (S.get R hi) fun ad o ws n e94 hg e1 _ e2 l _ => ?_
    subst e94
    refine oEA (l_get l hv) fun y hy iy => ?_
    have hl : s.heap.IsList ad ws.toArray := ⟨o, hg, e1, n, e2⟩
    exact tail_any hl.typeIs slot_list_getitem.lookup (wpAny_getItem_list hl h0 h2 (by rw [List.getElem?_toArray]; exact hy) (K _ _ fz ml s.heap s.toks _ h .rfl R iy)) (hsub _ _)
theorem W2.item_ln {vs : List V} {v : V} {j : Nat} (S : LstAt ⟨ρl, ρm⟩ a vs) (h0 : k < 0) (h2 : -2 ^ 63 ≤ k) (hj : seqIndex? k vs.length = some j) (hv : vs[j]? = some v) (h : P v ρm)
    (hsub : ∀ u t, subscripted slice false (.ref u) (.int k t) = operate [.ref u, .int k t] (getItem (.ref u) (.int k t)) := by intro _ _; rfl) : W2 c (subscriptTail value slice) a (.int k) ⟨ρl, ρm⟩ P :=
  fun s fz ml u u' Q E R hi hk K => by
    refine oE (v_int hk) fun t e91 => ?_
    subst e91
    refine oEEEEAAAAAA (S.get R hi) fun ad o ws n e94 hg e1 _ e2 l _ => ?_
    subst e94
    refine oEA (l_get l hv) fun y hy iy => ?_
    exact kde_neg ⟨o, hg, e1, n, e2⟩ h0 h2 (by rw [l_len l]; exact hj) hy (K _ _ fz ml s.heap s.toks _ h .rfl R iy) (hsub _ _)
theorem strKey (prog : Program) (w : World) (x : Str) (t : Tok) : (strKind prog w).is x (.str x t) = true := by first | rfl | exact strKind_is prog w x t | simp [strKind, Value.isStrOf]
theorem intKey (prog : Program) (w : World) (x : Int) (t : Tok) : (intKind prog w).is x (.int x t) = true := by first | rfl | simp [intKind, Value.isInt]
theorem W2.item_d {ks : List (Str × V)} {v : V} (S : DctAt ⟨ρl, ρm⟩ a ks) (hv : ks.lookup x = some v) (h : P v ρm)
    (hsub : ∀ u t, subscripted slice false (.ref u) (.str x t) = operate [.ref u, .str x t] (getItem (.ref u) (.str x t)) := by intro _ _; rfl) : W2 c (subscriptTail value slice) a (.str x) ⟨ρl, ρm⟩ P :=
  fun s fz ml u u' Q E R hi hk K => by
    refine oE (v_str hk) fun t e91 => ?_
    subst e91
    refine oEEAAA (S.get R hi) fun ad kws e92 e1 hd l => ?_
    subst e92
    refine oEA ((isF_val l).1 v hv) fun y hy iy => ?_
    exact tail_any hd.typeIs slot_dict_getitem.lookup (wpAny_getItem_of (strKey _ _ _ _) hd.mapOf hy (K _ _ fz ml s.heap _ _ h .rfl R iy)) (hsub _ _)
theorem W2.in_d {ks : List (Str × V)} (S : DctAt ⟨ρl, ρm⟩ a ks) (h : P (.bool (ks.lookup x).isSome) ρm) : W2 c (compareOp .In) (.str x) a ⟨ρl, ρm⟩ P :=
  fun s fz ml u u' Q E R hk hi K => by
    refine oE (v_str hk) fun t e91 => ?_
    subst e91
    refine oEEAAA (S.get R hi) fun ad kws e92 e1 hd l => ?_
    subst e92
    have e : (valueAt kws x).isSome = (ks.lookup x).isSome := by
      cases q : ks.lookup x with
      | none => rw [(isF_val l).2 q]; rfl
      | some v => obtain ⟨y, hy, _⟩ := (isF_val l).1 v q; rw [hy]; rfl
    exact wpAny_in_of (strKey _ _ _ _) e1 hd.mapOf (K _ _ fz ml s.heap _ _ h .rfl R (by rw [e]; exact mk_bool))
theorem W2.get_d {ks : List (Str × V)} (S : DctAt ⟨ρl, ρm⟩ a ks) (h : P ((ks.lookup x).getD .none) ρm) : WL c (callV (.builtin "dict.get")) [a, .str x] ⟨ρl, ρm⟩ P :=
  fun s fz ml us Q E R hu K => by
    obtain ⟨u1, _, rfl, hi, hu⟩ := l_cons hu
    obtain ⟨u2, _, rfl, hk, hu⟩ := l_cons hu
    obtain rfl := l_nil hu
    refine oE (v_str hk) fun t e91 => ?_
    subst e91
    refine oEEAAA (S.get R hi) fun ad kws e92 e1 hd l => ?_
    subst e92
    have e : c.v fz ml ((ks.lookup x).getD .none) ((valueAt kws x).getD .none) := by
      cases q : ks.lookup x with
      | none => rw [(isF_val l).2 q]; exact mk_none
      | some v => obtain ⟨y, hy, iy⟩ := (isF_val l).1 v q; rw [hy]; exact iy
    exact call_meetsIn F.slot_dict_get hd.typeIs F.entry_dict_get (F.args_dict_get_2 _ _) (meets_dict_get (strKind thePr c.X.w) ad (strKey _ _ _ _) e1) ⟨_, hd.mapOf, K _ _ fz ml s.heap _ _ h .rfl R e⟩
noncomputable def Meth (c : Cx) (ov : V) (name : Str) (f : Value) (σ : St) : Prop :=
  ∀ s fz ml u (Q : Value × List Value → Shared → Prop) E pl, Rel c σ fz ml s.heap → c.v fz ml ov u → (∀ h' tk', Rel c σ fz ml h' → Q (f, [u]) (shr s h' tk')) → wpAny c.M c.A (getMethod u name pl) Q E s
theorem Meth.lst {vs : List V} {name : Str} {id : String} (S : LstAt σ a vs) (slot : Slot "list" name id) (hty : typeOf (.builtin id) = pure (.type "method_descriptor")) : Meth c a name (.builtin id) σ :=
  fun s fz ml u Q E pl R hi k => by
    refine oEEEEAAAAAA (S.get R hi) fun ad o ws n e94 hg e1 e2 e3 l _ => ?_
    subst e94
    have hl : s.heap.IsList ad ws.toArray := ⟨o, hg, e1, n, e3⟩
    exact getMethod_builtin hl.typeIs PySem.F.plainAttrs_list slot hty (fun b e => by cases e; exact ⟨o, hg, e2⟩) (k s.heap s.toks R)
theorem Meth.dct {ks : List (Str × V)} {name : Str} {id : String} (S : DctAt σ a ks) (slot : Slot "dict" name id) (hty : typeOf (.builtin id) = pure (.type "method_descriptor")) : Meth c a name (.builtin id) σ :=
  fun s fz ml u Q E pl R hi k => by
    refine oEEAAA (S.get R hi) fun ad kws e92 e1 hd l => ?_
    subst e92
    exact getMethod_builtin hd.typeIs PySem.F.plainAttrs_dict slot hty hd.mapOf.noDict (k s.heap s.toks R)
theorem WE.methB {o : Expr} {name : Str} {apos pos : Pos} {e : Expr} {rest : List Expr} {id : String} (h : WE c o ⟨ρl, ρm⟩ fun ov m => Meth c ov name (.builtin id) ⟨ρl, m⟩ ∧ WA c (e :: rest) ⟨ρl, m⟩ fun vs m' => WL c (callV (.builtin id)) (ov :: vs) ⟨ρl, m'⟩ P)
    {pl : Sem Bool} (he : starEach (e :: rest) c.env = (false, eval e c.env) :: starEach rest c.env := by rfl) (hp : (List.any (backTo pos (starEach rest c.env)) fun x => x.fst) = false := by rfl)
    (hc : eval (.Call (.Attribute o name apos) (e :: rest) [] pos) c.env = (do let ov ← eval o c.env; standAt apos.atName; let (f, first) ← holding [ov] (getMethod ov name pl); callWith pos f first (backTo pos (starEach (e :: rest) c.env)) (backToKw pos (keywordEach [] c.env))) := by rfl) :
    WE c (.Call (.Attribute o name apos) (e :: rest) [] pos) ⟨ρl, ρm⟩ P :=
  fun s fz ml Q E R k => MethodCall_ (pl := pl) (h s fz ml _ E R fun ov m fz1 ml1 h1 tk1 u hov x1 R1 i1 => hov.1 _ fz1 ml1 u _ E pl R1 i1 fun h2 tk2 R2 =>
    PyProof.Rows.callWith_method1 (hov.2 pos _ fz1 ml1 _ E R2 fun vs m' fz3 ml3 h3 tk3 us hvs x3 R3 i3 => hvs _ fz3 ml3 (u :: us) Q E R3 (mk_cons (isVmono x3 i1) i3) (k.after (x1.trans x3))) he hp) hc
theorem WE.methB0 {o : Expr} {name : Str} {apos pos : Pos} {id : String} (h : WE c o ⟨ρl, ρm⟩ fun ov m => Meth c ov name (.builtin id) ⟨ρl, m⟩ ∧ WL c (callV (.builtin id)) [ov] ⟨ρl, m⟩ P)
    {pl : Sem Bool} (hc : eval (.Call (.Attribute o name apos) [] [] pos) c.env = (do let ov ← eval o c.env; standAt apos.atName; let (f, first) ← holding [ov] (getMethod ov name pl); callWith pos f first (backTo pos (starEach [] c.env)) (backToKw pos (keywordEach [] c.env))) := by rfl) :
    WE c (.Call (.Attribute o name apos) [] [] pos) ⟨ρl, ρm⟩ P :=
  fun s fz ml Q E R k => MethodCall_ (pl := pl) (h s fz ml _ E R fun ov m fz1 ml1 h1 tk1 u hov x1 R1 i1 => hov.1 _ fz1 ml1 u _ E pl R1 i1 fun h2 tk2 R2 =>
    PyProof.Rows.callWith_method0 (hov.2 _ fz1 ml1 [u] Q E R2 (mk_cons i1 mk_nil) (k.after x1))) hc
theorem WE.methK {o : Expr} {name : Str} {apos pos : Pos} {e : Expr} {rest : List Expr} {f : Value} (hkp : keepIn (wrt.heap_1 c.X.w.params) f = true) (h : WE c o ⟨ρl, ρm⟩ fun ov m => Meth c ov name f ⟨ρl, m⟩ ∧ WA c (e :: rest) ⟨ρl, m⟩ fun vs m' => WL c (callV f) (ov :: vs) ⟨ρl, m'⟩ P)
    {pl : Sem Bool} (he : starEach (e :: rest) c.env = (false, eval e c.env) :: starEach rest c.env := by rfl) (hp : (List.any (backTo pos (starEach rest c.env)) fun x => x.fst) = false := by rfl)
    (hc : eval (.Call (.Attribute o name apos) (e :: rest) [] pos) c.env = (do let ov ← eval o c.env; standAt apos.atName; let (f, first) ← holding [ov] (getMethod ov name pl); callWith pos f first (backTo pos (starEach (e :: rest) c.env)) (backToKw pos (keywordEach [] c.env))) := by rfl) :
    WE c (.Call (.Attribute o name apos) (e :: rest) [] pos) ⟨ρl, ρm⟩ P :=
  fun s fz ml Q E R k => MethodCall_ (pl := pl) (h s fz ml _ E R fun ov m fz1 ml1 h1 tk1 u hov x1 R1 i1 => hov.1 _ fz1 ml1 u _ E pl R1 i1 fun h2 tk2 R2 =>
    callWith_K R2.ok.kin hkp (hov.2 pos _ fz1 ml1 _ E R2 fun vs m' fz3 ml3 h3 tk3 us hvs x3 R3 i3 => ⟨R3.K, hvs _ fz3 ml3 (u :: us) Q E R3 (mk_cons (isVmono x3 i1) i3) (k.after (x1.trans x3))⟩) he hp) hc
theorem WE.methK0 {o : Expr} {name : Str} {apos pos : Pos} {f : Value} (hkp : keepIn (wrt.heap_1 c.X.w.params) f = true) (h : WE c o ⟨ρl, ρm⟩ fun ov m => Meth c ov name f ⟨ρl, m⟩ ∧ WL c (callV f) [ov] ⟨ρl, m⟩ P)
    {pl : Sem Bool} (hc : eval (.Call (.Attribute o name apos) [] [] pos) c.env = (do let ov ← eval o c.env; standAt apos.atName; let (f, first) ← holding [ov] (getMethod ov name pl); callWith pos f first (backTo pos (starEach [] c.env)) (backToKw pos (keywordEach [] c.env))) := by rfl) :
    WE c (.Call (.Attribute o name apos) [] [] pos) ⟨ρl, ρm⟩ P :=
  fun s fz ml Q E R k => MethodCall_ (pl := pl) (h s fz ml _ E R fun ov m fz1 ml1 h1 tk1 u hov x1 R1 i1 => hov.1 _ fz1 ml1 u _ E pl R1 i1 fun h2 tk2 R2 =>
    callWith_K0 R2.K hkp (hov.2 _ fz1 ml1 [u] Q E R2 (mk_cons i1 mk_nil) (k.after x1))) hc
end
end Mine
end
section
open PySem PySem.W PyProof.Rows PySem.Spec PySem.Calls
namespace Mine
section
variable {c : Cx} {σ : St} {ρl : List (Str × V)} {ρm : List M} {fz ml : Led} {h h' : Heap} {a : Addr} {o o' : Obj} {m f : Str → Option Value}
theorem upd_set : ∀ {ml tail : Led} {i : Nat}, ml[i]? = some (a, o) → ((ml ++ tail).map (·.1)).Nodup → Upd a o o' (ml ++ tail) (ml.set i (a, o') ++ tail)
  | [], tail, i, hi, nd => by cases hi
  | p :: r, tail, 0, hi, nd => by
    cases hi
    refine .head fun q hq e => ?_
    rw [List.cons_append, List.map_cons] at nd
    exact (List.nodup_cons.mp nd).1 (by show a ∈ _; rw [← e]; exact List.mem_map_of_mem (f := fun x : Addr × Obj => x.1) hq)
  | p :: r, tail, i + 1, hi, nd => by
    rw [List.cons_append, List.map_cons] at nd
    have hm : (a, o) ∈ r ++ tail := List.mem_append_left _ (List.mem_of_getElem? hi)
    exact .tail (fun e => (List.nodup_cons.mp nd).1 (e ▸ List.mem_map_of_mem hm)) (upd_set hi (List.nodup_cons.mp nd).2)
theorem adr_set : ∀ {ml : Led} {i : Nat}, ml[i]? = some (a, o) → adr (ml.set i (a, o')) = adr ml
  | [], i, hi => by cases hi
  | p :: r, 0, hi => by cases hi; rfl
  | p :: r, i + 1, hi => by
    show p.1 :: adr (r.set i (a, o')) = p.1 :: adr r
    rw [adr_set (show r[i]? = some (a, o) from hi)]
theorem adr_pre {ml l : Led} : adr ml <+: adr (ml ++ l) := by
  show _ <+: List.map _ _
  rw [List.map_append]; exact List.prefix_append _ _
theorem memIs.set {ad : List Addr} {m' : M} (hm : isM c.X.w c.X.Zb fz ad m' o') : ∀ {ms : List M} {l : Led} {i : Nat}, memIs c fz ad ms l → memIs c fz ad (ms.set i m') (l.set i (a, o'))
  | [], l, i, h => by rw [show l = [] from h]; rfl
  | x :: xs, l, 0, h => by obtain ⟨p, r, rfl, i1, i2⟩ := h; exact ⟨_, r, rfl, hm, i2⟩
  | x :: xs, l, i + 1, h => by obtain ⟨p, r, rfl, i1, i2⟩ := h; exact ⟨p, _, rfl, i1, memIs.set hm i2⟩
theorem Rel.put (R : Rel c σ fz ml h) {i : Nat} {m' : M} (hi : ml[i]? = some (a, o)) (F' : Fr c.X.h₀ c.X.L h' m) (LA : LocAt c.X.cm m f) (lo : ∀ x v, σ.loc.lookup x = some v → ∃ u, f x = some u ∧ c.v fz ml v u)
    (N' : News c.X.h₀ c.X.L h' (ml.set i (a, o') ++ fz ++ c.X.xs)) (hM : isM c.X.w c.X.Zb fz (adr ml) m' o') : Rel c ⟨σ.loc, σ.mem.set i m'⟩ fz (ml.set i (a, o')) h' ∧ Ext fz ml fz (ml.set i (a, o')) := by
  have e : adr (ml.set i (a, o')) = adr ml := adr_set hi
  have e3 : (ml.set i (a, o') ++ fz ++ c.X.xs).map (·.1) = (ml ++ fz ++ c.X.xs).map (·.1) := by
    rw [List.map_append, List.map_append, List.map_append, List.map_append]
    congr 2
  have hx : Ext fz ml fz (ml.set i (a, o')) := ⟨fun _ h => h, by rw [e]; exact List.prefix_refl _⟩
  refine ⟨⟨R.ok, ⟨m, f, F', LA, fun x v hv => ?_⟩, N', by rw [e3]; exact R.nd, ?_, fun x j hx => ?_, by rw [List.length_set]; exact R.n0, fun p hp => ?_⟩, hx⟩
  · refine oEA (lo x v hv) fun u h1 h2 => ?_
    exact ⟨u, h1, isVmono hx h2⟩
  · rw [e]; exact memIs.set hM R.mem
  · refine oEA (R.cels x j hx) fun a h1 h2 => ?_
    exact ⟨a, h1, by rw [e]; exact h2⟩
  · have : p.1 ∈ (ml ++ fz ++ c.X.xs).map (·.1) := by rw [← e3]; exact List.mem_map_of_mem hp
    refine oEA (List.mem_map.mp this) fun q hq e4 => ?_
    rw [← e4]; exact R.hi q hq
theorem Rel.putBut (R : Rel c σ fz ml h) {i : Nat} {m' : M} (hi : ml[i]? = some (a, o)) (hs : Heap.SameBut a h h') (hg : h'.get? a = some o') (hM : isM c.X.w c.X.Zb fz (adr ml) m' o') : Rel c ⟨σ.loc, σ.mem.set i m'⟩ fz (ml.set i (a, o')) h' ∧ Ext fz ml fz (ml.set i (a, o')) := by
  obtain ⟨m, f, F, LA, lo⟩ := R.fr
  have hmem : (a, o) ∈ ml := List.mem_of_getElem? hi
  have n0 := R.news (a, o) (List.mem_append_left _ (List.mem_append_left _ hmem))
  refine R.put (m := m) hi ⟨F.ns.at' fun o e => (hs.2 _ (Ne.symm n0.2.1)).trans e, fun b o e => (hs.2 b fun q => ?_).trans (F.keep b o e), F.above⟩ LA lo (fun q hq => ?_) hM
  · rw [q, n0.2.2] at e; cases e
  · rw [List.append_assoc] at hq
    have U := upd_set (a := a) (o := o) (o' := o') (tail := fz ++ c.X.xs) hi (by rw [← List.append_assoc]; exact R.nd)
    refine oEEAAA U.split fun pre post e1 e2 f1 f2 => ?_
    rw [e2] at hq
    have hq' : ∀ q ∈ pre ++ post, q ∈ ml ++ fz ++ c.X.xs := fun q hq => by
      rw [List.append_assoc, e1]
      rcases List.mem_append.mp hq with hq | hq
      · exact List.mem_append_left _ hq
      · exact List.mem_append_right _ (List.mem_cons_of_mem _ hq)
    rcases List.mem_append.mp hq with hq | hq
    · have := R.news q (hq' q (List.mem_append_left _ hq))
      exact ⟨(hs.2 _ (f1 q hq)).trans this.1, this.2⟩
    · rcases List.mem_cons.mp hq with rfl | hq
      · exact ⟨hg, n0.2⟩
      · have := R.news q (hq' q (List.mem_append_right _ hq))
        exact ⟨(hs.2 _ (f2 q hq)).trans this.1, this.2⟩
theorem Rel.addml (R : Rel c σ fz ml h) {m' : M} (ha : h.get? a = some o) (hL : a ≠ c.X.L) (h0 : c.X.h₀.get? a = none) (hf : ∀ p ∈ ml ++ fz ++ c.X.xs, p.1 ≠ a) (hs : sysModules < a) (hM : isM c.X.w c.X.Zb fz (adr (ml ++ [(a, o)])) m' o) :
    Rel c ⟨σ.loc, σ.mem ++ [m']⟩ fz (ml ++ [(a, o)]) h ∧ Ext fz ml fz (ml ++ [(a, o)]) := by
  have hx : Ext fz ml fz (ml ++ [(a, o)]) := ⟨fun _ h => h, adr_pre⟩
  obtain ⟨m, f, F, LA, lo⟩ := R.fr
  have sub : ∀ q, q ∈ ml ++ [(a, o)] ++ fz ++ c.X.xs → q = (a, o) ∨ q ∈ ml ++ fz ++ c.X.xs := fun q hq => by
    simp only [List.mem_append, List.mem_singleton] at hq ⊢
    rcases hq with ((hq | hq) | hq) | hq
    · exact .inr (.inl (.inl hq))
    · exact .inl hq
    · exact .inr (.inl (.inr hq))
    · exact .inr (.inr hq)
  refine ⟨⟨R.ok, ⟨m, f, F, LA, fun x v hv => ?_⟩, fun q hq => ?_, ?_, ?_, fun x j hx => ?_, ?_, fun q hq => ?_⟩, hx⟩
  · refine oEA (lo x v hv) fun u h1 h2 => ?_
    exact ⟨u, h1, isVmono hx h2⟩
  · rcases sub q hq with rfl | hq
    · exact ⟨ha, hL, h0⟩
    · exact R.news q hq
  · have := R.nd
    rw [List.append_assoc, List.map_append] at this
    rw [List.append_assoc, List.append_assoc, List.map_append, List.singleton_append, List.map_cons]
    refine (List.perm_middle.nodup_iff).mpr (List.nodup_cons.mpr ⟨fun hm => ?_, this⟩)
    rw [← List.map_append, ← List.append_assoc] at hm
    refine oEA (List.mem_map.mp hm) fun q hq e => ?_
    exact hf q hq e
  · exact (R.mem.mono hx.1 hx.2).app ⟨_, _, rfl, hM, rfl⟩
  · refine oEA (R.cels x j hx) fun a h1 h2 => ?_
    exact ⟨a, h1, pre_get (adr_pre) h2⟩
  · rw [List.length_append]; exact Nat.le_trans R.n0 (Nat.le_add_right _ _)
  · rcases sub q hq with rfl | hq
    · exact hs
    · exact R.hi q hq
theorem Rel.newml (R : Rel c σ fz ml h) {m' : M} (ha : (h.push o).get? h.objs.size = some o) (hM : isM c.X.w c.X.Zb fz (adr (ml ++ [(h.objs.size, o)])) m' o) :
    Rel c ⟨σ.loc, σ.mem ++ [m']⟩ fz (ml ++ [(h.objs.size, o)]) (h.push o) ∧ Ext fz ml fz (ml ++ [(h.objs.size, o)]) :=
  (R.pushed o).addml ha R.fresh.1 R.fresh.2.1 R.fresh.2.2 R.modules hM
theorem Rel.newfz (R : Rel c σ fz ml h) (ha : (h.push o).get? h.objs.size = some o) : Rel c σ ((h.objs.size, o) :: fz) ml (h.push o) ∧ Ext fz ml ((h.objs.size, o) :: fz) ml :=
  ⟨(R.pushed o).addfz ha R.fresh.1 R.fresh.2.1 R.fresh.2.2 R.modules, fun p hp => List.mem_cons_of_mem _ hp, List.prefix_refl _⟩
theorem ptr_new {ml : Led} : c.v fz (ml ++ [(a, o)]) (.ptr ml.length) (.ref a) := by
  refine ⟨a, rfl, ?_⟩
  rw [List.getElem?_map, List.getElem?_append_right (Nat.le_refl _), Nat.sub_self]
  rfl
end
section
variable {c : Cx} {σ : St} {ρl : List (Str × V)} {ρm : List M} {P : V → List M → Prop} {PL : List V → List M → Prop} {PX : Fl → St → Prop} {elts : List Expr} {pos : Pos} {k : Nat}
theorem WE.tup (h : WA c elts ⟨ρl, ρm⟩ fun vs m => vs.length ≤ 1000 ∧ P (.tup vs) m) : WE c (.Tuple elts k pos) ⟨ρl, ρm⟩ P :=
  fun s fz ml Q E R kq => Tuple_ (h pos s fz ml _ E R fun vs m fz1 ml1 h1 tk1 us hv x1 R1 i1 => by
    have hl : us.length ≤ sizeLine := by rw [l_len i1, sizeLine_eq]; have := hv.1; lia
    have hz : (h1.push { cls := .type "tuple", data := .seq us.toArray }).get? h1.objs.size = some { cls := .type "tuple", data := .seq us.toArray } := Heap.get?_push_size _ rfl
    refine oA (R1.newfz hz) fun R2 x2 => ?_
    refine wpAny_newTuple ?_ hl
    exact kq _ _ _ ml1 _ tk1 _ hv.2 (x1.trans x2) R2 (by exact ⟨_, _, us, 0, rfl, .inr (.head _), rfl, rfl, isLmono x2 i1⟩))
theorem WE.lst (h : WA c elts ⟨ρl, ρm⟩ fun vs m => vs.length ≤ 1000 ∧ P (.lst vs) m) : WE c (.List elts pos) ⟨ρl, ρm⟩ P :=
  fun s fz ml Q E R kq => List_ (h pos s fz ml _ E R fun vs m fz1 ml1 h1 tk1 us hv x1 R1 i1 => by
    have hl : us.length ≤ sizeLine := by rw [l_len i1, sizeLine_eq]; have := hv.1; lia
    have hz : (h1.push (listOf us.toArray 0)).get? h1.objs.size = some (listOf us.toArray 0) := Heap.get?_push_size _ rfl
    refine oA (R1.newfz hz) fun R2 x2 => ?_
    refine wpAny_newList ?_ hl
    exact kq _ _ _ ml1 _ tk1 _ hv.2 (x1.trans x2) R2 (by exact ⟨_, _, us, 0, rfl, .inr (.head _), rfl, rfl, isLmono x2 i1⟩))
theorem WE.lstC (h : WA c elts ⟨ρl, ρm⟩ fun vs m => vs.length ≤ 1000 ∧ P (.ptr m.length) (m ++ [.lst vs])) : WE c (.List elts pos) ⟨ρl, ρm⟩ P :=
  fun s fz ml Q E R kq => List_ (h pos s fz ml _ E R fun vs m fz1 ml1 h1 tk1 us hv x1 R1 i1 => by
    have hl : us.length ≤ sizeLine := by rw [l_len i1, sizeLine_eq]; have := hv.1; lia
    have hz : (h1.push (listOf us.toArray 0)).get? h1.objs.size = some (listOf us.toArray 0) := Heap.get?_push_size _ rfl
    have hx : Ext fz1 ml1 fz1 (ml1 ++ [(h1.objs.size, listOf us.toArray 0)]) := ⟨fun _ h => h, adr_pre⟩
    refine oA (R1.newml (m' := .lst vs) hz ⟨us, 0, rfl, isLmono hx i1⟩) fun R2 x2 => ?_
    refine wpAny_newList ?_ hl
    refine kq _ _ _ _ _ tk1 _ hv.2 (x1.trans x2) R2 ?_
    rw [show m.length = ml1.length from R1.mem.len.symm]
    exact ptr_new)
theorem WE.dctC (h : P (.ptr ρm.length) (ρm ++ [.dct []])) : WE c (.Dict [] [] pos) ⟨ρl, ρm⟩ P :=
  fun s fz ml Q E R kq => by
    obtain ⟨m, f, F, LA, lo⟩ := R.fr
    refine Dict_empty_made (strKind thePr c.X.w) PyData.str F R.news (modules_low R.ok.top.nolimit) fun h' o F' N' e1 d1 d2 off => ?_
    have N2 : News c.X.h₀ c.X.L h' (ml ++ fz ++ c.X.xs) := fun q hq => N' q (List.mem_cons_of_mem _ hq)
    have n1 := N' _ (.head _)
    refine oA ((R.move F' LA lo N2).addml (m' := .dct []) n1.1 n1.2.1 n1.2.2 off R.modules ⟨[], d1, by rfl⟩) fun R2 x2 => ?_
    refine kq _ _ _ _ _ s.toks _ h x2 R2 ?_
    rw [show ρm.length = ml.length from R.mem.len.symm]
    exact ptr_new
theorem WE.dciC (h : P (.ptr ρm.length) (ρm ++ [.dci []])) : WE c (.Dict [] [] pos) ⟨ρl, ρm⟩ P :=
  fun s fz ml Q E R kq => by
    obtain ⟨m, f, F, LA, lo⟩ := R.fr
    refine Dict_empty_made (intKind thePr c.X.w) PyData.int F R.news (modules_low R.ok.top.nolimit) fun h' o F' N' e1 d1 d2 off => ?_
    have N2 : News c.X.h₀ c.X.L h' (ml ++ fz ++ c.X.xs) := fun q hq => N' q (List.mem_cons_of_mem _ hq)
    have n1 := N' _ (.head _)
    refine oA ((R.move F' LA lo N2).addml (m' := .dci []) n1.1 n1.2.1 n1.2.2 off R.modules ⟨[], d1, rfl⟩) fun R2 x2 => ?_
    refine kq _ _ _ _ _ s.toks _ h x2 R2 ?_
    rw [show ρm.length = ml.length from R.mem.len.symm]
    exact ptr_new
theorem news_at {h : Heap} {fz ml : Led} (R : Rel c ⟨ρl, ρm⟩ fz ml h) : News c.X.h₀ c.X.L h (ml ++ (fz ++ c.X.xs)) ∧ ((ml ++ (fz ++ c.X.xs)).map (·.1)).Nodup := ⟨by rw [← List.append_assoc]; exact R.news, by rw [← List.append_assoc]; exact R.nd⟩
theorem WL.append {i : Nat} {vs : List V} {v : V} (hm : ρm[i]? = some (.lst vs)) (hl : vs.length ≤ 16777216) (h : P .none (ρm.set i (.lst (vs ++ [v])))) : WL c (callV (.builtin "list.append")) [.ptr i, v] ⟨ρl, ρm⟩ P :=
  fun s fz ml us Q E R hu kq => by
    obtain ⟨u1, _, rfl, hi, hu⟩ := l_cons hu
    obtain ⟨u2, _, rfl, hk, hu⟩ := l_cons hu
    obtain rfl := l_nil hu
    obtain ⟨a, o, rfl, hml, hget, hg, ws, n, rfl, l⟩ := R.at hm hi
    obtain ⟨m, f, F, LA, lo⟩ := R.fr
    refine oA (news_at R) fun N nd => ?_
    refine append_K F N (upd_set (o' := listOf (ws.toArray.push u2) (n + 1)) hget nd) (fun h' F' N' => ?_) (by rw [List.size_toArray, l_len l, sizeLine_eq]; exact hl)
    obtain ⟨R2, x2⟩ := R.put (m' := .lst (vs ++ [v])) hget F' LA lo (by rw [List.append_assoc]; exact N') ⟨ws ++ [u2], n + 1, by simp, l_app l (mk_cons hk mk_nil)⟩
    exact kq _ _ _ _ h' s.toks _ h x2 R2 mk_none
theorem WL.pop {i : Nat} {vs : List V} {v : V} (hm : ρm[i]? = some (.lst (vs ++ [v]))) (hl : vs.length ≤ 16777215) (h : P v (ρm.set i (.lst vs))) : WL c (callV (.builtin "list.pop")) [.ptr i] ⟨ρl, ρm⟩ P :=
  fun s fz ml us Q E R hu kq => by
    obtain ⟨u1, _, rfl, hi, hu⟩ := l_cons hu
    obtain rfl := l_nil hu
    obtain ⟨a, o, rfl, hml, hget, hg, ws, n, rfl, l⟩ := R.at hm hi
    obtain ⟨m, f, F, LA, lo⟩ := R.fr
    refine oA (news_at R) fun N nd => ?_
    obtain ⟨ws1, w2, rfl, l1, l2⟩ : ∃ ws1 w2, ws = ws1 ++ [w2] ∧ c.l fz ml vs ws1 ∧ c.v fz ml v w2 := by
      clear hm hget hg hml h
      revert ws
      induction vs with
      | nil => intro ws l; obtain ⟨x, xs, rfl, a, b⟩ := l_cons l; rw [l_nil b]; exact ⟨[], x, rfl, mk_nil, a⟩
      | cons y ys ih => intro ws l; obtain ⟨x, xs, rfl, a, b⟩ := l_cons l; obtain ⟨p, q, rfl, b1, b2⟩ := ih (by simp at hl; lia) xs b; exact ⟨x :: p, q, rfl, mk_cons a b1, b2⟩
    refine kl_pop (p := ws1) (y := w2) F N (by simpa using kpa_last w2 ws1) (upd_set (o' := listOf ws1.toArray (n + 1)) hget nd) (by simp [l_len l1, sizeLine_eq]; lia) fun h' F' N' => ?_
    obtain ⟨R2, x2⟩ := R.put (m' := .lst vs) hget F' LA lo (by rw [List.append_assoc]; exact N') ⟨ws1, n + 1, rfl, l1⟩
    exact kq _ _ _ _ h' s.toks _ h x2 R2 (isVmono x2 l2)
theorem WL.pop0 {i : Nat} {vs : List V} {v : V} (hm : ρm[i]? = some (.lst (v :: vs))) (hl : vs.length ≤ 16777215) (h : P v (ρm.set i (.lst vs))) : WL c (callV (.builtin "list.pop")) [.ptr i, .int 0] ⟨ρl, ρm⟩ P :=
  fun s fz ml us Q E R hu kq => by
    obtain ⟨u1, _, rfl, hi, hu⟩ := l_cons hu
    obtain ⟨u2, _, rfl, hk, hu⟩ := l_cons hu
    obtain rfl := l_nil hu
    refine oE (v_int hk) fun t e91 => ?_
    subst e91
    obtain ⟨a, o, rfl, hml, hget, hg, ws, n, rfl, l⟩ := R.at hm hi
    obtain ⟨m, f, F, LA, lo⟩ := R.fr
    refine oA (news_at R) fun N nd => ?_
    refine oEEAA (l_cons l) fun w2 ws1 e92 l2 l1 => ?_
    subst e92
    refine kl_popAt (k := 0) (p := []) (q := ws1) (y := w2) F N (by decide) (by simp [seqIndex?]) (by rfl) (upd_set (o' := listOf ([] ++ ws1).toArray (n + 1)) hget nd) (by simp [l_len l1, sizeLine_eq]; lia) fun h' F' N' => ?_
    obtain ⟨R2, x2⟩ := R.put (m' := .lst vs) hget F' LA lo (by rw [List.append_assoc]; exact N') ⟨ws1, n + 1, rfl, l1⟩
    exact kq _ _ _ _ h' s.toks _ h x2 R2 (isVmono x2 l2)
theorem WL.extend {i : Nat} {vs vs2 : List V} {b : V} (hm : ρm[i]? = some (.lst vs)) (S : LstAt ⟨ρl, ρm⟩ b vs2) (hne : vs2 ≠ []) (hl : vs.length + vs2.length ≤ 1000000) (h : P .none (ρm.set i (.lst (vs ++ vs2)))) : WL c (callV (.builtin "list.extend")) [.ptr i, b] ⟨ρl, ρm⟩ P :=
  fun s fz ml us Q E R hu kq => by
    obtain ⟨u1, _, rfl, hi, hu⟩ := l_cons hu
    obtain ⟨u2, _, rfl, hk, hu⟩ := l_cons hu
    obtain rfl := l_nil hu
    obtain ⟨a, o, rfl, hml, hget, hg, ws, n, rfl, l⟩ := R.at hm hi
    refine oEEEEAAAAAA (S.get R hk) fun a2 o2 ws2 n2 e94 hg2 _ _ _ l2 e910 => ?_
    subst e94
    subst e910
    obtain ⟨m, f, F, LA, lo⟩ := R.fr
    refine oA (news_at R) fun N nd => ?_
    have U := upd_set (o' := listOf (ws ++ ws2).toArray (n + 1)) hget nd
    refine hold fun _ hK9 => ?_
    refine oEEAAA U.split fun pre post e1 e2 f1 f2 => ?_
    refine hK9 ?_
    have e1' := l_len l
    have e2' := l_len l2
    refine call_meets PySem.F.slot_list_extend ⟨_, hg, rfl⟩ PySem.F.entry_list_extend (PySem.F.args_list_extend_2 _ _) (PySem.AutoSeq1.list_extend_list_list_0 a ws.toArray n a2 ws2.toArray n2 ?_ (by rw [List.size_toArray, e1', sizeLine_eq]; lia) (by rw [List.size_toArray, List.size_toArray, e1', e2', sizeLine_eq]; lia)) ⟨hg, hg2, ?_⟩
    · rw [show Builtin.List.listTooLong (ws.toArray.size + ws2.toArray.size) = false by
        simp only [Builtin.List.listTooLong, List.size_toArray, e1', e2', sizeLine_eq]; first | (simp; lia) | (apply decide_eq_false; lia)]
      simp
    rw [e1] at N
    have N' := kl_turn (fun x => x ++ ws2.toArray) (its' := (ws ++ ws2).toArray) N f1 f2 (by simp) (by
      intro q
      have this := q
      simp at this
      cases ws2 with
      | nil => exact hne (List.eq_nil_of_length_eq_zero (by rw [← e2']; rfl))
      | cons => simp at this)
    rw [← e2] at N'
    have n0 := R.news _ (List.mem_append_left _ (List.mem_append_left _ hml))
    obtain ⟨R2, x2⟩ := R.put (m' := .lst (vs ++ vs2)) hget (F.change (Heap.SameBut.update ..) n0.2.1 n0.2.2) LA lo (by rw [List.append_assoc]; exact N') ⟨ws ++ ws2, n + 1, rfl, l_app l l2⟩
    exact kq _ _ _ _ _ s.toks _ h x2 R2 mk_none
end
end Mine
end
section
open PySem PySem.W PyProof.Rows PySem.Spec PySem.Calls
namespace Mine
section
variable {c : Cx} {σ : St} {ρl : List (Str × V)} {ρm : List M} {P : V → List M → Prop} {PT : Bool → List M → Prop} {PX : Fl → St → Prop} {elts : List Expr} {pos : Pos} {k : Nat} {i j d : Int} {x y : Str} {a b v : V}
theorem Rel.un {fz ml h} (R : Rel c σ fz ml h) : c.A.units + 64 < cLine := by
  have := R.ok.unt
  show c.X.un + 64 < 9900
  lia
theorem WL.len {vs : List V} (S : LstAt ⟨ρl, ρm⟩ a vs) (hl : vs.length ≤ 16777216) (h : P (.int vs.length) ρm) : WL c (callV (.builtin "len")) [a] ⟨ρl, ρm⟩ P :=
  fun s fz ml us Q E R hu kq => by
    obtain ⟨u1, _, rfl, hi, hu⟩ := l_cons hu
    obtain rfl := l_nil hu
    refine oEEEEAAAAAA (S.get R hi) fun ad o ws n e94 hg e1 _ e2 l _ => ?_
    subst e94
    have hs : ws.toArray.size = vs.length := by rw [List.size_toArray, l_len l]
    refine call_len_list ⟨o, hg, e1, n, e2⟩ (by rw [hs]; lia) ?_
    rw [hs]
    exact kq _ _ fz ml s.heap _ _ h .rfl R mk_int
theorem WL.len_t {vs : List V} (hl : vs.length ≤ 16777216) (h : P (.int vs.length) ρm) : WL c (callV (.builtin "len")) [.tup vs] ⟨ρl, ρm⟩ P :=
  fun s fz ml us Q E R hu kq => by
    obtain ⟨u1, _, rfl, hi, hu⟩ := l_cons hu
    obtain rfl := l_nil hu
    obtain ⟨ad, o, ws, n, rfl, z, e1, e2, l⟩ := v_tup hi
    have hs : ws.toArray.size = vs.length := by rw [List.size_toArray, l_len l]
    refine len_tuple ⟨o, R.zf z, e1, n, e2⟩ (by rw [hs]; lia) ?_
    rw [hs]
    exact kq _ _ fz ml s.heap _ _ h .rfl R mk_int
theorem WL.abs (h : P (.int (if i < 0 then -i else i)) ρm) : WL c (callV (.builtin "abs")) [.int i] ⟨ρl, ρm⟩ P :=
  fun s fz ml us Q E R hu kq => by
    obtain ⟨u1, _, rfl, hi, hu⟩ := l_cons hu
    obtain rfl := l_nil hu
    obtain ⟨t, rfl⟩ := v_int hi
    exact call_abs_int fun u tk => kq _ _ fz ml s.heap _ _ h .rfl R mk_int
theorem WL.int_i (h : P (.int i) ρm) : WL c (callV (.type "int")) [.int i] ⟨ρl, ρm⟩ P :=
  fun s fz ml us Q E R hu kq => by
    obtain ⟨u1, _, rfl, hi, hu⟩ := l_cons hu
    obtain rfl := l_nil hu
    refine oE (v_int hi) fun t e91 => ?_
    subst e91
    exact call_int_int (kq _ _ fz ml s.heap s.toks _ h .rfl R mk_int)
theorem WL.str_i (hb : i.natAbs.log2 < 1920) (h : P (.str (Str.ofString (toString i))) ρm) : WL c (callV (.type "str")) [.int i] ⟨ρl, ρm⟩ P :=
  fun s fz ml us Q E R hu kq => by
    obtain ⟨u1, _, rfl, hi, hu⟩ := l_cons hu
    obtain rfl := l_nil hu
    refine oE (v_int hi) fun t e91 => ?_
    subst e91
    exact PySem.P.str_of_int hb (kq _ _ fz ml s.heap _ _ h .rfl R mk_str)
theorem WL.min2 (h : P (.int (if j < i then j else i)) ρm) : WL c (callV (.builtin "min")) [.int i, .int j] ⟨ρl, ρm⟩ P :=
  fun s fz ml us Q E R hu kq => by
    obtain ⟨u1, _, rfl, hi, hu⟩ := l_cons hu
    obtain ⟨u2, _, rfl, hj, hu⟩ := l_cons hu
    obtain rfl := l_nil hu
    obtain ⟨t, rfl⟩ := v_int hi
    obtain ⟨t', rfl⟩ := v_int hj
    refine hold fun _ hK9 => ?_
    obtain ⟨m, f, F, LA, lo⟩ := R.fr
    refine hK9 ?_
    refine min_two_ints rfl fun h' tk hk => ?_
    have F' : Fr c.X.h₀ c.X.L h' m := ⟨F.ns.at' fun o e => hk _ o e, fun b o e => hk b o (F.keep b o e), F.above⟩
    have R' := R.grow hk F' LA lo
    have hv : c.v fz ml (.int (if j < i then j else i)) (if j < i then .int j t' else .int i t) := by split <;> exact mk_int
    exact kq _ _ fz ml h' tk _ h .rfl R' hv
theorem ints_are {fz ml : Led} : ∀ {is : List Int} {us : List Value}, c.l fz ml (is.map V.int) us → IntsAre us is
  | [], us, h => by rw [l_nil h]; exact .nil
  | i :: is, us, h => by obtain ⟨u, us, rfl, a, b⟩ := l_cons h; obtain ⟨t, rfl⟩ := v_int a; exact .cons i t (ints_are b)
theorem WL.sum {is : List Int} (S : LstAt ⟨ρl, ρm⟩ a (is.map V.int)) (h : P (.int is.sum) ρm) : WL c (callV (.builtin "sum")) [a] ⟨ρl, ρm⟩ P :=
  fun s fz ml us Q E R hu kq => by
    obtain ⟨u1, _, rfl, hi, hu⟩ := l_cons hu
    obtain rfl := l_nil hu
    refine oEEEEAAAAAA (S.get R hi) fun ad o ws n e94 hg e1 _ e2 l _ => ?_
    subst e94
    refine hold fun _ hK9 => ?_
    obtain ⟨m, f, F, LA, lo⟩ := R.fr
    refine hK9 ?_
    refine oE ((ints_are l).allInts.items) fun xs hxs => ?_
    have hsum : (numsOf (intItems xs).toList).sum = is.sum := by rw [← hxs]; rw [show ws.toArray.toList = ws from rfl, (ints_are l).numsOf]
    rw [nums_intItems] at hsum
    refine sum_intListG rfl ⟨o, hg, e1, n, by rw [← hxs]; exact e2⟩ fun h' tk t' hk => ?_
    have F' : Fr c.X.h₀ c.X.L h' m := ⟨F.ns.at' fun o e => hk _ o e, fun b o e => hk b o (F.keep b o e), F.above⟩
    rw [preSum_eq, List.take_of_length_le (by simp), hsum]
    exact kq _ _ fz ml h' tk _ h .rfl (R.grow hk F' LA lo) mk_int
theorem WL.range1 (h : P (.rng 0 i 1) ρm) : WL c (callV (.type "range")) [.int i] ⟨ρl, ρm⟩ P :=
  fun s fz ml us Q E R hu kq => by
    obtain ⟨u1, _, rfl, hi, hu⟩ := l_cons hu
    obtain rfl := l_nil hu
    refine oE (v_int hi) fun t e91 => ?_
    subst e91
    refine call_range_1 ?_
    refine oA (R.newfz (o := { cls := .type "range", data := .fields #[.int 0 s.toks, .int i t, .int 1 (s.toks + 1)] }) (Heap.get?_push_size _ rfl)) fun R2 x2 => ?_
    exact kq _ _ _ ml _ _ _ h x2 R2 (by exact ⟨_, _, _, _, rfl, .inr (.head _)⟩)
theorem WL.range2 (h : P (.rng i j 1) ρm) : WL c (callV (.type "range")) [.int i, .int j] ⟨ρl, ρm⟩ P :=
  fun s fz ml us Q E R hu kq => by
    obtain ⟨u1, _, rfl, hi, hu⟩ := l_cons hu
    obtain ⟨u2, _, rfl, hj, hu⟩ := l_cons hu
    obtain rfl := l_nil hu
    refine oE (v_int hi) fun t e91 => ?_
    subst e91
    refine oE (v_int hj) fun t' e91 => ?_
    subst e91
    refine call_range_2 ?_
    refine oA (R.newfz (o := { cls := .type "range", data := .fields #[.int i t, .int j t', .int 1 s.toks] }) (Heap.get?_push_size _ rfl)) fun R2 x2 => ?_
    exact kq _ _ _ ml _ _ _ h x2 R2 (by exact ⟨_, _, _, _, rfl, .inr (.head _)⟩)
theorem WL.range3 (h0 : 0 < d) (hd : d ≤ 1000000000000) (h : P (.rng i j d) ρm) : WL c (callV (.type "range")) [.int i, .int j, .int d] ⟨ρl, ρm⟩ P :=
  fun s fz ml us Q E R hu kq => by
    obtain ⟨u1, _, rfl, hi, hu⟩ := l_cons hu
    obtain ⟨u2, _, rfl, hj, hu⟩ := l_cons hu
    obtain ⟨u3, _, rfl, hk, hu⟩ := l_cons hu
    obtain rfl := l_nil hu
    obtain ⟨t, rfl⟩ := v_int hi
    obtain ⟨t', rfl⟩ := v_int hj
    obtain ⟨t'', rfl⟩ := v_int hk
    refine call_range_3 (by lia) ?_ (Or.inl (PyProof.noPylong_of_log2 (log_small (by lia))))
    obtain ⟨R2, x2⟩ := R.newfz (o := { cls := .type "range", data := .fields #[.int i t, .int j t', .int d t''] }) (Heap.get?_push_size _ rfl)
    exact kq _ _ _ ml _ s.toks _ h x2 R2 (by exact ⟨_, _, _, _, rfl, .inr (.head _)⟩)
theorem WL.ord (hx : x.length = 1) (h : P (.int (x.cps.getD 0 0)) ρm) : WL c (callV (.builtin "ord")) [.str x] ⟨ρl, ρm⟩ P :=
  fun s fz ml us Q E R hu kq => by
    obtain ⟨u1, _, rfl, hi, hu⟩ := l_cons hu
    obtain rfl := l_nil hu
    refine oE (v_str hi) fun t e91 => ?_
    subst e91
    exact ord_of_one hx (kq _ _ fz ml s.heap _ _ h .rfl R mk_int)
theorem WL.chr (h0 : 0 ≤ i) (h1 : i ≤ 1114111) (h : P (.str { cps := #[i.toNat] }) ρm) : WL c (callV (.builtin "chr")) [.int i] ⟨ρl, ρm⟩ P :=
  fun s fz ml us Q E R hu kq => by
    obtain ⟨u1, _, rfl, hi, hu⟩ := l_cons hu
    obtain rfl := l_nil hu
    refine oE (v_int hi) fun t e91 => ?_
    subst e91
    exact chr_of_range h0 h1 (kq _ _ fz ml s.heap _ _ h .rfl R mk_str)
theorem WL.bytes {is : List Int} (S : LstAt ⟨ρl, ρm⟩ a (is.map V.int)) (hr : KBa.In is) (hl : is.length ≤ 16777216) (h : P (.byt (byteArr is)) ρm) : WL c (callV (.type "bytes")) [a] ⟨ρl, ρm⟩ P :=
  fun s fz ml us Q E R hu kq => by
    obtain ⟨u1, _, rfl, hi, hu⟩ := l_cons hu
    obtain rfl := l_nil hu
    refine oEEEEAAAAAA (S.get R hi) fun ad o ws n e94 hg e1 _ e2 l _ => ?_
    subst e94
    obtain ⟨m, f, F, LA, lo⟩ := R.fr
    refine KBa.make_K F R.news rfl ⟨o, hg, e1, n, e2⟩ (ints_are l) hr hl fun h' t' k F' N' _ => ?_
    exact kq _ _ fz ml h' k _ h .rfl (R.move F' LA lo N') mk_byt
mutual
noncomputable def toD : V → PyData
  | .int i => .int i
  | .str x => .str x
  | .tup vs => .tuple (toDL vs)
  | .lst vs => .list (toDL vs)
  | _ => .none
noncomputable def toDL : List V → List PyData
  | [] => []
  | v :: vs => toD v :: toDL vs
end
mutual
noncomputable def plainV : V → Bool
  | .int _ => true
  | .str _ => true
  | .none => true
  | .tup vs => plainL vs
  | .lst vs => plainL vs
  | _ => false
noncomputable def plainL : List V → Bool
  | [] => true
  | v :: vs => plainV v && plainL vs
end
theorem reads_of {fz ml : Led} {h : Heap} (R : Rel c ⟨ρl, ρm⟩ fz ml h) (v : V) : ∀ u : Value, plainV v = true → c.v fz ml v u → ∃ as, Reads h u (toD v) as :=
  V.rec (motive_1 := fun v => ∀ u : Value, plainV v = true → c.v fz ml v u → ∃ as, Reads h u (toD v) as) (motive_2 := fun vs => ∀ us : List Value, plainL vs = true → c.l fz ml vs us → ∃ as, ReadsAll h us (toDL vs) as) (motive_3 := fun _ => True) (motive_4 := fun _ => True)
    (fun u _ h => by obtain rfl := v_none h; exact ⟨_, .none⟩) (fun _ _ q _ => nomatch (show false = true from q)) (fun i u _ h => by obtain ⟨t, rfl⟩ := v_int h; exact ⟨_, .int i t⟩) (fun i u _ h => by obtain ⟨t, rfl⟩ := v_str h; exact ⟨_, .str i t⟩)
    (fun _ _ q _ => nomatch (show false = true from q)) (fun _ _ q _ => nomatch (show false = true from q))
    (fun vs ih u q h => by obtain ⟨a, o, ws, n, rfl, z, e1, e2, l⟩ := v_tup h; exact (ih ws q l).elim fun _ r => ⟨_, .tuple (R.zf z) e1 e2 r⟩)
    (fun vs ih u q h => by obtain ⟨a, o, ws, n, rfl, z, e1, e2, l⟩ := v_lst h; exact (ih ws q l).elim fun _ r => ⟨_, .list (R.zf z) e1 e2 r⟩)
    (fun _ _ _ q _ => nomatch (show false = true from q)) (fun _ _ _ _ q _ => nomatch (show false = true from q)) (fun _ _ q _ => nomatch (show false = true from q)) (fun _ _ _ _ q _ => nomatch (show false = true from q)) (fun _ _ _ q _ => nomatch (show false = true from q)) (fun _ _ _ _ _ _ q _ => nomatch (show false = true from q))
    (fun us q h => by rw [l_nil h]; exact ⟨_, .nil⟩)
    (fun v vs a b us q h => by
      have q' := Bool.and_eq_true_iff.mp q
      obtain ⟨u, us', rfl, p, r⟩ := l_cons h
      exact (a u q'.1 p).elim fun _ r1 => (b us' q'.2 r).elim fun _ r2 => ⟨_, .cons r1 r2⟩)
    trivial (fun _ _ _ _ => trivial) (fun _ _ _ => trivial) v
theorem readsL_of {fz ml : Led} {h : Heap} (R : Rel c ⟨ρl, ρm⟩ fz ml h) {vs : List V} {us : List Value} (q : plainL vs = true) (hv : c.l fz ml vs us) : ∃ as, ReadsAll h us (toDL vs) as := by
  induction vs generalizing us with
  | nil => rw [l_nil hv]; exact ⟨_, .nil⟩
  | cons v vs ih =>
    have q' := Bool.and_eq_true_iff.mp q
    obtain ⟨u, us', rfl, p, r⟩ := l_cons hv
    exact (reads_of R v u q'.1 p).elim fun _ r1 => (ih q'.2 r).elim fun _ r2 => ⟨_, .cons r1 r2⟩
theorem LstAt.reads {vs : List V} {fz ml : Led} {h : Heap} {u : Value} (S : LstAt ⟨ρl, ρm⟩ a vs) (R : Rel c ⟨ρl, ρm⟩ fz ml h) (hp : plainL vs = true) (hv : c.v fz ml a u) : ∃ as, Reads h u (.list (toDL vs)) as := by
  refine hold fun _ hK9 => ?_
  refine oEEEEAAAAAA (S.get R hv) fun ad o ws n e94 hg e1 _ e2 l _ => ?_
  subst e94
  refine hK9 ?_
  refine oE (readsL_of R hp l) fun as r => ?_
  exact ⟨_, .list hg e1 e2 r⟩
theorem W2.eq_l {vs vs' : List V} (S : LstAt ⟨ρl, ρm⟩ a vs) (S' : LstAt ⟨ρl, ρm⟩ b vs') (hp : plainL vs = true) (hp' : plainL vs' = true) (hs : SeqAt.shaped (.list (toDL vs)) = true) (hs' : SeqAt.shaped (.list (toDL vs')) = true) (hm : SeqAt.noMix (.list (toDL vs)) (.list (toDL vs')) = true)
    (h : P (.bool (Spec.same (.list (toDL vs)) (.list (toDL vs')))) ρm) : W2 c (compareOp .Eq) a b ⟨ρl, ρm⟩ P :=
  fun s fz ml u u' Q E R hi hj kq => by
    refine oE (S.reads R hp hi) fun as r => ?_
    refine oE (S'.reads R hp' hj) fun bs r' => ?_
    exact eq_dataH_same r r' hs hs' R.un hm (kq _ _ fz ml s.heap s.toks _ h .rfl R mk_bool)
theorem W2.ne_l {vs vs' : List V} (S : LstAt ⟨ρl, ρm⟩ a vs) (S' : LstAt ⟨ρl, ρm⟩ b vs') (hp : plainL vs = true) (hp' : plainL vs' = true) (hs : SeqAt.shaped (.list (toDL vs)) = true) (hs' : SeqAt.shaped (.list (toDL vs')) = true) (hm : SeqAt.noMix (.list (toDL vs)) (.list (toDL vs')) = true)
    (h : P (.bool (!Spec.same (.list (toDL vs)) (.list (toDL vs')))) ρm) : W2 c (compareOp .NotEq) a b ⟨ρl, ρm⟩ P :=
  fun s fz ml u u' Q E R hi hj kq => by
    refine oE (S.reads R hp hi) fun as r => ?_
    refine oE (S'.reads R hp' hj) fun bs r' => ?_
    exact ne_dataH_same r r' hs hs' R.un hm (kq _ _ fz ml s.heap s.toks _ h .rfl R mk_bool)
theorem W2.add_ll {vs vs' : List V} (S : LstAt ⟨ρl, ρm⟩ a vs) (S' : LstAt ⟨ρl, ρm⟩ b vs') (hl : vs.length + vs'.length ≤ 16777216) (h : P (.lst (vs ++ vs')) ρm) : W2 c (binaryOp .Add) a b ⟨ρl, ρm⟩ P :=
  fun s fz ml u u' Q E R hi hj kq => by
    refine oEEEEAAAAAA (S.get R hi) fun ad o ws n e94 hg e1 _ e2 l _ => ?_
    subst e94
    refine hold fun _ hK9 => ?_
    refine oEEEEAAAAAA (S'.get R hj) fun ad' o' ws' n' e94 hg' e1' _ e2' l' _ => ?_
    subst e94
    refine hK9 ?_
    obtain ⟨m, f, F, LA, lo⟩ := R.fr
    refine add_arrays F R.news ⟨o, hg, e1, n, e2⟩ ⟨o', hg', e1', n', e2'⟩ (fun h' F' N' => ?_) (by rw [List.size_toArray, List.size_toArray, l_len l, l_len l', sizeLine_eq]; exact hl)
    have n1 := N' _ (.head _)
    have R2 := (R.move F' LA lo fun q hq => N' q (List.mem_cons_of_mem _ hq)).addfz n1.1 R.fresh.1 R.fresh.2.1 R.fresh.2.2 R.modules
    have x2 : Ext fz ml ((s.heap.objs.size, { cls := .type "list", data := .seq (ws.toArray.toList ++ ws'.toArray.toList).toArray }) :: fz) ml := ⟨fun p hp => List.mem_cons_of_mem _ hp, List.prefix_refl _⟩
    exact kq _ _ _ ml h' s.toks _ h x2 R2 (by exact ⟨_, _, ws ++ ws', 0, rfl, .inr (.head _), rfl, rfl, l_app (isLmono x2 l) (isLmono x2 l')⟩)
end
end Mine
end
section
open PySem PySem.W PyProof.Rows PySem.Spec PySem.Calls
namespace Mine
inductive InsAt (σ : St) : V → Addr → List (Str × V) → Prop
  | tree {C : Addr} {fs : List (Str × V)} : InsAt σ (.ins C fs) C fs
  | cell {C : Addr} {i j : Nat} {fs : List (Str × V)} : σ.mem[i]? = some (.ins C j) → σ.mem[j]? = some (.nsd fs) → InsAt σ (.ptr i) C fs
section
variable {c : Cx} {σ : St} {ρl : List (Str × V)} {ρm : List M} {fz ml : Led} {h : Heap}
theorem InsAt.get {v : V} {C : Addr} {fs : List (Str × V)} {u : Value} (S : InsAt ⟨ρl, ρm⟩ v C fs) (R : Rel c ⟨ρl, ρm⟩ fz ml h) (hv : c.v fz ml v u) : ∃ x dx es n, u = .ref x ∧ W.InstAt h x (instObj C dx) C (some (dictOf es n)) ∧ isE c.X.w c.X.Zb fz (adr ml) fs es := by
  cases S with
  | tree =>
    obtain ⟨x, dx, es, n, rfl, z1, z2, l⟩ := v_ins hv
    exact ⟨x, dx, es, n, rfl, ⟨R.zf z1, rfl, rfl, R.zf z2⟩, l⟩
  | cell h1 h2 =>
    refine hold fun _ hK9 => ?_
    obtain ⟨x, o, rfl, _, _, hg, dx, rfl, e⟩ := R.at h1 hv
    refine hK9 ?_
    obtain ⟨dx', o', e', _, _, hg', es, n, rfl, l⟩ := R.at h2 (u := .ref dx) (by exact ⟨dx, rfl, e⟩)
    cases e'
    exact ⟨x, dx, es, n, rfl, ⟨hg, rfl, rfl, hg'⟩, l⟩
theorem isE_get {w : World} {Zb : Addr → Obj → Prop} {ad : List Addr} : ∀ {fs : List (Str × V)} {es : List DictEntry} {x : Str}, isE w Zb fz ad fs es → (∀ v, fs.lookup x = some v → ∃ u, getL x es = some (some u) ∧ isV w Zb fz ad v u) ∧ (fs.lookup x = none → getL x es = some none)
  | [], es, x, h => by subst h; exact ⟨fun v e => (nomatch e), fun _ => rfl⟩
  | (y, v') :: r, es, x, h => by
    refine oEEEEAA h fun hs t u us e94 h1 h2 => ?_
    subst e94
    refine oA (isE_get (x := x) h2) fun k1 k2 => ?_
    rw [List.lookup_cons]
    have hk : (⟨hs, .str y t, u⟩ : DictEntry).key.isStr x = (y == x) := by first | rfl | simp [Value.isStr]
    by_cases q : x = y
    · subst q
      simp only [beq_self_eq_true]
      refine ⟨fun v e => ?_, fun e => by cases e⟩
      cases e
      refine ⟨u, ?_, h1⟩
      unfold getL
      rw [List.find?_cons, hk, beq_self_eq_true]
    · simp only [beq_false_of_ne q]
      have e1 : (⟨hs, .str y t, u⟩ : DictEntry).refKey = false := by first | rfl | simp [DictEntry.refKey]
      have e2 : getL x (⟨hs, .str y t, u⟩ :: us) = getL x us := by
        unfold getL
        rw [List.find?_cons, hk, beq_false_of_ne (Ne.symm q), List.any_cons, e1, Bool.false_or]
      rw [e2]
      exact ⟨k1, k2⟩
noncomputable def isGlob : V → Bool
  | .glob _ => true
  | _ => false
theorem v_handed {v : V} {u : Value} (hv : c.v fz ml v u) (hn : isGlob v = false) : handedIn u = true := by
  cases v with
  | none => rw [v_none hv]; rfl
  | bool => rw [v_bool hv]; rfl
  | int => obtain ⟨t, rfl⟩ := v_int hv; rfl
  | str => obtain ⟨t, rfl⟩ := v_str hv; rfl
  | byt => obtain ⟨t, rfl⟩ := v_byt hv; rfl
  | glob => cases hn
  | tup => obtain ⟨a, _, _, _, rfl, _⟩ := v_tup hv; rfl
  | lst => obtain ⟨a, _, _, _, rfl, _⟩ := v_lst hv; rfl
  | dct => obtain ⟨a, _, _, rfl, _⟩ := v_dct hv; rfl
  | ins => obtain ⟨a, _, _, _, rfl, _⟩ := v_ins hv; rfl
  | ptr => obtain ⟨a, rfl, _⟩ := v_ptr hv; rfl
  | rng => obtain ⟨a, _, _, _, rfl, _⟩ := v_rng hv; rfl
  | slc => obtain ⟨a, _, _, rfl, _⟩ := v_slc hv; rfl
  | lam => obtain ⟨_, _, _, _, _, _, _, _, rfl, _⟩ := v_lam hv; rfl
end
section
variable {c : Cx} {σ : St} {ρl : List (Str × V)} {ρm : List M} {P : V → List M → Prop} {PX : Fl → St → Prop} {e o : Expr} {pos : Pos} {name x : Str} {a b v : V} {C f : Addr} {fs : List (Str × V)} {i : Nat} {n : Int}
theorem WE.attr (h : WE c e ⟨ρl, ρm⟩ fun ov m => W1 c (fun u => getAttr u name true) ov ⟨ρl, m⟩ P)
    (he : eval (.Attribute e name pos) c.env = (do
      let o ← eval e c.env
      standAt pos.atName
      let r ← holding [o] (getAttr o name true)
      letTemporaryGo e o r
      pure r) := by rfl) : WE c (.Attribute e name pos) ⟨ρl, ρm⟩ P :=
  fun s fz ml Q E R k => by
    rw [he]
    refine wpAny_bind (wpAny_mono (h s fz ml _ E R fun ov m fz1 ml1 h1 tk1 u hov x1 R1 i1 => hov _ fz1 ml1 u Q E R1 i1 (k.after x1)) (fun o s₁ h₁ => wpAny_bind (wpAny_standAt (wpAny_bind (wpAny_holding (wpAny_mono h₁ (fun r s₂ h₂ => ?_) fun _ _ x => x))))) fun _ _ x => x)
    exact wpAny_bind (wpAny_letTemporaryGo (wpAny_pure h₂))
theorem W1.attr {at' : Option Value} (S : InsAt ⟨ρl, ρm⟩ a C fs) (hv : fs.lookup name = some v) (hn : isGlob v = false) (h1 : plainGet (wrt.heap_1 c.X.w.params) C name = true) (h2 : hasDictIn (wrt.heap_1 c.X.w.params) C = true) (h3 : findIn (wrt.heap_1 c.X.w.params) (.ref C) name = some at') (h4 : noGet (wrt.heap_1 c.X.w.params) at' = true)
    (h : P v ρm) : W1 c (fun u => getAttr u name true) a ⟨ρl, ρm⟩ P :=
  fun s fz ml u Q E R hi k => by
    refine oEEEEAA (S.get R hi) fun x dx es n e94 I l => ?_
    subst e94
    refine oEA ((isE_get l).1 v hv) fun u' hu' iu => ?_
    obtain ⟨m, f, F, _⟩ := R.fr
    exact get_own F R.ok.kin I h1 h2 h3 h4 hu' (v_handed iu hn) (k _ _ fz ml s.heap _ _ h .rfl R iu)
theorem Meth.ins (S : InsAt σ a C fs) (hn : fs.lookup name = none) (h1 : plainGet (wrt.heap_1 c.X.w.params) C name = true) (h2 : findIn (wrt.heap_1 c.X.w.params) (.ref C) name = some (some (.ref f))) (h3 : isFn (wrt.heap_1 c.X.w.params) (.ref f) = true) : Meth c a name (.ref f) σ :=
  fun s fz ml u Q E pl R hi k => by
    refine oEEEEAA (S.get R hi) fun x dx es n e94 I l => ?_
    subst e94
    obtain ⟨m, f, F, _⟩ := R.fr
    exact method_inst F R.ok.kin I h1 h2 h3 ((isE_get l).2 hn) (k s.heap s.toks R)
theorem Meth.lower : Meth c (.str x) "lower" (.builtin "str.lower") σ :=
  fun s fz ml u Q E pl R hi k => by
    refine oE (v_str hi) fun t e91 => ?_
    subst e91
    exact GM.lower (k s.heap s.toks R)
theorem WL.lower (hl : x.length ≤ 5592405) (h : P (.str (Txt.lower x)) ρm) : WL c (callV (.builtin "str.lower")) [.str x] ⟨ρl, ρm⟩ P :=
  fun s fz ml us Q E R hu kq => by
    obtain ⟨u1, _, rfl, hi, hu⟩ := l_cons hu
    obtain rfl := l_nil hu
    refine oE (v_str hi) fun t e91 => ?_
    subst e91
    exact SCL.lower hl fun _ => kq _ _ fz ml s.heap _ _ h .rfl R mk_str
inductive KindAt (σ : St) : V → Value → Prop
  | none : KindAt σ .none (.type "NoneType")
  | bool {b : Bool} : KindAt σ (.bool b) (.type "bool")
  | int {b : Int} : KindAt σ (.int b) (.type "int")
  | str {b : Str} : KindAt σ (.str b) (.type "str")
  | byt {b : Array UInt8} : KindAt σ (.byt b) (.type "bytes")
  | lst {v : V} {vs : List V} : LstAt σ v vs → KindAt σ v (.type "list")
  | dct {v : V} {vs : List (Str × V)} : DctAt σ v vs → KindAt σ v (.type "dict")
theorem WL.isin {t cV : Value} {r : Bool} (S : KindAt ⟨ρl, ρm⟩ a t) (hk : kitOne (wrt.heap_1 c.X.w.params) t cV = some r) (h : P (.bool r) ρm) : WL c (callV (.builtin "isinstance")) [a, .glob cV] ⟨ρl, ρm⟩ P :=
  fun s fz ml us Q E R hu kq => by
    obtain ⟨u1, _, rfl, hi, hu⟩ := l_cons hu
    obtain ⟨u2, _, rfl, hj, hu⟩ := l_cons hu
    obtain rfl := l_nil hu
    obtain rfl := v_glob hj
    have K := R.K
    have key : ∀ tk, Post c ρl fz ml P Q s → Q (.bool r) (shr s s.heap tk) := fun tk kq => kq _ _ fz ml s.heap tk _ h .rfl R mk_bool
    cases S with
    | none => rw [v_none hi]; exact kia_one kitx_none K trivial hk (by intro q; cases q) fun tk => key tk kq
    | bool => rw [v_bool hi]; exact kia_one kitx_bool K trivial hk (by intro q; cases q) fun tk => key tk kq
    | int => obtain ⟨t, rfl⟩ := v_int hi; exact kia_one kitx_int K trivial hk (by intro q; cases q) fun tk => key tk kq
    | str => obtain ⟨t, rfl⟩ := v_str hi; exact kia_one kitx_str K trivial hk (by intro q; cases q) fun tk => key tk kq
    | byt => obtain ⟨t, rfl⟩ := v_byt hi; exact kia_one kitx_bytes K trivial hk (by intro q; cases q) fun tk => key tk kq
    | lst S =>
      refine hold fun _ hK9 => ?_
      refine oEEEEAAAAAA (S.get R hi) fun ad o ws n e94 hg e1 _ e2 l _ => ?_
      subst e94
      refine hK9 ?_
      exact kia_one kitx_list K ⟨o, hg, e1⟩ hk (by intro q; cases q) fun tk => key tk kq
    | dct S =>
      refine oEEAAA (S.get R hi) fun ad kws e92 e1 hd l => ?_
      subst e92
      refine oEA hd.typeIs fun o ho hc => ?_
      exact kia_one kitx_dict K ⟨o, ho, hc⟩ hk (by intro q; cases q) fun tk => key tk kq
noncomputable def OwnKit (K : Frag) (C : Addr) : Prop := plainGet K C "__class__" = true ∧ hasDictIn K C = true ∧ findIn K (.ref C) "__class__" = some (some (.builtin "object.__class__")) ∧
  specialIn K (.builtin "object.__class__") "__get__" = some (some (.builtin "getset_descriptor.__get__")) ∧ takesIn K (.builtin "object.__class__") = some true ∧ mroIn K C (.type "object") = some true
theorem WL.isin_ins {cV : Value} {r : Bool} (S : InsAt ⟨ρl, ρm⟩ a C fs) (ok : OwnKit (wrt.heap_1 c.X.w.params) C) (hk : kitOne (wrt.heap_1 c.X.w.params) (.ref C) cV = some r) (h : P (.bool r) ρm) : WL c (callV (.builtin "isinstance")) [a, .glob cV] ⟨ρl, ρm⟩ P :=
  fun s fz ml us Q E R hu kq => by
    obtain ⟨u1, _, rfl, hi, hu⟩ := l_cons hu
    obtain ⟨u2, _, rfl, hj, hu⟩ := l_cons hu
    obtain rfl := l_nil hu
    obtain rfl := v_glob hj
    refine oEEEEAA (S.get R hi) fun x dx es n e94 I l => ?_
    subst e94
    refine oAAAAA ok fun k1 k2 k3 k4 k5 k6 => ?_
    exact kia_one (kitx_own k1 k2 k3 k4 k5 k6) R.K I hk (by intro q; cases q) fun tk => kq _ _ fz ml s.heap tk _ h .rfl R mk_bool
theorem W2.notin_d {ks : List (Str × V)} (S : DctAt ⟨ρl, ρm⟩ a ks) (h : P (.bool (!(ks.lookup x).isSome)) ρm) : W2 c (compareOp .NotIn) (.str x) a ⟨ρl, ρm⟩ P :=
  fun s fz ml u u' Q E R hk hi K => by
    refine oE (v_str hk) fun t e91 => ?_
    subst e91
    refine oEEAAA (S.get R hi) fun ad kws e92 e1 hd l => ?_
    subst e92
    have e : (valueAt kws x).isSome = (ks.lookup x).isSome := by
      cases q : ks.lookup x with
      | none => rw [(isF_val l).2 q]; rfl
      | some v => obtain ⟨y, hy, _⟩ := (isF_val l).1 v q; rw [hy]; rfl
    exact wpAny_notIn_of (strKey _ _ _ _) e1 hd.mapOf (K _ _ fz ml s.heap _ _ h .rfl R (by rw [e]; exact mk_bool))
noncomputable def stV {K : Type} [DecidableEq K] (ks : List (K × V)) (x : K) (v : V) : List (K × V) := if ks.any (fun kv => kv.1 = x) then ks.map (fun kv => if kv.1 = x then (kv.1, v) else kv) else ks ++ [(x, v)]
theorem isF_any {w : World} {Zb : Addr → Obj → Prop} {fz : Led} {ad : List Addr} {x : Str} : ∀ {a : List (Str × V)} {b : List (Str × Value)}, isF w Zb fz ad a b → b.any (fun kv => decide (kv.1 = x)) = a.any (fun kv => decide (kv.1 = x))
  | [], b, h => by subst h; rfl
  | (y, v) :: r, b, h => by obtain ⟨u, us, rfl, h1, h2⟩ := h; rw [List.any_cons, List.any_cons, isF_any h2]
theorem isF_map {w : World} {Zb : Addr → Obj → Prop} {fz : Led} {ad : List Addr} {x : Str} {v : V} {u : Value} (hv : isV w Zb fz ad v u) : ∀ {a : List (Str × V)} {b : List (Str × Value)}, isF w Zb fz ad a b → isF w Zb fz ad (a.map fun kv => if kv.1 = x then (kv.1, v) else kv) (b.map fun kv => if kv.1 = x then (kv.1, u) else kv)
  | [], b, h => by subst h; show isF w Zb fz ad [] []; rfl
  | (y, v') :: r, b, h => by
    refine oEEAA h fun u' us e92 h1 h2 => ?_
    subst e92
    rw [List.map_cons, List.map_cons]
    by_cases q : y = x
    · simp only [q, if_true]
      exact ⟨u, _, rfl, hv, by subst q; exact isF_map hv h2⟩
    · simp only [q, if_false]
      exact ⟨u', _, rfl, h1, isF_map hv h2⟩
theorem isF_stored {w : World} {Zb : Addr → Obj → Prop} {fz : Led} {ad : List Addr} {x : Str} {v : V} {u : Value} (hv : isV w Zb fz ad v u) {a : List (Str × V)} {b : List (Str × Value)} (h : isF w Zb fz ad a b) : isF w Zb fz ad (stV a x v) (stored b x u) := by
  unfold stV stored
  rw [isF_any h]
  split
  · exact isF_map hv h
  · exact isF_app h (by exact ⟨u, [], rfl, hv, by rfl⟩)
theorem isF_len {w : World} {Zb : Addr → Obj → Prop} {fz : Led} {ad : List Addr} : ∀ {a : List (Str × V)} {b : List (Str × Value)}, isF w Zb fz ad a b → b.length = a.length
  | [], b, h => by subst h; rfl
  | (y, v) :: r, b, h => by obtain ⟨u, us, rfl, h1, h2⟩ := h; rw [List.length_cons, List.length_cons, isF_len h2]
noncomputable def WS (c : Cx) (ov kv v : V) (σ : St) (P : St → Prop) : Prop :=
  ∀ s fz ml uo uk u (Q : Unit → Shared → Prop) E, Rel c σ fz ml s.heap → c.v fz ml ov uo → c.v fz ml kv uk → c.v fz ml v u → (∀ σ' fz' ml' h' tk', P σ' → σ'.loc = σ.loc → Ext fz ml fz' ml' → Rel c σ' fz' ml' h' → Q () (shr s h' tk')) → wpAny c.M c.A (setItem uo uk u) Q E s
theorem WS.dct {ks : List (Str × V)} (hm : ρm[i]? = some (.dct ks)) (hl : ks.length ≤ 16777216) {P : St → Prop} (h : P ⟨ρl, ρm.set i (.dct (stV ks x v))⟩) : WS c (.ptr i) (.str x) v ⟨ρl, ρm⟩ P :=
  fun s fz ml uo uk u Q E R ho hk hv kq => by
    refine oE (v_str hk) fun t e91 => ?_
    subst e91
    obtain ⟨ad, o, rfl, hml, hget, hg, kws, d, l⟩ := R.at hm ho
    refine wpAny_setItem_pairs (strKey _ _ _ _) (Heap.dictOf_iff.mpr ⟨o, hg, d⟩) (fun h' hd hs => ?_) (by rw [isF_len l, sizeLine_eq]; exact hl)
    refine oEA (Heap.dictOf_iff.mp hd) fun o' hg' d' => ?_
    refine oA (R.putBut (m' := .dct (stV ks x v)) hget hs hg' ⟨_, d', isF_stored hv l⟩) fun R2 x2 => ?_
    exact kq _ _ _ h' _ h rfl x2 R2
theorem W0.setItem {e o i : Expr} {pos' : Pos} (h : WE c e ⟨ρl, ρm⟩ fun v m => WE c o ⟨ρl, m⟩ fun ov m' => WE c i ⟨ρl, m'⟩ fun kv m'' => WS c ov kv v ⟨ρl, m''⟩ fun σ' => PX .nxt σ')
    (hsw : swapsWith e (some (Expr.Subscript o i pos')) pos.line c.env = pure false := by rfl) : W0 c (.Assign [.Subscript o i pos'] e pos) ⟨ρl, ρm⟩ PX :=
  fun hf s fz ml Q E R k kr => wpAny_Assign_Subscript (h s fz ml _ E R fun v m fz1 ml1 h1 tk1 u hv x1 R1 i1 => hv _ fz1 ml1 _ E R1 fun ov m' fz2 ml2 h2 tk2 uo hov x2 R2 i2 => hov _ fz2 ml2 _ E R2 fun kv m'' fz3 ml3 h3 tk3 uk hkv x3 R3 i3 =>
    hkv _ fz3 ml3 uo uk u _ E R3 (isVmono x3 i2) i3 (isVmono (x2.trans x3) i1) fun σ' fz4 ml4 h4 tk4 hp _ x4 R4 => k _ _ fz4 ml4 h4 tk4 _ hp (((x1.trans x2).trans x3).trans x4).n R4 (rfl : Flow.next = _)) hsw
theorem isI_val {w : World} {Zb : Addr → Obj → Prop} {fz : Led} {ad : List Addr} : ∀ {a : List (Int × V)} {b : List (Int × Value)} {x : Int}, isI w Zb fz ad a b → (∀ v, a.lookup x = some v → ∃ u, valueAt b x = some u ∧ isV w Zb fz ad v u) ∧ (a.lookup x = none → valueAt b x = none)
  | [], b, x, h => by subst h; exact ⟨fun v e => (nomatch e), fun _ => rfl⟩
  | (y, v') :: r, b, x, h => by
    refine oEEAA h fun u us e92 h1 h2 => ?_
    subst e92
    refine oA (isI_val (x := x) h2) fun k1 k2 => ?_
    unfold valueAt at k1 k2 ⊢
    rw [List.lookup_cons, List.find?_cons]
    by_cases q : x = y
    · subst q
      simp only [beq_self_eq_true, decide_true, Option.map_some]
      exact ⟨fun v e => by cases e; exact ⟨u, rfl, h1⟩, fun e => by cases e⟩
    · simp only [beq_false_of_ne q, show decide (y = x) = false from decide_eq_false (Ne.symm q)]
      exact ⟨k1, k2⟩
theorem isI_app {w : World} {Zb : Addr → Obj → Prop} {fz : Led} {ad : List Addr} : ∀ {a a' : List (Int × V)} {b b' : List (Int × Value)}, isI w Zb fz ad a b → isI w Zb fz ad a' b' → isI w Zb fz ad (a ++ a') (b ++ b')
  | [], a', b, b', h, k => by rw [show b = [] from h]; exact k
  | (x, v) :: r, a', b, b', h, k => by obtain ⟨u, us, rfl, h1, h2⟩ := h; exact ⟨u, _, rfl, h1, isI_app h2 k⟩
theorem isI_len {w : World} {Zb : Addr → Obj → Prop} {fz : Led} {ad : List Addr} : ∀ {a : List (Int × V)} {b : List (Int × Value)}, isI w Zb fz ad a b → b.length = a.length
  | [], b, h => by rw [show b = [] from h]; rfl
  | (y, v) :: r, b, h => by obtain ⟨u, us, rfl, h1, h2⟩ := h; rw [List.length_cons, List.length_cons, isI_len h2]
theorem isI_any {w : World} {Zb : Addr → Obj → Prop} {fz : Led} {ad : List Addr} {x : Int} : ∀ {a : List (Int × V)} {b : List (Int × Value)}, isI w Zb fz ad a b → b.any (fun kv => decide (kv.1 = x)) = a.any (fun kv => decide (kv.1 = x))
  | [], b, h => by rw [show b = [] from h]; rfl
  | (y, v) :: r, b, h => by obtain ⟨u, us, rfl, h1, h2⟩ := h; rw [List.any_cons, List.any_cons, isI_any h2]
theorem lookup_any {x : Int} : ∀ {a : List (Int × V)}, a.lookup x = none → a.any (fun kv => decide (kv.1 = x)) = false
  | [], _ => rfl
  | (y, v) :: r, h => by
    rw [List.lookup_cons] at h
    by_cases q : x = y
    · subst q; rw [beq_self_eq_true] at h; cases h
    · rw [beq_false_of_ne q] at h
      rw [List.any_cons, lookup_any h, show decide (y = x) = false from decide_eq_false (Ne.symm q)]; rfl
theorem DciAt.get {fz ml : Led} {h : Heap} {u : Value} {ks : List (Int × V)} (hm : ρm[i]? = some (.dci ks)) (R : Rel c ⟨ρl, ρm⟩ fz ml h) (hv : c.v fz ml (.ptr i) u) : ∃ a o kws, u = .ref a ∧ (a == sysModules) = false ∧ ml[i]? = some (a, o) ∧ h.DictOf (intKind thePr c.X.w) a kws ∧ isI c.X.w c.X.Zb fz (adr ml) ks kws := by
  refine hold fun _ hK9 => ?_
  obtain ⟨a, o, rfl, hml, hget, hg, kws, d, l⟩ := R.at hm hv
  refine hK9 ?_
  refine ⟨a, o, kws, rfl, ?_, hget, Heap.dictOf_iff.mpr ⟨o, hg, d⟩, l⟩
  have := R.hi (a, o) (List.mem_append_left _ (List.mem_append_left _ hml))
  exact beq_false_of_ne (Nat.ne_of_gt this)
theorem W2.in_i {ks : List (Int × V)} (hm : ρm[i]? = some (.dci ks)) (h : P (.bool (ks.lookup n).isSome) ρm) : W2 c (compareOp .In) (.int n) (.ptr i) ⟨ρl, ρm⟩ P :=
  fun s fz ml u u' Q E R hk hi K => by
    refine oE (v_int hk) fun t e91 => ?_
    subst e91
    refine oEEEAAAA (DciAt.get hm R hi) fun ad o kws e93 e1 hget hd l => ?_
    subst e93
    have e : (valueAt kws n).isSome = (ks.lookup n).isSome := by
      cases q : ks.lookup n with
      | none => rw [(isI_val l).2 q]; rfl
      | some v => obtain ⟨y, hy, _⟩ := (isI_val l).1 v q; rw [hy]; rfl
    exact wpAny_in_of (intKey _ _ _ _) e1 hd.mapOf (K _ _ fz ml s.heap _ _ h .rfl R (by rw [e]; exact mk_bool))
theorem WL.get_i {ks : List (Int × V)} {d : V} (hm : ρm[i]? = some (.dci ks)) (h : P ((ks.lookup n).getD d) ρm) : WL c (callV (.builtin "dict.get")) [.ptr i, .int n, d] ⟨ρl, ρm⟩ P :=
  fun s fz ml us Q E R hu K => by
    obtain ⟨u1, _, rfl, hi, hu⟩ := l_cons hu
    obtain ⟨u2, _, rfl, hk, hu⟩ := l_cons hu
    obtain ⟨u3, _, rfl, hj, hu⟩ := l_cons hu
    obtain rfl := l_nil hu
    refine oE (v_int hk) fun t e91 => ?_
    subst e91
    refine oEEEAAAA (DciAt.get hm R hi) fun ad o kws e93 e1 hget hd l => ?_
    subst e93
    have e : c.v fz ml ((ks.lookup n).getD d) ((valueAt kws n).getD u3) := by
      cases q : ks.lookup n with
      | none => rw [(isI_val l).2 q]; exact hj
      | some v => obtain ⟨y, hy, iy⟩ := (isI_val l).1 v q; rw [hy]; exact iy
    exact call_meetsIn F.slot_dict_get hd.typeIs F.entry_dict_get (F.args_dict_get_3 _ _ _) (meets_dict_get_default (intKind thePr c.X.w) ad (intKey _ _ _ _) e1 u3) ⟨_, hd.mapOf, K _ _ fz ml s.heap _ _ h .rfl R e⟩
theorem Meth.dci {ks : List (Int × V)} {id : String} (hm : σ.mem[i]? = some (.dci ks)) (slot : Slot "dict" name id) (hty : typeOf (.builtin id) = pure (.type "method_descriptor")) : Meth c (.ptr i) name (.builtin id) σ :=
  fun s fz ml u Q E pl R hi k => by
    refine hold fun _ hK9 => ?_
    refine oEEEAAAA (DciAt.get hm R hi) fun ad o kws e93 e1 hget hd l => ?_
    subst e93
    refine hK9 ?_
    exact getMethod_builtin hd.typeIs PySem.F.plainAttrs_dict slot hty hd.mapOf.noDict (k s.heap s.toks R)
theorem WS.dci {ks : List (Int × V)} (hm : ρm[i]? = some (.dci ks)) (hn : ks.lookup n = none) (hl : ks.length ≤ 16777216) {P : St → Prop} (h : P ⟨ρl, ρm.set i (.dci (ks ++ [(n, v)]))⟩) : WS c (.ptr i) (.int n) v ⟨ρl, ρm⟩ P :=
  fun s fz ml uo uk u Q E R ho hk hv kq => by
    refine oE (v_int hk) fun t e91 => ?_
    subst e91
    refine oEEEAAAA (DciAt.get hm R ho) fun ad o kws e93 e1 hget hd l => ?_
    subst e93
    refine wpAny_setItem_pairs (intKey _ _ _ _) hd (fun h' hd hs => ?_) (by rw [isI_len l, sizeLine_eq]; exact hl)
    have e : stored kws n u = kws ++ [(n, u)] := by
      unfold stored
      rw [isI_any l, lookup_any hn]
      rfl
    rw [e] at hd
    refine oEA (Heap.dictOf_iff.mp hd) fun o' hg' d' => ?_
    refine oA (R.putBut (m' := .dci (ks ++ [(n, v)])) hget hs hg' ⟨_, d', isI_app l ⟨u, [], rfl, hv, rfl⟩⟩) fun R2 x2 => ?_
    exact kq _ _ _ h' _ h rfl x2 R2
end
end Mine
end
section
open PySem PySem.W PyProof.Rows PySem.Spec PySem.Calls
namespace Mine
noncomputable def Has (loc l : List (Str × V)) : Prop := ∀ x v, l.lookup x = some v → loc.lookup x = some v
theorem Has.nil {loc : List (Str × V)} : Has loc [] := fun _ _ h => nomatch h
theorem Has.cons {loc l : List (Str × V)} {x : Str} {v : V} (h : loc.lookup x = some v) (k : Has loc l) : Has loc ((x, v) :: l) := fun y w e => by
  rw [List.lookup_cons] at e
  by_cases q : y = x
  · subst q; rw [beq_self_eq_true] at e; cases e; exact h
  · rw [beq_false_of_ne q] at e; exact k y w e
theorem Has.push {loc l : List (Str × V)} (h : Has loc l) : ∀ bs : List (Str × V), Has (bs ++ loc) (bs ++ l)
  | [] => h
  | (x, v) :: bs => fun y w e => by
    rw [List.cons_append, List.lookup_cons] at e ⊢
    by_cases q : y = x
    · subst q; rw [beq_self_eq_true] at e ⊢; exact e
    · rw [beq_false_of_ne q] at e ⊢; exact (Has.push h bs) y w e
section
variable {c : Cx} {σ : St} {ρl : List (Str × V)} {ρm : List M} {P : V → List M → Prop} {PX : Fl → St → Prop} {l1 l2 : List (Str × V)} {m : List M}
theorem Rel.has {fz ml : Led} {h : Heap} (R : Rel c ⟨l1, m⟩ fz ml h) (H : Has l1 l2) : Rel c ⟨l2, m⟩ fz ml h := by
  obtain ⟨mm, f, F, LA, lo⟩ := R.fr
  exact ⟨R.ok, ⟨mm, f, F, LA, fun x v hx => lo x v (H x v hx)⟩, R.news, R.nd, R.mem, R.cels, R.n0, R.hi⟩
theorem WX.loc {ss : List Stmt} (H : Has l1 l2) (h : WX c ss ⟨l2, m⟩ PX) : WX c ss ⟨l1, m⟩ PX :=
  fun hf s fz ml Q E R k kr => h hf s fz ml Q E (R.has H) k kr
inductive TgtB (c : Cx) : Expr → V → List (Str × V) → Prop
  | name {x : Str} {p : Pos} {v : V} (hx : c.sc.names.lookup x = some .local) : TgtB c (.Name x p) v [(x, v)]
  | tup {elts : List Expr} {k : Nat} {p : Pos} {xs : List Str} {ws : List V} (hn : nmsOf elts = some xs) (hx : ∀ x ∈ xs, c.sc.names.lookup x = some .local) (hl : ws.length = xs.length) : TgtB c (.Tuple elts k p) (.tup ws) (xs.zip ws).reverse
theorem TgtB.tgt {t : Expr} {v : V} {bs : List (Str × V)} (T : TgtB c t v bs) : Tgt c t v ⟨ρl, ρm⟩ ⟨bs ++ ρl, ρm⟩ := by
  cases T with
  | name hx => exact .name hx
  | tup hn hx hl => exact .tup hn hx hl
theorem W0.forL {target iter : Expr} {body : List Stmt} {pos : Pos} (J : List V → List (Str × V) → List M → Prop)
    (hiter : WE c iter ⟨ρl, ρm⟩ fun v m => ∃ items, Src v items ∧ oldL c.n0 items ∧ ∃ loc, Has ρl loc ∧ J items loc m)
    (turn : ∀ X' : Cb, X'.w = c.X.w → X'.lv = c.X.lv → ∀ x rest loc m, J (x :: rest) loc m → ∃ bs, TgtB c target x bs ∧ WX ⟨X', c.sc, c.cel, c.n0⟩ body ⟨bs ++ loc, m⟩ (TurnE (fun σ' => ∃ loc', Has σ'.loc loc' ∧ J rest loc' σ'.mem) PX))
    (done : ∀ loc' loc m, Has loc' loc → J [] loc m → PX .nxt ⟨loc', m⟩)
    (hs : ∀ x, foldedSetIterable iter c.env x = pure x := by intro _; rfl) : W0 c (.For target iter body [] pos) ⟨ρl, ρm⟩ PX :=
  W0.for_ (fun items σ' => ∃ loc, Has σ'.loc loc ∧ J items loc σ'.mem) (fun s fz ml Q E R k => hiter s fz ml Q E R fun v m fz1 ml1 h1 tk1 u hv x1 R1 i1 => k v m fz1 ml1 h1 tk1 u hv x1 R1 i1)
    (fun X' hw hlv x rest σ' ⟨loc, H, hJ⟩ => by
      refine oEA (turn X' hw hlv x rest loc σ'.mem hJ) fun bs T hb => ?_
      exact ⟨_, T.tgt, WX.loc (H.push bs) hb⟩)
    (fun σ' ⟨loc, H, hJ⟩ => done σ'.loc loc σ'.mem H hJ) hs
theorem W0.whileL {test : Expr} {body : List Stmt} {pos : Pos} (J : Nat → List (Str × V) → List M → Prop) (n : Nat) (h0 : ∃ loc, Has ρl loc ∧ J n loc ρm)
    (turn : ∀ n loc m, J n loc m → WT c test ⟨loc, m⟩ fun b m' => if b = true then WX c body ⟨loc, m'⟩ (TurnE (fun σ' => ∃ k, k < n ∧ ∃ loc', Has σ'.loc loc' ∧ J k loc' σ'.mem) PX) else PX .nxt ⟨loc, m'⟩) : W0 c (.While test body [] pos) ⟨ρl, ρm⟩ PX := by
  intro hf s fz ml Q E R k kr
  refine wpAny_While (codeAny_whileLoop (fun n' s' => ∃ σ' loc fz' ml' h tk, s' = shr s h tk ∧ Has σ'.loc loc ∧ J n' loc σ'.mem ∧ Rel c σ' fz' ml' h ∧ ExtN c fz ml fz' ml') ?_ n ?_)
  · intro n' s' q82
    obtain ⟨σ', loc, fz1, ml1, h, tk, rfl, H, hJ, R1, x1⟩ := q82
    refine turn n' loc σ'.mem hJ _ fz1 ml1 _ _ (Rel.has (l1 := σ'.loc) R1 H) ?_
    intro b m fz2 ml2 h2 tk2 hb x2 R2
    have x12 : ExtN c fz ml fz2 ml2 := x1.trans R.n0 x2.n
    cases b with
    | false => exact wpAny_execs_nil (k _ _ fz2 ml2 h2 tk2 _ hb x12 R2 (rfl : Flow.next = _))
    | true =>
      refine hb hf _ fz2 ml2 _ _ R2 ?_ fun σ5 fz5 ml5 h5 tk5 ur hp x5 R5 => R5.came hf fun h6 R6 => kr σ5 fz5 ml5 h6 tk5 ur hp (x12.trans R.n0 x5) R6
      intro fl σ5 fz5 ml5 h5 tk5 uf hp x5 R5 hfl
      have x15 := x12.trans R.n0 x5
      have again : (∃ k, k < n' ∧ ∃ loc', Has σ5.loc loc' ∧ J k loc' σ5.mem) → ∃ m, m < n' ∧ ∃ σ' loc fz' ml' h tk, shr s h5 tk5 = shr s h tk ∧ Has σ'.loc loc ∧ J m loc σ'.mem ∧ Rel c σ' fz' ml' h ∧ ExtN c fz ml fz' ml' := fun ⟨k, hk, loc', H', hJ'⟩ => ⟨k, hk, σ5, loc', fz5, ml5, h5, tk5, rfl, H', hJ', R5, x15⟩
      cases fl with
      | rai => exact hfl.elim
      | nxt => obtain rfl : uf = .next := hfl; exact again hp
      | cnt => obtain rfl : uf = .cont := hfl; exact again hp
      | brk => obtain rfl : uf = .brk := hfl; exact k _ _ fz5 ml5 h5 tk5 _ hp x15 R5 rfl
      | ret v => obtain ⟨u', rfl, hv'⟩ := hfl; exact k _ _ fz5 ml5 h5 tk5 _ hp x15 R5 ⟨u', rfl, hv'⟩
  · refine oEA h0 fun loc H hJ => ?_
    exact ⟨⟨ρl, ρm⟩, loc, fz, ml, s.heap, s.toks, rfl, H, hJ, R, .rfl⟩
theorem W0.callR {e : Expr} {rest : List Expr} {v : Value} {xp pos p2 : Pos} {x : Str} (e1 : nsIn (wrt.heap_1 c.X.w.params) mainGlobals x = some (some v)) (hkp : keepIn (wrt.heap_1 c.X.w.params) v = true) (h : WA c (e :: rest) ⟨ρl, ρm⟩ fun vs m => WR c (callV v) vs ⟨ρl, m⟩ (fun _ m => PX .nxt ⟨ρl, m⟩) (fun m => PX .rai ⟨ρl, m⟩))
    (hx : c.sc.names.lookup x = some .globalImplicit := by rfl) (hd : (x == ("__debug__" : Str)) = false := by rfl)
    (he : starEach (e :: rest) c.env = (false, eval e c.env) :: starEach rest c.env := by rfl) (hp : (List.any (backTo pos (starEach rest c.env)) fun x => x.fst) = false := by rfl)
    (hc : eval (.Call (.Name x xp) (e :: rest) [] pos) c.env = (do callWith pos (← eval (.Name x xp) c.env) [] (backTo pos (starEach (e :: rest) c.env)) (backToKw pos (keywordEach [] c.env))) := by rfl)
    (hs : swapsWith (.Call (.Name x xp) (e :: rest) [] pos) none p2.line c.env = pure false := by rfl) : W0 c (.Expr (.Call (.Name x xp) (e :: rest) [] pos) p2) ⟨ρl, ρm⟩ PX :=
  fun hf s fz ml Q E R k kr => wpAny_Expr_any (Call_ (WE.glo (P := fun f m => f = .glob v ∧ m = ρm) e1 ⟨rfl, rfl⟩ hx hd s fz ml _ E R fun f m fz1 ml1 h1 tk1 u hf1 x1 R1 i1 => by
    refine hold fun _ hK9 => ?_
    obtain ⟨rfl, rfl⟩ := hf1
    refine hK9 ?_
    obtain rfl := v_glob i1
    refine callWith_K R1.ok.kin hkp (h pos _ fz1 ml1 _ E R1 fun vs m' fz2 ml2 h2 tk2 us hvs x2 R2 i2 => ⟨R2.K, ?_⟩) he hp
    exact hvs _ fz2 ml2 us _ E R2 i2 (fun v' m3 fz3 ml3 h3 tk3 u3 p3 x3 R3 i3 => k _ _ fz3 ml3 h3 tk3 _ p3 ((x1.trans x2).trans x3).n R3 (rfl : Flow.next = _))
      (fun m3 fz3 ml3 h3 tk3 u3 p3 x3 R3 => kr _ fz3 ml3 h3 tk3 u3 p3 ((x1.trans x2).trans x3).n R3)) hc) (no_inter R) hs
end
end Mine
end
section
open PySem PySem.W PyProof.Rows PySem.Spec PySem.Calls
namespace Mine
noncomputable def romanTab : List (Int × Str) := [(1000, "M"), (900, "CM"), (500, "D"), (400, "CD"), (100, "C"), (90, "XC"), (50, "L"), (40, "XL"), (10, "X"), (9, "IX"), (5, "V"), (4, "IV"), (1, "I")]
noncomputable def romanGo : List (Int × Str) → Str → Int → Str
  | [], f, _ => f
  | (w, sg) :: r, f, l => romanGo r (f ++ Txt.mul sg (l / w)) (l % w)
@[irreducible] noncomputable def romanS (n : Int) : Str := romanGo romanTab "" n
@[irreducible] noncomputable def lettersS (n : Int) : Str := Txt.mul (Txt.item "ABCDEFGHIJKLMNOPQRSTUVWXYZ" ((n - 1) % 26)) ((n-1) / 26 + 1)
noncomputable def numC : List Str := ["", "C", "CC", "CCC", "CD", "D", "DC", "DCC", "DCCC", "CM"]
noncomputable def numX : List Str := ["", "X", "XX", "XXX", "XL", "L", "LX", "LXX", "LXXX", "XC"]
noncomputable def numI : List Str := ["", "I", "II", "III", "IV", "V", "VI", "VII", "VIII", "IX"]
@[irreducible] noncomputable def numeralS (n : Int) : Str := Txt.mul "M" (n / 1000) ++ numC.getD (n / 100 % 10).toNat Str.empty ++ numX.getD (n / 10 % 10).toNat Str.empty ++ numI.getD (n % 10).toNat Str.empty
noncomputable def styleList : List Str := ["D", "R", "r", "A", "a", ""]
@[irreducible] noncomputable def shownS (st : Str) (n : Int) : Str :=
  if st = "D" then Str.ofString (toString n) else if st = "R" then romanS n else if st = "r" then Txt.lower (romanS n) else if st = "A" then lettersS n else if st = "a" then Txt.lower (lettersS n) else ""
theorem mul_len (x : Str) (n : Int) (h0 : 0 ≤ n) : (Txt.mul x n).length = x.length * n.toNat := by
  have e := len_mul x n
  rw [if_neg (fun c => absurd (of_decide_eq_true c) (by lia))] at e
  have e2 : ((x.length * n.toNat : Nat) : Int) = (x.length : Int) * n := by rw [Int.natCast_mul, Int.toNat_of_nonneg h0]
  lia
theorem str_len_append (x y : Str) : (x ++ y).length = x.length + y.length := by
  rw [Str.length_append]
theorem romanGo_len : ∀ (tab : List (Int × Str)) (f : Str) (l B : Int), (∀ r ∈ tab, 0 < r.1 ∧ r.2.length ≤ 2) → 0 ≤ l → (f.length : Int) + 2 * l ≤ B → ((romanGo tab f l).length : Int) ≤ B
  | [], f, l, B, _, h0, hB => by
    show (f.length : Int) ≤ B
    lia
  | (w, sg) :: r, f, l, B, hr, h0, hB => by
    have h1 := hr _ (.head _)
    dsimp only at h1
    have hv : 0 ≤ l / w := Int.ediv_nonneg h0 (by lia)
    refine romanGo_len r _ _ B (fun q hq => hr q (.tail _ hq)) (Int.emod_nonneg _ (by lia)) ?_
    rw [str_len_append, mul_len _ _ hv]
    have e := Int.mul_ediv_add_emod l w
    have k : l / w ≤ w * (l / w) := by
      have := Int.mul_le_mul_of_nonneg_right (show (1 : Int) ≤ w by lia) hv
      lia
    have k2 : ((sg.length * (l / w).toNat : Nat) : Int) ≤ 2 * (l / w) := by
      have q : sg.length * (l / w).toNat ≤ 2 * (l / w).toNat := Nat.mul_le_mul_right _ h1.2
      have : ((l / w).toNat : Int) = l / w := Int.toNat_of_nonneg hv
      lia
    lia
theorem romanS_len (n : Int) (h0 : 1 ≤ n) (h : n ≤ 1000002) : (romanS n).length ≤ 3000 := by
  have key := romanGo_len romanTab.tail ("" ++ Txt.mul "M" (n / 1000)) (n % 1000) 3000 (by decide) (by lia) (by
    rw [str_len_append, mul_len _ _ (by lia)]
    have e1 : ("" : Str).length = 0 := rfl
    have e2 : ("M" : Str).length = 1 := rfl
    rw [e1, e2]
    lia)
  have : ((romanS n).length : Int) ≤ 3000 := by unfold romanS; exact key
  lia
theorem lettersS_len (n : Int) (h0 : 1 ≤ n) (h : n ≤ 1000002) : (lettersS n).length ≤ 40000 := by
  unfold lettersS
  rw [mul_len _ _ (by lia), len_item]
  lia
theorem digits_len (n : Int) (h0 : 0 ≤ n) (h : n ≤ 1000002) : (Str.ofString (toString n)).length ≤ 20 := by
  rw [PySem.ofString_length]
  exact Nat.le_trans (PySem.int_text_length_le10 (k := 7) (by decide) (by lia)) (by decide)
noncomputable def RInv (tab : List (Int × Str)) (x : Str) (total at' : Int) : Prop :=
  0 ≤ at' ∧ at' ≤ x.length ∧ 0 ≤ total ∧ total ≤ 1000 * at' ∧ ∀ m, 1 ≤ m → m ≤ 1000002 → x = romanS m → ∃ f l, ((f : Str).length : Int) = at' ∧ total = m - l ∧ 0 ≤ l ∧ (tab = [] → l = 0) ∧ romanGo tab f l = x
noncomputable def WInv (w : Int) (sg : Str) (rest : List (Int × Str)) (x : Str) (total at' : Int) : Prop :=
  0 ≤ at' ∧ at' ≤ x.length ∧ 0 ≤ total ∧ total ≤ 1000 * at' ∧ ∀ m, 1 ≤ m → m ≤ 1000002 → x = romanS m → ∃ f l k, 0 ≤ k ∧ k ≤ l / w ∧ ((f : Str).length : Int) + sg.length * k = at' ∧ total = m - l + w * k ∧ 0 ≤ l ∧ romanGo rest (f ++ Txt.mul sg (l / w)) (l % w) = x
theorem winv_start {w : Int} {sg : Str} {rest : List (Int × Str)} {x : Str} {t a : Int} (h : RInv ((w, sg) :: rest) x t a) (hw : 0 < w) : WInv w sg rest x t a := by
  obtain ⟨h1, h2, h3, h4, h5⟩ := h
  refine ⟨h1, h2, h3, h4, fun m m1 m2 e => ?_⟩
  obtain ⟨f, l, e1, e2, e3, _, e4⟩ := h5 m m1 m2 e
  exact ⟨f, l, 0, by lia, Int.ediv_nonneg e3 (by lia), by rw [Int.mul_zero]; lia, by rw [Int.mul_zero]; lia, e3, e4⟩
noncomputable def ReadOk (F : Int → Str) (x : Str) (o : Option Int) : Prop := (∀ m, 1 ≤ m → m ≤ 1000002 → x = F m → o = some m) ∧ (∀ n, o = some n → 1 ≤ n ∧ x = F n)
theorem rr_found {x : Str} {t a : Int} (h : RInv [] x t a) (e : (romanS t == x) = true) (h0 : 0 < t) : ReadOk romanS x (some t) := by
  have ex : romanS t = x := beq_iff_eq.mp e
  obtain ⟨_, _, _, _, h5⟩ := h
  refine ⟨fun m m1 m2 q => ?_, fun n q => ?_⟩
  · obtain ⟨f, l, _, e2, _, e3, _⟩ := h5 m m1 m2 q
    rw [e2, e3 rfl, Int.sub_zero]
  · cases q
    exact ⟨by lia, ex.symm⟩
theorem rr_none {x : Str} {t a : Int} (h : RInv [] x t a) (e : (romanS t == x) = false ∨ ¬ 0 < t) : ReadOk romanS x none := by
  obtain ⟨_, _, _, _, h5⟩ := h
  refine ⟨fun m m1 m2 q => ?_, fun n q => by cases q⟩
  exfalso
  obtain ⟨f, l, _, e2, _, e3, _⟩ := h5 m m1 m2 q
  have : t = m := by rw [e2, e3 rfl, Int.sub_zero]
  subst this
  rcases e with e | e
  · rw [← q] at e
    simp at e
  · lia
end Mine
end
section
open PySem PySem.Builtin PySem.Builtin.Str PySem.W PyProof.Rows PySem.Spec PySem.Calls
namespace Mine
noncomputable abbrev cl (x : Str) : List Nat := x.cps.toList
theorem str_ext {x y : Str} (h : cl x = cl y) : x = y := by
  cases x; cases y
  congr 1
  exact Array.ext' h
theorem cl_append (x y : Str) : cl (x ++ y) = cl x ++ cl y := by
  show (x ++ y).cps.toList = _
  rw [Str.cps_append, Array.toList_append]
theorem cl_len (x : Str) : (cl x).length = x.length := by simp [cl, Str.length]
theorem foldl_flat (c : List Nat) : ∀ (k : Nat) (acc : Array Nat), ((List.replicate k c.toArray).foldl (· ++ ·) acc).toList = acc.toList ++ (List.replicate k c).flatten
  | 0, acc => by simp
  | k + 1, acc => by
    rw [List.replicate_succ, List.foldl_cons, foldl_flat c k, List.replicate_succ, List.flatten_cons]
    simp
theorem cl_mul (x : Str) (n : Int) : cl (Txt.mul x n) = (List.replicate n.toNat (cl x)).flatten := by
  unfold Txt.mul
  split
  · rw [show n.toNat = 0 by lia]; rfl
  · split
    · rename_i h1 h2
      rcases Bool.or_eq_true_iff.mp h2 with h | h
      · have : n = 1 := beq_iff_eq.mp h
        subst this
        simp
      · have : x.length = 0 := beq_iff_eq.mp h
        have e : cl x = [] := List.eq_nil_of_length_eq_zero (by rw [cl_len]; exact this)
        rw [e]
        simp
    · have e := foldl_flat (cl x) n.toNat #[]
      simpa [cl] using e
theorem slice_over {x : Str} {a b : Int} (hb : (x.length : Int) ≤ b) : Txt.slice x (some a) (some b) = Txt.slice x (some a) (some x.length) := by
  have e : strSliceIndices (some a) (some b) 1 x.length = strSliceIndices (some a) (some (x.length : Int)) 1 x.length := by
    unfold strSliceIndices
    have h1 : ¬ b < 0 := by lia
    have h2 : ¬ (x.length : Int) < 0 := by lia
    simp [h1, h2, Int.min_eq_right hb]
  unfold Txt.slice
  rw [e]
theorem cl_slice {x : Str} {a : Int} {n : Nat} (h0 : 0 ≤ a) (ha : a ≤ x.length) : cl (Txt.slice x (some a) (some (a + n))) = ((cl x).drop a.toNat).take n := by
  have hl := cl_len x
  by_cases h : a + n ≤ x.length
  · have e := beq_iff_eq.mp (slice_closes (x := x) (i := a) (j := a + n) ⟨h0, by lia, by rw [hl]; exact h⟩)
    rw [e, show (a + n - a).toNat = n by lia]
  · rw [slice_over (by lia)]
    have e := beq_iff_eq.mp (slice_closes (x := x) (i := a) (j := x.length) ⟨h0, ha, by rw [hl]; exact Int.le_refl _⟩)
    rw [e]
    show List.take _ (List.drop _ _) = _
    rw [List.take_of_length_le (by rw [List.length_drop, hl]; lia), List.take_of_length_le (by rw [List.length_drop, hl]; lia)]
theorem slice_is {x sg : Str} {a : Int} (h0 : 0 ≤ a) (ha : a ≤ x.length) : (Txt.slice x (some a) (some (a + sg.length)) == sg) = decide (((cl x).drop a.toNat).take sg.length = cl sg) := by
  have e := cl_slice (x := x) (n := sg.length) h0 ha
  by_cases h : ((cl x).drop a.toNat).take sg.length = cl sg
  · rw [decide_eq_true h]
    exact beq_iff_eq.mpr (str_ext (e.trans h))
  · rw [decide_eq_false h]
    apply Bool.eq_false_iff.mpr
    intro q
    exact h (e.symm.trans (congrArg cl (beq_iff_eq.mp q)))
noncomputable def rgL : List (Int × Str) → Int → List Nat
  | [], _ => []
  | (w, sg) :: r, l => (List.replicate (l / w).toNat (cl sg)).flatten ++ rgL r (l % w)
theorem cl_romanGo : ∀ (tab : List (Int × Str)) (f : Str) (l : Int), cl (romanGo tab f l) = cl f ++ rgL tab l
  | [], f, l => by simp [romanGo, rgL]
  | (w, sg) :: r, f, l => by
    rw [romanGo, cl_romanGo r, cl_append, cl_mul, rgL, List.append_assoc]
noncomputable def rgN : List (Nat × List Nat) → Nat → List Nat
  | [], _ => []
  | (w, sg) :: r, l => (List.replicate (l / w) sg).flatten ++ rgN r (l % w)
theorem rgL_nat : ∀ (tab : List (Int × Str)) (l : Nat), (∀ r ∈ tab, 0 < r.1) → rgL tab l = rgN (tab.map fun r => (r.1.toNat, cl r.2)) l
  | [], _, _ => rfl
  | (w, sg) :: r, l, h => by
    have hw : 0 < w := h _ (.head _)
    obtain ⟨n, rfl⟩ := Int.eq_ofNat_of_zero_le (Int.le_of_lt hw)
    show _ ++ rgL r _ = _ ++ rgN _ _
    rw [show ((l : Int) % (n : Int)) = ((l % n : Nat) : Int) from (Int.natCast_emod l n).symm, rgL_nat r _ fun q hq => h q (.tail _ hq)]
    rw [show ((l : Int) / (n : Int)) = ((l / n : Nat) : Int) from (Int.natCast_ediv l n).symm]
    rfl
noncomputable def sufOk : List (Nat × List Nat) → Bool
  | [] => true
  | (w, sg) :: r => (decide (0 < sg.length) && decide (w ≤ 1000) && decide (r = [] → w = 1) && (List.range w).all fun l => decide ((rgN r l).take sg.length ≠ sg)) && sufOk r
theorem suf_all : sufOk (romanTab.map fun r => (r.1.toNat, cl r.2)) = true := by decide +kernel
theorem sufOk_suf : ∀ {l t : List (Nat × List Nat)}, sufOk l = true → t <:+ l → sufOk t = true
  | [], t, _, h => by
    obtain ⟨u, e⟩ := h
    have := (List.append_eq_nil_iff.mp e).2
    rw [this]; rfl
  | x :: r, t, h, hs => by
    rcases List.suffix_cons_iff.mp hs with e | e
    · rw [e]; exact h
    · refine sufOk_suf ?_ e
      obtain ⟨w, sg⟩ := x
      unfold sufOk at h
      exact (Bool.and_eq_true_iff.mp h).2
theorem pos_all : ∀ r ∈ romanTab, 0 < r.1 := by decide
theorem row_facts {w : Int} {sg : Str} {rest : List (Int × Str)} (hr : ((w, sg) :: rest) <:+ romanTab) :
    0 < w ∧ w ≤ 1000 ∧ 0 < sg.length ∧ (rest = [] → w = 1) ∧ ∀ l : Int, 0 ≤ l → l < w → (rgL rest l).take sg.length ≠ cl sg := by
  have hmem : (w, sg) ∈ romanTab := hr.subset (.head _)
  have hpos : ∀ r ∈ rest, 0 < r.1 := fun r h => pos_all r (hr.subset (.tail _ h))
  have hw : 0 < w := pos_all _ hmem
  have hs : ((w, sg) :: rest).map (fun r => (r.1.toNat, cl r.2)) <:+ romanTab.map fun r => (r.1.toNat, cl r.2) := by
    obtain ⟨u, e⟩ := hr
    exact ⟨u.map fun r => (r.1.toNat, cl r.2), by rw [← List.map_append, e]⟩
  have h := sufOk_suf suf_all hs
  rw [List.map_cons] at h
  unfold sufOk at h
  simp only [Bool.and_eq_true, decide_eq_true_eq, List.all_eq_true, List.mem_range] at h
  obtain ⟨⟨⟨⟨h1, h2⟩, h3⟩, h4⟩, _⟩ := h
  rw [cl_len] at h1
  refine ⟨hw, by lia, h1, fun e => ?_, fun l l0 l1 => ?_⟩
  · have := h3 (by rw [e]; rfl)
    lia
  · obtain ⟨n, rfl⟩ := Int.eq_ofNat_of_zero_le l0
    have := h4 n (by lia)
    rw [cl_len] at this
    rw [rgL_nat rest n hpos]
    exact this
theorem flat_len (k : Nat) (c : List Nat) : (List.replicate k c).flatten.length = k * c.length := by simp
theorem drop_flat (j k : Nat) (c t : List Nat) (h : j ≤ k) : ((List.replicate k c).flatten ++ t).drop (c.length * j) = (List.replicate (k - j) c).flatten ++ t := by
  obtain ⟨d, rfl⟩ := Nat.exists_eq_add_of_le h
  rw [← List.replicate_append_replicate, List.flatten_append, List.append_assoc]
  rw [List.drop_append_of_le_length (by rw [flat_len, Nat.mul_comm]; exact Nat.le_refl _)]
  rw [List.drop_of_length_le (by rw [flat_len, Nat.mul_comm]; exact Nat.le_refl _), List.nil_append, Nat.add_sub_cancel_left]
theorem behind {w : Int} {sg f x : Str} {rest : List (Int × Str)} {l k a : Int} (hk : 0 ≤ k) (hkl : k ≤ l / w) (ha : (f.length : Int) + sg.length * k = a) (e : romanGo rest (f ++ Txt.mul sg (l / w)) (l % w) = x) :
    (cl x).drop a.toNat = (List.replicate (l / w - k).toNat (cl sg)).flatten ++ rgL rest (l % w) := by
  rw [← e, cl_romanGo, cl_append, cl_mul, List.append_assoc]
  obtain ⟨k, rfl⟩ := Int.eq_ofNat_of_zero_le hk
  obtain ⟨q, hq⟩ := Int.eq_ofNat_of_zero_le (Int.le_trans hk hkl)
  rw [hq] at hkl ⊢
  have e1 : a.toNat = (cl f).length + (cl sg).length * k := by
    rw [← ha, cl_len, cl_len]
    rfl
  rw [e1, ← List.drop_drop, List.drop_left, Int.toNat_natCast, drop_flat _ _ _ _ (Int.ofNat_le.mp hkl), Int.toNat_sub]
theorem winv_more {w : Int} {sg : Str} {rest : List (Int × Str)} {x : Str} {t a : Int} (h : WInv w sg rest x t a) (hr : ((w, sg) :: rest) <:+ romanTab) (e : (Txt.slice x (some a) (some (a + sg.length)) == sg) = true) : WInv w sg rest x (t + w) (a + sg.length) ∧ 0 < sg.length := by
  obtain ⟨w0, w1, s0, _, ns⟩ := row_facts hr
  obtain ⟨h1, h2, h3, h4, h5⟩ := h
  rw [slice_is h1 h2] at e
  have e := of_decide_eq_true e
  have el := congrArg List.length e
  rw [List.length_take, List.length_drop, cl_len, cl_len] at el
  refine ⟨⟨by lia, by lia, by lia, by lia, fun m m1 m2 q => ?_⟩, s0⟩
  obtain ⟨f, l, k, k0, k1, e1, e2, e3, e4⟩ := h5 m m1 m2 q
  have bh := behind k0 k1 e1 e4
  have hne : k ≠ l / w := by
    rintro rfl
    rw [bh, Int.sub_self] at e
    exact ns _ (Int.emod_nonneg _ (by lia)) (Int.emod_lt_of_pos _ w0) e
  exact ⟨f, l, k + 1, by lia, by lia, by rw [Int.mul_add, Int.mul_one]; lia, by rw [Int.mul_add, Int.mul_one]; lia, e3, e4⟩
theorem winv_done {w : Int} {sg : Str} {rest : List (Int × Str)} {x : Str} {t a : Int} (h : WInv w sg rest x t a) (hr : ((w, sg) :: rest) <:+ romanTab) (e : (Txt.slice x (some a) (some (a + sg.length)) == sg) = false) : RInv rest x t a := by
  obtain ⟨w0, w1, s0, hnil, ns⟩ := row_facts hr
  obtain ⟨h1, h2, h3, h4, h5⟩ := h
  rw [slice_is h1 h2] at e
  have e := of_decide_eq_false e
  refine ⟨h1, h2, h3, h4, fun m m1 m2 q => ?_⟩
  obtain ⟨f, l, k, k0, k1, e1, e2, e3, e4⟩ := h5 m m1 m2 q
  have bh := behind k0 k1 e1 e4
  have heq : k = l / w := by
    refine Classical.byContradiction fun hne => e ?_
    obtain ⟨d, hd⟩ : ∃ d : Nat, (l / w - k).toNat = d + 1 := ⟨(l / w - k).toNat - 1, by lia⟩
    rw [bh, hd, List.replicate_succ, List.flatten_cons, List.append_assoc, ← cl_len sg, List.take_left]
  subst heq
  refine ⟨f ++ Txt.mul sg (l / w), l % w, ?_, ?_, Int.emod_nonneg _ (by lia), fun z => ?_, e4⟩
  · rw [str_len_append, mul_len _ _ k0]
    have : ((sg.length * (l / w).toNat : Nat) : Int) = sg.length * (l / w) := by rw [Int.natCast_mul, Int.toNat_of_nonneg k0]
    lia
  · have := Int.mul_ediv_add_emod l w
    lia
  · rw [hnil z]; lia
end Mine
end
section
open PySem PySem.Builtin PySem.Builtin.Str PySem.W PyProof.Rows PySem.Spec PySem.Calls
namespace Mine
noncomputable abbrev AL : Str := "ABCDEFGHIJKLMNOPQRSTUVWXYZ"
noncomputable def one (c : Nat) : Str := ⟨#[c]⟩
theorem al_item : ∀ j : Fin 26, Txt.item AL ((j.val : Nat) : Int) = one (65 + j.val) := by decide +kernel
theorem al_find : ∀ j : Fin 26, Txt.find AL (one (65 + j.val)) = ((j.val : Nat) : Int) := by decide +kernel
theorem al_mem : ∀ c ∈ cl AL, ∃ j : Fin 26, c = 65 + j.val := by decide +kernel
theorem al_in : ∀ j : Fin 26, (65 + j.val) ∈ cl AL := by decide +kernel
theorem al_occ (c : Nat) : (occurrences AL (one c) 0 AL.length 1).isEmpty = !decide (c ∈ cl AL) := by
  have := StrLaws.found_one AL c
  rw [← this, Bool.not_not]
  rfl
theorem item0 {x : Str} {c : Nat} {r : List Nat} (h : cl x = c :: r) : Txt.item x 0 = one c := by
  obtain ⟨⟨l⟩⟩ := x
  cases h
  simp [Txt.item, Txt.charAt, seqIndex?, one, Str.length]
theorem letters_facts {x : Str} {m : Int} (h1 : 1 ≤ m) (e : x = lettersS m) :
    (x == "") = false ∧ (occurrences AL (Txt.item x 0) 0 AL.length 1).isEmpty = false ∧ (x != Txt.mul (Txt.item x 0) ↑x.length) = false ∧ Txt.find AL (Txt.item x 0) + 1 + 26 * ((x.length : Int) - 1) = m := by
  unfold lettersS at e
  obtain ⟨j, hj⟩ : ∃ j : Fin 26, (m - 1) % 26 = ((j.val : Nat) : Int) := ⟨⟨((m - 1) % 26).toNat, by lia⟩, by show _ = (((m - 1) % 26).toNat : Int); lia⟩
  obtain ⟨k, hk⟩ : ∃ k : Nat, (m - 1) / 26 = (k : Int) := ⟨((m - 1) / 26).toNat, by lia⟩
  have hi := al_item j
  rw [hj, hi, hk] at e
  have hc : cl x = List.replicate (k + 1) (65 + j.val) := by
    rw [e, cl_mul, show ((k : Int) + 1).toNat = k + 1 by lia]
    show (List.replicate (k + 1) [65 + j.val]).flatten = _
    simp
  have hl : x.length = k + 1 := by rw [← cl_len, hc, List.length_replicate]
  have h0 : Txt.item x 0 = one (65 + j.val) := item0 (hc.trans List.replicate_succ)
  rw [h0, al_occ, al_find j]
  refine ⟨?_, ?_, ?_, ?_⟩
  · apply Bool.eq_false_iff.mpr
    intro q
    have := beq_iff_eq.mp q
    rw [this] at hl
    exact absurd hl (by show ¬ (0 = k + 1); lia)
  · rw [decide_eq_true (al_in j)]; rfl
  · rw [hl]
    have : x = Txt.mul (one (65 + j.val)) ((k + 1 : Nat) : Int) := by rw [e]; rfl
    rw [← this]
    simp
  · rw [hl]
    have : m - 1 = 26 * (k : Int) + j.val := by lia
    lia
theorem letters_found {x : Str} (h1 : (occurrences AL (Txt.item x 0) 0 AL.length 1).isEmpty = false) (h2 : (x != Txt.mul (Txt.item x 0) ↑x.length) = false) (h3 : 1 ≤ x.length) : ReadOk lettersS x (some (Txt.find AL (Txt.item x 0) + 1 + 26 * ((x.length : Int) - 1))) := by
  refine ⟨fun m m1 _ e => by rw [(letters_facts m1 e).2.2.2], fun n e => ?_⟩
  have en := Option.some.inj e
  have hx : x = Txt.mul (Txt.item x 0) x.length := by simpa using h2
  obtain ⟨c, r, hc⟩ : ∃ c r, cl x = c :: r := by
    cases q : cl x with
    | nil => rw [← cl_len, q] at h3; exact absurd h3 (by decide)
    | cons c r => exact ⟨c, r, rfl⟩
  have h0 := item0 hc
  rw [h0] at h1 hx en
  rw [al_occ] at h1
  obtain ⟨j, rfl⟩ := al_mem c (by simpa using h1)
  rw [al_find j] at en
  have hj := j.isLt
  refine ⟨by omega, ?_⟩
  unfold lettersS
  rw [show (n - 1) % 26 = ((j.val : Nat) : Int) by omega, show (n - 1) / 26 + 1 = (x.length : Int) by omega, show Txt.item "ABCDEFGHIJKLMNOPQRSTUVWXYZ" ((j.val : Nat) : Int) = _ from al_item j]
  exact hx
theorem letters_none {x : Str} (h : (x == "") = true ∨ (occurrences AL (Txt.item x 0) 0 AL.length 1).isEmpty = true ∨ (x != Txt.mul (Txt.item x 0) ↑x.length) = true) : ReadOk lettersS x none := by
  refine ⟨fun m m1 _ e => ?_, fun n e => by cases e⟩
  obtain ⟨a, b, c, _⟩ := letters_facts m1 e
  rcases h with h | h | h
  · rw [a] at h; cases h
  · rw [b] at h; cases h
  · rw [c] at h; cases h
end Mine
end
section
open PySem PySem.Builtin PySem.Builtin.Str PySem.W PyProof.Rows PySem.Spec PySem.Calls
namespace Mine
noncomputable def notFig (z : Str) : Bool := (Builtin.Str.occurrences "0123456789" z 0 ("0123456789" : Str).length 1).isEmpty
noncomputable def AscS (x : Str) : Prop := ∀ c ∈ cl x, c < 128
theorem asc_ok {x : Str} (h : AscS x) : PyData.strOk x = true := by
  unfold PyData.strOk
  rw [← Array.all_toList, List.all_eq_true]
  intro c hc
  have := h c hc
  exact decide_eq_true (by lia)
theorem lay_strs : ∀ ns : List Str, (∀ x ∈ ns, AscS x) → PyData.canLayAll0 (ns.map PyData.str) = true
  | [], _ => rfl
  | a :: r, h => by simp [PyData.canLayAll0, PyData.canLay0, lay_strs r fun x hx => h x (.tail _ hx), asc_ok (h a (.head _))]
theorem depth_strs : ∀ ns : List Str, PyData.depthAll (ns.map PyData.str) = 0
  | [] => rfl
  | _ :: r => by simp [PyData.depthAll, PyData.depth, depth_strs r]
theorem shaped_strs (ns : List Str) (h : ∀ x ∈ ns, AscS x) : SeqAt.shaped (.list (ns.map PyData.str)) = true := by
  simp [SeqAt.shaped, PyData.canLay0, PyData.depth, lay_strs ns h, depth_strs]
theorem asc_signs {x : Str} (h : AscS x) : ∀ z ∈ (signs x).filter notFig, AscS z := fun z hz c hc => by
  have h1 := (List.mem_filter.mp hz).1
  obtain ⟨n, hn, rfl⟩ := List.mem_map.mp h1
  have : c = n := by simpa [cl] using hc
  subst this
  exact h c hn
noncomputable abbrev FIG : Str := "0123456789"
theorem fig_mem : ∀ c, c ∈ cl FIG ↔ 48 ≤ c ∧ c ≤ 57 := by
  have h : cl FIG = List.range' 48 10 := by decide +kernel
  intro c
  rw [h, List.mem_range'_1]
  exact and_congr_right fun _ => Nat.lt_succ_iff
theorem notFig_one (c : Nat) : notFig ⟨#[c]⟩ = !decide (c ∈ cl FIG) := by
  have := StrLaws.found_one FIG c
  unfold notFig
  rw [← this, Bool.not_not]
theorem all_fig (x : Str) : (signs x).filter notFig = [] ↔ ∀ c ∈ cl x, 48 ≤ c ∧ c ≤ 57 := by
  rw [List.filter_eq_nil_iff]
  constructor
  · intro h c hc
    have := h ⟨#[c]⟩ (List.mem_map.mpr ⟨c, hc, rfl⟩)
    rw [notFig_one] at this
    exact (fig_mem c).mp (by simpa using this)
  · intro h z hz
    obtain ⟨c, hc, rfl⟩ := List.mem_map.mp hz
    rw [notFig_one]
    simpa using (fig_mem c).mpr (h c hc)
theorem dig_char : ∀ d : Nat, d < 10 → (Nat.digitChar d).toNat = d + 48 := by decide
theorem toDigits_step (m : Nat) (h : 10 ≤ m) : Nat.toDigits 10 m = Nat.toDigits 10 (m / 10) ++ Nat.toDigits 10 (m % 10) := by
  have t := Nat.toDigits_append_toDigits (b := 10) (n := m / 10) (d := m % 10) (by decide) (by lia) (Nat.mod_lt m (by decide))
  rw [Nat.div_add_mod] at t
  exact t.symm
theorem digits_head (m : Nat) (h : 1 ≤ m) : ∃ c r, (Nat.toDigits 10 m).map Char.toNat = c :: r ∧ c ≠ 48 := by
  induction m using Nat.strongRecOn with
  | _ m ih =>
    by_cases hm : m < 10
    · rw [Nat.toDigits_of_lt_base hm]
      exact ⟨_, [], rfl, by rw [dig_char m hm]; lia⟩
    · obtain ⟨c, r, e, hc⟩ := ih (m / 10) (by lia) (by lia)
      rw [toDigits_step m (by lia), List.map_append, e]
      exact ⟨c, _, rfl, hc⟩
theorem digits_of : ∀ (n : Nat) (l : List Nat), l.length = n → l ≠ [] → (∀ c ∈ l, 48 ≤ c ∧ c ≤ 57) → l.head? ≠ some 48 → 1 ≤ NumText.digitsVal l ∧ (Nat.toDigits 10 (NumText.digitsVal l)).map Char.toNat = l
  | 0, l, hn, h, _, _ => absurd (List.eq_nil_of_length_eq_zero hn) h
  | n + 1, l, hn, h, hd, h0 => by
    obtain ⟨i, d, rfl⟩ : ∃ i d, l = i ++ [d] := ⟨l.dropLast, l.getLast h, (List.dropLast_concat_getLast h).symm⟩
    have hd' := hd d (by simp)
    rw [NumText.digitsVal_snoc]
    by_cases hi : i = []
    · subst hi
      have : d ≠ 48 := by simpa using h0
      show 1 ≤ 0 * 10 + (d - 48) ∧ (Nat.toDigits 10 (0 * 10 + (d - 48))).map Char.toNat = [d]
      rw [Nat.zero_mul, Nat.zero_add, Nat.toDigits_of_lt_base (by lia)]
      refine ⟨by lia, ?_⟩
      rw [List.map_cons, dig_char _ (by lia)]
      simp
      lia
    · have hl : i.length = n := by simpa using hn
      have hh : i.head? ≠ some 48 := by
        cases i with
        | nil => exact absurd rfl hi
        | cons c r => simpa using h0
      obtain ⟨k1, k2⟩ := digits_of n i hl hi (fun c hc => hd c (by simp [hc])) hh
      refine ⟨by lia, ?_⟩
      rw [toDigits_step _ (by lia), show (NumText.digitsVal i * 10 + (d - 48)) / 10 = NumText.digitsVal i by lia, show (NumText.digitsVal i * 10 + (d - 48)) % 10 = d - 48 by lia, List.map_append, k2, Nat.toDigits_of_lt_base (by lia)]
      rw [List.map_cons, dig_char _ (by lia)]
      congr 1
      simp
      lia
noncomputable def figS (n : Int) : Str := Str.ofString (toString n)
theorem fig_facts {x : Str} {m : Int} (h1 : 1 ≤ m) (h2 : m ≤ 1000002) (e : x = figS m) : (x == "") = false ∧ (Txt.item x 0 == "0") = false ∧ ¬ 20 < (x.length : Int) ∧ (signs x).filter notFig = [] ∧ PySem.intText? x = some m := by
  obtain ⟨k, rfl⟩ := Int.eq_ofNat_of_zero_le (show 0 ≤ m by lia)
  have hc : cl x = (Nat.toDigits 10 k).map Char.toNat := by rw [e]; exact KIN.signs_num k
  obtain ⟨c, r, hcr, h48⟩ := digits_head k (by lia)
  have hl := digits_len (k : Int) (by lia) h2
  have hx : x.length ≤ 20 := by rw [e]; exact hl
  refine ⟨?_, ?_, by lia, ?_, ?_⟩
  · apply Bool.eq_false_iff.mpr
    intro q
    have := beq_iff_eq.mp q
    rw [this] at hc
    rw [hcr] at hc
    cases hc
  · rw [item0 (hc.trans hcr)]
    apply Bool.eq_false_iff.mpr
    intro q
    have := congrArg cl (beq_iff_eq.mp q)
    have : c = 48 := by
      have z : cl ("0" : Str) = [48] := by decide +kernel
      rw [z] at this
      exact (List.cons.inj this).1
    exact h48 this
  · rw [all_fig]
    intro d hd
    rw [hc] at hd
    obtain ⟨ch, hch, rfl⟩ := List.mem_map.mp hd
    exact digit_range (Nat.isDigit_of_mem_toDigits (by decide) (by decide) hch)
  · rw [e]
    exact KIN.num_reads (by lia) (by lia)
theorem fig_found {x : Str} (h1 : (x == "") = false) (h2 : (Txt.item x 0 == "0") = false) (h3 : ¬ 20 < (x.length : Int)) (h4 : (signs x).filter notFig = []) : ∃ n, PySem.intText? x = some n ∧ ReadOk figS x (some n) := by
  have hd := (all_fig x).mp h4
  have hne : cl x ≠ [] := fun q => by
    have : x = "" := str_ext (q.trans (by decide +kernel))
    rw [this] at h1
    simp at h1
  obtain ⟨c, r, hc⟩ : ∃ c r, cl x = c :: r := by
    cases q : cl x with
    | nil => exact absurd q hne
    | cons c r => exact ⟨c, r, rfl⟩
  have h0 : (cl x).head? ≠ some 48 := by
    rw [hc]
    intro q
    have : c = 48 := by simpa using q
    subst this
    rw [item0 hc] at h2
    have : (one 48 == ("0" : Str)) = true := by decide +kernel
    rw [this] at h2
    cases h2
  obtain ⟨k1, k2⟩ := digits_of _ (cl x) rfl hne hd h0
  have hi := intText_digits (x := x) hd hne (by lia)
  refine ⟨_, hi, fun m m1 m2 e => ?_, fun n e => ?_⟩
  · have := (fig_facts m1 m2 e).2.2.2.2
    rw [hi] at this
    exact this
  · cases e
    refine ⟨(by show (1 : Int) ≤ ((NumText.digitsVal (cl x) : Nat) : Int); lia), str_ext ?_⟩
    exact k2.symm.trans (KIN.signs_num _).symm
theorem fig_none {x : Str} (h : (x == "") = true ∨ (Txt.item x 0 == "0") = true ∨ 20 < (x.length : Int) ∨ ¬ (signs x).filter notFig = []) : ReadOk figS x none := by
  refine ⟨fun m m1 m2 e => ?_, fun n e => by cases e⟩
  obtain ⟨a, b, c, d, _⟩ := fig_facts m1 m2 e
  rcases h with h | h | h | h
  · rw [a] at h; cases h
  · rw [b] at h; cases h
  · exact absurd h c
  · exact absurd d h
end Mine
end
section
open PySem PySem.Builtin PySem.Builtin.Str PySem.W PyProof.Rows PySem.Spec PySem.Calls
namespace Mine
noncomputable def UpS (x : Str) : Prop := ∀ c ∈ cl x, 65 ≤ c ∧ c ≤ 90
theorem up_asc {x : Str} (h : UpS x) : AscS x := fun c hc => by have := h c hc; lia
theorem rgL_mem : ∀ (tab : List (Int × Str)) (l : Int), ∀ c ∈ rgL tab l, ∃ r ∈ tab, c ∈ cl r.2
  | [], _, c, h => nomatch h
  | (w, sg) :: r, l, c, h => by
    rcases List.mem_append.mp h with h | h
    · obtain ⟨z, hz, hc⟩ := List.mem_flatten.mp h
      rw [List.eq_of_mem_replicate hz] at hc
      exact ⟨_, .head _, hc⟩
    · obtain ⟨q, hq, hc⟩ := rgL_mem r _ c h
      exact ⟨q, .tail _ hq, hc⟩
theorem roman_up (n : Int) : UpS (romanS n) := fun c hc => by
  unfold romanS at hc
  rw [cl_romanGo] at hc
  rcases List.mem_append.mp hc with h | h
  · exact absurd h (by have : cl ("" : Str) = [] := rfl; rw [this]; exact fun h => nomatch h)
  · obtain ⟨r, hr, h⟩ := rgL_mem _ _ c h
    have : ∀ r ∈ romanTab, ∀ c ∈ cl r.2, 65 ≤ c ∧ c ≤ 90 := by decide +kernel
    exact this r hr c h
theorem letters_up (n : Int) : UpS (lettersS n) := fun c hc => by
  unfold lettersS at hc
  rw [cl_mul] at hc
  obtain ⟨z, hz, hc⟩ := List.mem_flatten.mp hc
  rw [List.eq_of_mem_replicate hz] at hc
  obtain ⟨j, hj⟩ : ∃ j : Fin 26, (n - 1) % 26 = ((j.val : Nat) : Int) := ⟨⟨((n - 1) % 26).toNat, by lia⟩, by show _ = (((n - 1) % 26).toNat : Int); lia⟩
  rw [hj, show Txt.item "ABCDEFGHIJKLMNOPQRSTUVWXYZ" ((j.val : Nat) : Int) = _ from al_item j] at hc
  have : c = 65 + j.val := by simpa [cl, one] using hc
  have := j.isLt
  lia
theorem cl_lower {x : Str} (h : AscS x) : cl (Txt.lower x) = (cl x).map lo1 := by
  rw [lower_ascii h]
  simp [cl]
theorem cl_upper {x : Str} (h : AscS x) : cl (Txt.upper x) = (cl x).map up1 := by
  rw [upper_ascii h]
  simp [cl]
theorem lo1_asc : ∀ c, c < 128 → lo1 c < 128 := by decide
theorem up_lo : ∀ c, c < 91 → 65 ≤ c → up1 (lo1 c) = c := by decide
theorem lower_asc {x : Str} (h : AscS x) : AscS (Txt.lower x) := fun c hc => by
  rw [cl_lower h] at hc
  obtain ⟨d, hd, rfl⟩ := List.mem_map.mp hc
  exact lo1_asc d (h d hd)
theorem upper_lower {x : Str} (h : UpS x) : Txt.upper (Txt.lower x) = x := by
  apply str_ext
  rw [cl_upper (lower_asc (up_asc h)), cl_lower (up_asc h), List.map_map]
  conv => rhs; rw [← List.map_id (cl x)]
  refine List.map_congr_left fun c hc => ?_
  have := h c hc
  exact up_lo c (by lia) (by lia)
theorem lower_len {x : Str} (h : AscS x) : (Txt.lower x).length = x.length := by
  rw [← cl_len, cl_lower h, List.length_map, cl_len]
theorem digits_asc (n : Int) (h0 : 0 ≤ n) : AscS (Str.ofString (toString n)) := fun c hc => by
  obtain ⟨k, rfl⟩ := Int.eq_ofNat_of_zero_le h0
  have e : cl (Str.ofString (toString ((k : Nat) : Int))) = _ := KIN.signs_num k
  rw [e] at hc
  obtain ⟨ch, hch, rfl⟩ := List.mem_map.mp hc
  have := digit_range (Nat.isDigit_of_mem_toDigits (by decide) (by decide) hch)
  lia
theorem shown_asc (st : Str) (n : Int) (h0 : 1 ≤ n) : AscS (shownS st n) := by
  unfold shownS
  repeat' split
  · exact digits_asc n (by lia)
  · exact up_asc (roman_up n)
  · exact lower_asc (up_asc (roman_up n))
  · exact up_asc (letters_up n)
  · exact lower_asc (up_asc (letters_up n))
  · intro c hc
    exact absurd hc (by have : cl ("" : Str) = [] := rfl; rw [this]; exact fun h => nomatch h)
theorem shown_len (st : Str) (n : Int) (h0 : 1 ≤ n) (h : n ≤ 1000002) : (shownS st n).length ≤ 40000 := by
  unfold shownS
  have a := romanS_len n h0 h
  have b := lettersS_len n h0 h
  have c := digits_len n (by lia) h
  have d := lower_len (up_asc (roman_up n))
  have e := lower_len (up_asc (letters_up n))
  have z : ("" : Str).length = 0 := rfl
  repeat' split
  all_goals lia
theorem small_ok {F : Int → Str} {x : Str} {o : Option Int} (hF : ∀ n, UpS (F n)) (h : ReadOk F (Txt.upper x) o) (e : (Txt.lower (Txt.upper x) != x) = false) : ReadOk (fun n => Txt.lower (F n)) x o := by
  have e : Txt.lower (Txt.upper x) = x := by simpa using e
  refine ⟨fun m m1 m2 q => h.1 m m1 m2 ?_, fun n q => ?_⟩
  · rw [q]; exact upper_lower (hF m)
  · have := h.2 n q
    exact ⟨this.1, (by show x = Txt.lower (F n); rw [← this.2, e])⟩
theorem small_none {F : Int → Str} {x : Str} (hF : ∀ n, UpS (F n)) (e : (Txt.lower (Txt.upper x) != x) = true) : ReadOk (fun n => Txt.lower (F n)) x none := by
  refine ⟨fun m _ _ q => ?_, fun n q => by cases q⟩
  exfalso
  rw [q] at e
  rw [upper_lower (hF m)] at e
  simp at e
theorem shown_D {x : Str} {o : Option Int} (h : ReadOk figS x o) : ReadOk (shownS "D") x o := by
  have : shownS "D" = figS := by funext n; unfold shownS figS; rfl
  rw [this]; exact h
theorem shown_R {x : Str} {o : Option Int} (h : ReadOk romanS x o) : ReadOk (shownS "R") x o := by
  have : shownS "R" = romanS := by funext n; unfold shownS; rfl
  rw [this]; exact h
theorem shown_A {x : Str} {o : Option Int} (h : ReadOk lettersS x o) : ReadOk (shownS "A") x o := by
  have : shownS "A" = lettersS := by funext n; unfold shownS; rfl
  rw [this]; exact h
theorem shown_r {x : Str} {o : Option Int} (h : ReadOk (fun n => Txt.lower (romanS n)) x o) : ReadOk (shownS "r") x o := by
  have : shownS "r" = fun n => Txt.lower (romanS n) := by funext n; unfold shownS; rfl
  rw [this]; exact h
theorem shown_a {x : Str} {o : Option Int} (h : ReadOk (fun n => Txt.lower (lettersS n)) x o) : ReadOk (shownS "a") x o := by
  have : shownS "a" = fun n => Txt.lower (lettersS n) := by funext n; unfold shownS; rfl
  rw [this]; exact h
noncomputable def prefList : List Str := ["", "x-", "1"]
theorem pref_len {p : Str} (h : p ∈ prefList) : p.length ≤ 2 := by
  simp only [prefList, List.mem_cons, List.not_mem_nil, or_false] at h
  rcases h with rfl | rfl | rfl <;> decide
theorem pref_asc {p : Str} (h : p ∈ prefList) : AscS p := by
  simp only [prefList, List.mem_cons, List.not_mem_nil, or_false] at h
  rcases h with rfl | rfl | rfl <;> (unfold AscS; decide +kernel)
theorem pref_ok {p : Str} (h : p ∈ prefList) : PyData.strOk p = true := asc_ok (pref_asc h)
theorem style_ok {p : Str} (h : p ∈ styleList) : PyData.strOk p = true := by
  simp only [styleList, List.mem_cons, List.not_mem_nil, or_false] at h
  rcases h with rfl | rfl | rfl | rfl | rfl | rfl <;> decide +kernel
theorem read_style {st : Str} (h : st ∈ styleList) (e : (st == "") = false) : st = "D" ∨ st = "R" ∨ st = "r" ∨ st = "A" ∨ st = "a" := by
  simp only [styleList, List.mem_cons, List.not_mem_nil, or_false] at h
  rcases h with h | h | h | h | h | rfl
  · exact .inl h
  · exact .inr (.inl h)
  · exact .inr (.inr (.inl h))
  · exact .inr (.inr (.inr (.inl h)))
  · exact .inr (.inr (.inr (.inr h)))
  · simp at e
theorem asc_slice {x : Str} {k : Nat} (h : AscS x) (hk : k ≤ x.length) : AscS (Txt.slice x (some (k : Int)) none) := by
  have e := beq_iff_eq.mp (slice_closes_from (x := x) (i := (k : Int)) ⟨by lia, by rw [show x.cps.toList.length = x.length from cl_len x]; lia⟩)
  intro c hc
  rw [e] at hc
  exact h c (List.mem_of_mem_drop (List.mem_of_mem_take hc))
theorem cl_rest {x : Str} {k : Nat} (hk : k ≤ x.length) : cl (Txt.slice x (some (k : Int)) none) = (cl x).drop k := by
  have e := beq_iff_eq.mp (slice_closes_from (x := x) (i := (k : Int)) ⟨by lia, by rw [show x.cps.toList.length = x.length from cl_len x]; lia⟩)
  rw [e]
  show List.take _ (List.drop _ _) = _
  rw [Int.toNat_natCast, List.take_of_length_le]
  rw [List.length_drop, show x.cps.toList.length = x.length from cl_len x]
  lia
theorem starts_yes {x p : Str} (h : Txt.startswith x p = true) : p.length ≤ x.length ∧ x = p ++ Txt.slice x (some (p.length : Int)) none := by
  unfold Txt.startswith at h
  rw [Bool.and_eq_true, decide_eq_true_eq] at h
  have hl : p.length ≤ x.length := by lia
  refine ⟨hl, str_ext ?_⟩
  rw [cl_append, cl_rest hl]
  have e := h.2
  rw [StrLaws.subAt_eq] at e
  have e : List.take p.length (List.drop 0 (cl x)) = cl p := by simpa using e
  rw [List.drop_zero] at e
  rw [← e, List.take_append_drop]
theorem starts_no {x p y : Str} (h : Txt.startswith x p = false) : x ≠ p ++ y := by
  rintro rfl
  have : Txt.startswith (p ++ y) p = true := KT.starts_app p y
  rw [this] at h
  cases h
theorem rest_app {p y : Str} : Txt.slice (p ++ y) (some (p.length : Int)) none = y := by
  apply str_ext
  rw [cl_rest (by rw [str_len_append]; lia), cl_append, ← cl_len p, List.drop_left]
end Mine
end
section
open PySem PySem.Builtin PySem.Builtin.Str PySem.W PyProof.Rows PySem.Spec PySem.Calls
namespace Mine
structure Rg where
  first : Int
  style : Str
  pre : Str
  start : Int
noncomputable def rangeAt (rs : List Rg) (i : Int) : Option Rg := (rs.filter fun g => decide (g.first ≤ i)).getLast?
noncomputable def labelS (rs : List Rg) (i : Int) : Str := match rangeAt rs i with
  | none => Str.ofString (toString (i + 1))
  | some g => g.pre ++ shownS g.style (g.start + i - g.first)
noncomputable def lab (f b : Int) (s p : Str) (i : Int) : Str := p ++ shownS s (b + i - f)
noncomputable def IndexIn (f b : Int) (s p : Str) (e : Int) (x : Str) (r : Int) : Prop :=
  (r = -1 ∧ ∀ i, f ≤ i → i < e → x ≠ lab f b s p i) ∨ (f ≤ r ∧ r < e ∧ x = lab f b s p r ∧ ∀ i, f ≤ i → i < e → x = lab f b s p i → r ≤ i)
section
variable {f b e : Int} {s p x : Str}
theorem ii_empty (h : e ≤ f) : IndexIn f b s p e x (-1) := .inl ⟨rfl, fun i _ _ => by lia⟩
theorem ii_nostart (h : Txt.startswith x p = false) : IndexIn f b s p e x (-1) := .inl ⟨rfl, fun _ _ _ => starts_no h⟩
theorem shown_nil (n : Int) : shownS "" n = "" := by unfold shownS; rfl
theorem ii_blank (hs : (s == "") = true) (h1 : ¬ e ≤ f) (h2 : Txt.startswith x p = true) (h3 : (Txt.slice x (some (p.length : Int)) none == "") = true) : IndexIn f b s p e x f := by
  have hs : s = "" := by simpa using hs
  have h3 : Txt.slice x (some (p.length : Int)) none = "" := by simpa using h3
  subst hs
  have hx := (starts_yes h2).2
  rw [h3] at hx
  exact .inr ⟨Int.le_refl _, by lia, by rw [lab, shown_nil]; exact hx, fun i hi _ _ => hi⟩
theorem ii_blank_no (hs : (s == "") = true) (h3 : (Txt.slice x (some (p.length : Int)) none == "") = false) : IndexIn f b s p e x (-1) := by
  have hs : s = "" := by simpa using hs
  subst hs
  refine .inl ⟨rfl, fun i _ _ q => ?_⟩
  rw [lab, shown_nil] at q
  rw [q, rest_app] at h3
  simp at h3
theorem ii_none (h : ReadOk (shownS s) (Txt.slice x (some (p.length : Int)) none) none) (hf : 0 ≤ f) (hb : 1 ≤ b) (hc : b ≤ 1000000) (he : e ≤ 3) : IndexIn f b s p e x (-1) := by
  refine .inl ⟨rfl, fun i i1 i2 q => ?_⟩
  rw [lab] at q
  have := h.1 (b + i - f) (by lia) (by lia) (by rw [q, rest_app])
  cases this
theorem ii_out {n : Int} (h : ReadOk (shownS s) (Txt.slice x (some (p.length : Int)) none) (some n)) (hf : 0 ≤ f) (hb : 1 ≤ b) (hc : b ≤ 1000000) (he : e ≤ 3) (ho : ¬ b ≤ n ∨ ¬ n < b + e - f) : IndexIn f b s p e x (-1) := by
  refine .inl ⟨rfl, fun i i1 i2 q => ?_⟩
  rw [lab] at q
  have := Option.some.inj (h.1 (b + i - f) (by lia) (by lia) (by rw [q, rest_app]))
  lia
theorem ii_found {n : Int} (h : ReadOk (shownS s) (Txt.slice x (some (p.length : Int)) none) (some n)) (h2 : Txt.startswith x p = true) (hf : 0 ≤ f) (hb : 1 ≤ b) (hc : b ≤ 1000000) (he : e ≤ 3) (o1 : b ≤ n) (o2 : n < b + e - f) : IndexIn f b s p e x (f + n - b) := by
  refine .inr ⟨by lia, by lia, ?_, fun i i1 i2 q => ?_⟩
  · rw [lab, show b + (f + n - b) - f = n by lia, ← (h.2 n rfl).2]
    exact (starts_yes h2).2
  · rw [lab] at q
    have := Option.some.inj (h.1 (b + i - f) (by lia) (by lia) (by rw [q, rest_app]))
    lia
end
theorem numeral_tab : ((List.range 1000).all fun l => decide (rgN ((romanTab.tail).map fun r => (r.1.toNat, cl r.2)) l = cl (numC.getD (l / 100 % 10) Str.empty) ++ cl (numX.getD (l / 10 % 10) Str.empty) ++ cl (numI.getD (l % 10) Str.empty))) = true := by decide +kernel
theorem numeral_roman (n : Int) (h1 : 1 ≤ n) : numeralS n = romanS n := by
  obtain ⟨k, rfl⟩ := Int.eq_ofNat_of_zero_le (show 0 ≤ n by lia)
  unfold numeralS romanS
  apply str_ext
  rw [cl_romanGo, cl_append, cl_append, cl_append]
  show _ = cl ("" : Str) ++ (_ ++ rgL romanTab.tail _)
  have hl := List.all_eq_true.mp numeral_tab (k % 1000) (List.mem_range.mpr (Nat.mod_lt _ (by decide)))
  have hl := of_decide_eq_true hl
  have hp : ∀ r ∈ romanTab.tail, 0 < r.1 := by decide
  have e0 : ((k : Int) % 1000) = ((k % 1000 : Nat) : Int) := rfl
  rw [e0, rgL_nat _ _ hp, hl, cl_mul]
  have e1 : ((k : Int) / 100 % 10).toNat = k % 1000 / 100 % 10 := by
    show k / 100 % 10 = k % (100 * 10) / 100 % 10
    rw [Nat.mod_mul_right_div_self, Nat.mod_mod]
  have e2 : ((k : Int) / 10 % 10).toNat = k % 1000 / 10 % 10 := by
    show k / 10 % 10 = k % (10 * 100) / 10 % 10
    rw [Nat.mod_mul_right_div_self, Nat.mod_mod_of_dvd _ (by decide)]
  have e3 : ((k : Int) % 10).toNat = k % 1000 % 10 := by
    show k % 10 = _
    rw [Nat.mod_mod_of_dvd _ (by decide)]
  rw [e1, e2, e3]
  show _ = [] ++ _
  rw [List.nil_append, List.append_assoc, List.append_assoc, List.append_assoc]
section
variable {s : Str} {n : Int}
theorem sh_R (hs : s ∈ styleList) (h1 : ([("R" : Str), "r"].any fun x : Str => x == s) = true) (h2 : ([("R" : Str), "A"].any fun x : Str => x == s) = true) (hn : 1 ≤ n) : numeralS n = shownS s n := by
  rw [numeral_roman n hn]
  simp only [styleList, List.mem_cons, List.not_mem_nil, or_false] at hs
  rcases hs with rfl | rfl | rfl | rfl | rfl | rfl <;> first | (unfold shownS; rfl) | (exact absurd h1 (by decide +kernel)) | (exact absurd h2 (by decide +kernel))
theorem sh_r (hs : s ∈ styleList) (h1 : ([("R" : Str), "r"].any fun x : Str => x == s) = true) (h2 : ([("R" : Str), "A"].any fun x : Str => x == s) = false) (hn : 1 ≤ n) : Txt.lower (numeralS n) = shownS s n := by
  rw [numeral_roman n hn]
  simp only [styleList, List.mem_cons, List.not_mem_nil, or_false] at hs
  rcases hs with rfl | rfl | rfl | rfl | rfl | rfl <;> first | (unfold shownS; rfl) | (exact absurd h1 (by decide +kernel)) | (exact absurd h2 (by decide +kernel))
theorem sh_A (hs : s ∈ styleList) (h0 : ([("" : Str), "D"].any fun x : Str => x == s) = false) (h1 : ([("R" : Str), "r"].any fun x : Str => x == s) = false) (h2 : ([("R" : Str), "A"].any fun x : Str => x == s) = true) : lettersS n = shownS s n := by
  simp only [styleList, List.mem_cons, List.not_mem_nil, or_false] at hs
  rcases hs with rfl | rfl | rfl | rfl | rfl | rfl <;> first | (unfold shownS; rfl) | (exact absurd h0 (by decide +kernel)) | (exact absurd h1 (by decide +kernel)) | (exact absurd h2 (by decide +kernel))
theorem sh_a (hs : s ∈ styleList) (h0 : ([("" : Str), "D"].any fun x : Str => x == s) = false) (h1 : ([("R" : Str), "r"].any fun x : Str => x == s) = false) (h2 : ([("R" : Str), "A"].any fun x : Str => x == s) = false) : Txt.lower (lettersS n) = shownS s n := by
  simp only [styleList, List.mem_cons, List.not_mem_nil, or_false] at hs
  rcases hs with rfl | rfl | rfl | rfl | rfl | rfl <;> first | (unfold shownS; rfl) | (exact absurd h0 (by decide +kernel)) | (exact absurd h1 (by decide +kernel)) | (exact absurd h2 (by decide +kernel))
theorem sh_D (h0 : (s == "D") = true) : Str.ofString (toString n) = shownS s n := by
  have : s = "D" := by simpa using h0
  subst this
  unfold shownS; rfl
theorem sh_n (hs : s ∈ styleList) (h0 : ([("" : Str), "D"].any fun x : Str => x == s) = true) (h1 : (s == "D") = false) : "" = shownS s n := by
  simp only [styleList, List.mem_cons, List.not_mem_nil, or_false] at hs
  rcases hs with rfl | rfl | rfl | rfl | rfl | rfl <;> first | (unfold shownS; rfl) | (exact absurd h0 (by decide +kernel)) | (exact absurd h1 (by decide +kernel))
end
end Mine
end
section
open PySem PySem.W PyProof.Rows PySem.Spec PySem.Calls
namespace Mine
section
variable {c : Cx} {fd : FuncData}
theorem hb1 {v1 : V} {x1 : Str} {K : Frag} (h : ∀ s u1, BindsTo s fd ⟨[u1], []⟩ [(x1, u1)]) : ∀ (s : Shared) (fz ml : Led) (us : List Value), K.In s.heap → c.l fz ml [v1] us → ∃ bs, BindsTo s fd ⟨us, []⟩ bs ∧ isF c.X.w c.X.Zb fz (adr ml) [(x1, v1)] bs := fun s fz ml us _ hu => by
  obtain ⟨u1, _, rfl, i1, hu⟩ := l_cons hu
  rw [l_nil hu]
  exact ⟨_, h s u1, by exact ⟨_, _, rfl, i1, by rfl⟩⟩
theorem hb2 {v1 v2 : V} {x1 x2 : Str} {K : Frag} (h : ∀ s u1 u2, BindsTo s fd ⟨[u1, u2], []⟩ [(x1, u1), (x2, u2)]) : ∀ (s : Shared) (fz ml : Led) (us : List Value), K.In s.heap → c.l fz ml [v1, v2] us → ∃ bs, BindsTo s fd ⟨us, []⟩ bs ∧ isF c.X.w c.X.Zb fz (adr ml) [(x1, v1), (x2, v2)] bs := fun s fz ml us _ hu => by
  obtain ⟨u1, _, rfl, i1, hu⟩ := l_cons hu
  obtain ⟨u2, _, rfl, i2, hu⟩ := l_cons hu
  rw [l_nil hu]
  exact ⟨_, h s u1 u2, by exact ⟨_, _, rfl, i1, by exact ⟨_, _, rfl, i2, by rfl⟩⟩⟩
theorem hb3 {v1 v2 v3 : V} {x1 x2 x3 : Str} {K : Frag} (h : ∀ s u1 u2 u3, BindsTo s fd ⟨[u1, u2, u3], []⟩ [(x1, u1), (x2, u2), (x3, u3)]) : ∀ (s : Shared) (fz ml : Led) (us : List Value), K.In s.heap → c.l fz ml [v1, v2, v3] us → ∃ bs, BindsTo s fd ⟨us, []⟩ bs ∧ isF c.X.w c.X.Zb fz (adr ml) [(x1, v1), (x2, v2), (x3, v3)] bs := fun s fz ml us _ hu => by
  obtain ⟨u1, _, rfl, i1, hu⟩ := l_cons hu
  obtain ⟨u2, _, rfl, i2, hu⟩ := l_cons hu
  obtain ⟨u3, _, rfl, i3, hu⟩ := l_cons hu
  rw [l_nil hu]
  exact ⟨_, h s u1 u2 u3, by exact ⟨_, _, rfl, i1, by exact ⟨_, _, rfl, i2, by exact ⟨_, _, rfl, i3, by rfl⟩⟩⟩⟩
end
noncomputable abbrev lc (l : List (Str × V)) : List (Str × V) := l
noncomputable def rgV (g : Rg) : V := .tup [.int g.first, .str g.style, .str g.pre, .int g.start]
noncomputable def optV : Option Rg → V
  | none => .none
  | some g => rgV g
theorem oldL_rgs {n : Nat} : ∀ {rs : List Rg}, oldL n (rs.map rgV)
  | [] => trivial
  | g :: rs => by rw [List.map_cons]; exact ⟨by simp [rgV, old, oldL], oldL_rgs⟩
theorem rangeAt_snoc {rs : List Rg} {g : Rg} {i : Int} : rangeAt (rs ++ [g]) i = if g.first ≤ i then some g else rangeAt rs i := by
  unfold rangeAt
  rw [List.filter_append]
  by_cases h : g.first ≤ i <;> simp [h]
end Mine
end
section
open PySem PySem.W PyProof.Rows PySem.Spec PySem.Calls
namespace Mine
noncomputable def stA (fs : List (Str × V)) (x : Str) (v : V) : List (Str × V) := match fs with
  | [] => [(x, v)]
  | (y, w) :: r => if y = x then (y, v) :: r else (y, w) :: stA r x v
section
variable {c : Cx} {σ : St} {ρl : List (Str × V)} {ρm : List M} {P : V → List M → Prop} {PX : Fl → St → Prop} {name : Str} {v : V} {C : Addr}
theorem isE_put {w : World} {Zb : Addr → Obj → Prop} {fz : Led} {ad : List Addr} {x : Str} {v : V} {u : Value} {hsh : Int} {t : Tok} (hv : isV w Zb fz ad v u) : ∀ {fs : List (Str × V)} {es : List DictEntry}, isE w Zb fz ad fs es → isE w Zb fz ad (stA fs x v) (putL x hsh (.str x t) u es)
  | [], es, h => by subst h; unfold stA putL isE; exact ⟨_, _, _, _, rfl, hv, by rfl⟩
  | (y, v') :: r, es, h => by
    refine oEEEEAA h fun hs t' u' us e94 h1 h2 => ?_
    subst e94
    have hk : (Value.str y t').isStr x = (y == x) := by first | rfl | simp [Value.isStr]
    unfold stA putL
    dsimp only
    rw [hk]
    by_cases q : y = x
    · subst q
      rw [beq_self_eq_true, if_pos rfl, if_pos rfl]
      exact ⟨_, _, _, _, rfl, hv, h2⟩
    · rw [beq_false_of_ne q, if_neg q, if_neg (by decide)]
      exact ⟨_, _, _, _, rfl, h1, isE_put hv h2⟩
theorem isE_len {w : World} {Zb : Addr → Obj → Prop} {fz : Led} {ad : List Addr} : ∀ {fs : List (Str × V)} {es : List DictEntry}, isE w Zb fz ad fs es → es.length = fs.length
  | [], es, h => by subst h; rfl
  | (y, v') :: r, es, h => by obtain ⟨hs, t', u', us, rfl, h1, h2⟩ := h; rw [List.length_cons, List.length_cons, isE_len h2]
noncomputable def WSA (c : Cx) (ov : V) (name : Str) (v : V) (σ : St) (P : St → Prop) : Prop :=
  ∀ s fz ml uo u (Q : Unit → Shared → Prop) E, Rel c σ fz ml s.heap → c.v fz ml ov uo → c.v fz ml v u → (∀ σ' fz' ml' h' tk', P σ' → σ'.loc = σ.loc → Ext fz ml fz' ml' → Rel c σ' fz' ml' h' → Q () (shr s h' tk')) → wpAny c.M c.A (setAttr uo name u) Q E s
theorem WSA.ins {i j : Nat} {fs : List (Str × V)} (hi : ρm[i]? = some (.ins C j)) (hj : ρm[j]? = some (.nsd fs)) (hl : fs.length ≤ 100) (hs : findIn (wrt.heap_1 c.X.w.params) (.ref C) "__setattr__" = some (some (.builtin "object.__setattr__"))) (hp : plainOver (wrt.heap_1 c.X.w.params) C = true) (ht : takerIn (wrt.heap_1 c.X.w.params) C name = some none) (hh : hasDictIn (wrt.heap_1 c.X.w.params) C = true)
    {P : St → Prop} (h : P ⟨ρl, ρm.set j (.nsd (stA fs name v))⟩) : WSA c (.ptr i) name v ⟨ρl, ρm⟩ P :=
  fun s fz ml uo u Q E R ho hv kq => by
    refine hold fun _ hK9 => ?_
    obtain ⟨x, o, rfl, _, _, hg, dx, rfl, e⟩ := R.at hi ho
    refine hK9 ?_
    obtain ⟨dx', o', e', hml, hget, hg', es, n, rfl, l⟩ := R.at hj (u := .ref dx) (by exact ⟨dx, rfl, e⟩)
    cases e'
    obtain ⟨m, f, F, LA, lo⟩ := R.fr
    obtain ⟨N, nd⟩ := news_at R
    have hsome : (getL name es).isSome = true := by
      cases q : fs.lookup name with
      | none => rw [(isE_get l).2 q]; rfl
      | some v => obtain ⟨u', hu', _⟩ := (isE_get l).1 v q; rw [hu']; rfl
    have hl2 : (putL name (PyData.keyHash c.X.w.params name) (.str name (s.toks + 1)) u es).length ≤ es.length + 1 := by
      clear hsome hget hg' hml l
      induction es with
      | nil => unfold putL; simp
      | cons e es ih => unfold putL; split <;> simp <;> lia
    refine set_dict F R.ok.kin N ⟨hg, rfl, rfl, hg'⟩ rfl hs hp ht hh hsome rfl (upd_set hget nd) (by rw [isE_len l] at hl2; lia) fun h' F' N' => ?_
    obtain ⟨R2, x2⟩ := R.put (m' := .nsd (stA fs name v)) hget F' LA lo (by rw [List.append_assoc]; exact N') ⟨_, _, rfl, isE_put hv l⟩
    exact kq _ _ _ h' _ h rfl x2 R2
theorem W0.setAttr {e o : Expr} {pos pos' : Pos} (h : WE c e ⟨ρl, ρm⟩ fun v m => WE c o ⟨ρl, m⟩ fun ov m' => WSA c ov name v ⟨ρl, m'⟩ fun σ' => PX .nxt σ')
    (hsw : swapsWith e (some (Expr.Attribute o name pos')) pos.line c.env = pure false := by rfl) : W0 c (.Assign [.Attribute o name pos'] e pos) ⟨ρl, ρm⟩ PX :=
  fun hf s fz ml Q E R k kr => plainObj_wpAny_Assign_Attribute (h s fz ml _ E R fun v m fz1 ml1 h1 tk1 u hv x1 R1 i1 => hv _ fz1 ml1 _ E R1 fun ov m' fz2 ml2 h2 tk2 uo hov x2 R2 i2 =>
    hov _ fz2 ml2 uo u _ E R2 i2 (isVmono x2 i1) fun σ' fz4 ml4 h4 tk4 hp _ x4 R4 => k _ _ fz4 ml4 h4 tk4 _ hp ((x1.trans x2).trans x4).n R4 (rfl : Flow.next = _)) hsw
theorem WL.cls {vs : List V} {fI : Addr} (hlv : 2 ≤ c.X.lv) (hne : ρm ≠ []) (hm : makesIn (wrt.heap_1 c.X.w.params) C = true) (hi : findIn (wrt.heap_1 c.X.w.params) (.ref C) "__init__" = some (some (.ref fI))) (hF : isFn (wrt.heap_1 c.X.w.params) (.ref fI) = true)
    {name' qual : Str} {params : Arguments} {body : List Stmt} {scope : Scope} {dV kV doc pm cdv ct oc : Value} {an od : Option Addr} {osl : Array (Option Value)} (bv : List (Str × V))
    (ho : (wrt.heap_1 c.X.w.params).lookup fI = some ⟨oc, od, .func (fnOf name' qual params body scope dV kV doc pm an cdv ct), osl⟩) (hcd : codeIn (wrt.heap_1 c.X.w.params) cdv qual = true)
    (hb : ∀ (s : Shared) (fz ml : Led) (us : List Value), (wrt.heap_1 c.X.w.params).In s.heap → c.l fz ml (.ptr (ρm.length + 1) :: vs) us → ∃ bs, BindsTo s (fnOf name' qual params body scope dV kV doc pm an cdv ct) ⟨us, []⟩ bs ∧ isF c.X.w c.X.Zb fz (adr ml) bv bs)
    (hloc : (bv.all fun y => decide (scope.names.lookup y.1 = some .local)) = true)
    (h : ∀ X' : Cb, X'.w = c.X.w → X'.lv = c.X.lv - 2 → Cx.IsFn ⟨X', scope, [], ρm.length + 2⟩ → WX ⟨X', scope, [], ρm.length + 2⟩ body ⟨bv.reverse, ρm ++ [.nsd []] ++ [.ins C ρm.length]⟩ (Out (ρm.length + 2) fun r m => r = .none ∧ P (.ptr (ρm.length + 1)) m))
    (hcell : ∀ x ∈ scope.names, x.2 ≠ .cell) (hk : scope.kind = .function) (hco : scope.isCoroutine = false) (hgen : scope.isGenerator = false) : WL c (callV (.ref C)) vs ⟨ρl, ρm⟩ P :=
  fun s fz ml us Q E R hu kq => by
    obtain ⟨m, f, F, LA, lo⟩ := R.fr
    refine call_cls F R.ok.kin R.news hm hi hF fun x dx h' F' N' off hlt => ?_
    have nx := N' _ (.head _)
    have nd := N' _ (.tail _ (.head _))
    have N2 : News c.X.h₀ c.X.L h' (ml ++ fz ++ c.X.xs) := fun q hq => N' q (.tail _ (.tail _ hq))
    have hml : ml ≠ [] := fun e => hne (List.eq_nil_of_length_eq_zero (by rw [← R.mem.len, e]; rfl))
    refine oEE (List.exists_cons_of_ne_nil hml) fun q r' e => ?_
    have hq : q ∈ ml ++ fz ++ c.X.xs := List.mem_append_left _ (List.mem_append_left _ (by rw [e]; exact List.mem_cons_self))
    have hsd : sysModules < dx := Nat.lt_trans (R.hi q hq) (off q hq)
    refine oA ((R.move F' LA lo N2).addml (m' := .nsd []) nd.1 nd.2.1 nd.2.2 (fun p hp => Nat.ne_of_lt (off p hp)) hsd ⟨[], 0, rfl, by rfl⟩) fun R1 x1 => ?_
    have hlen : (adr (ml ++ [(dx, dictOf [] 0)])).length = ρm.length + 1 := by rw [List.length_map, List.length_append, R.mem.len]; rfl
    obtain ⟨R2, x2⟩ := R1.addml (m' := .ins C ρm.length) nx.1 nx.2.1 nx.2.2 (fun p hp => by
      simp only [List.mem_append, List.mem_singleton] at hp
      rcases hp with ((hp | rfl) | hp) | hp
      · exact Nat.ne_of_lt (Nat.lt_trans (off p (List.mem_append_left _ (List.mem_append_left _ hp))) hlt)
      · exact Nat.ne_of_lt hlt
      · exact Nat.ne_of_lt (Nat.lt_trans (off p (List.mem_append_left _ (List.mem_append_right _ hp))) hlt)
      · exact Nat.ne_of_lt (Nat.lt_trans (off p (List.mem_append_right _ hp)) hlt)) (Nat.lt_trans hsd hlt) ⟨dx, rfl, by
        rw [adr, List.map_append, ← adr, List.getElem?_append_left (by rw [hlen]; lia), adr, List.map_append, ← adr, List.getElem?_append_right (by rw [List.length_map, R.mem.len]; exact Nat.le_refl _), List.length_map, R.mem.len, Nat.sub_self]
        rfl⟩
    have ip : c.v fz (ml ++ [(dx, dictOf [] 0)] ++ [(x, instObj C dx)]) (.ptr (ρm.length + 1)) (.ref x) := by
      have := ptr_new (c := c) (fz := fz) (ml := ml ++ [(dx, dictOf [] 0)]) (a := x) (o := instObj C dx)
      rw [List.length_append, R.mem.len] at this
      exact this
    have hdep : ((c.A.under (.builtin "type.__call__" ⟨.ref C :: us, []⟩)).depth) = c.X.dp + 1 := depth_under_make c.A C us
    have hlen2 : (ρm ++ [M.nsd []] ++ [M.ins C ρm.length]).length = ρm.length + 2 := by simp
    have hd := R.ok.dep
    have hun := R.ok.unt
    refine def_core (c := c) (σ := ⟨ρl, ρm ++ [.nsd []] ++ [.ins C ρm.length]⟩) (vs := .ptr (ρm.length + 1) :: vs) (P := fun r m => r = .none ∧ P (.ptr (ρm.length + 1)) m) (PR := fun _ => False) (lv' := c.X.lv - 2)
      (dp' := (c.A.under (.builtin "type.__call__" ⟨.ref C :: us, []⟩)).depth) (un' := (c.A.under (.builtin "type.__call__" ⟨.ref C :: us, []⟩)).units) (gd' := (c.A.under (.builtin "type.__call__" ⟨.ref C :: us, []⟩)).guards)
      (Q := fun v s' => v = .none ∧ Q (.ref x) s') (E := E) bv (by rw [hdep]; lia) (by show c.X.un + 1 + 3 + 20 * (c.X.lv - 2) < 9000; lia) ho hcd hb hloc ?_ hcell hk hco hgen R2 (mk_cons ip (isLmono (x1.trans x2) hu)) ?_ ?_ ?_ ?_
    · intro X' hw hlv' _ _ hf
      rw [hlen2] at hf ⊢
      exact h X' hw hlv' hf
    · intro v m3 fz3 ml3 h3 tk3 u3 q87 x3 R3 i3
      refine oA q87 fun e90 hp => ?_
      subst e90
      refine ⟨v_none i3, ?_⟩
      exact kq _ _ fz3 ml3 h3 tk3 _ hp ((x1.trans x2).trans x3) R3 (isVmono x3 ip)
    · intro _ _ _ _ _ _ hp; exact hp.elim
    · rintro v s' ⟨rfl, hq⟩; exact ⟨rfl, hq⟩
    · intro e s' he; exact he
end
end Mine
end
section
open PySem PySem.W PyProof.Rows PySem.Spec PySem.Calls
namespace Mine
noncomputable def WD (c : Cx) (keys : List (Option Expr)) (values : List Expr) (σ : St) (P : List (Str × V) → List M → Prop) : Prop :=
  ∀ pos s fz ml (Q : List (Value × Value) → Shared → Prop) E, Rel c σ fz ml s.heap → (∀ kvs mem' fz' ml' h' tk' vs bs, P kvs mem' → Ext fz ml fz' ml' → Rel c ⟨σ.loc, mem'⟩ fz' ml' h' → Carries (strKind thePr c.X.w) vs bs → isF c.X.w c.X.Zb fz' (adr ml') kvs bs → Q vs (shr s h' tk')) →
    wpAny c.M c.A (evalPairs (pairTrees keys values c.env pos)) Q E s
noncomputable def mergeV (ks more : List (Str × V)) : List (Str × V) := more.foldl (fun acc kv => stV acc kv.1 kv.2) ks
section
variable {c : Cx} {σ : St} {ρl : List (Str × V)} {ρm : List M} {P : V → List M → Prop} {PD : List (Str × V) → List M → Prop} {PX : Fl → St → Prop} {pos : Pos}
theorem isF_merged {w : World} {Zb : Addr → Obj → Prop} {fz : Led} {ad : List Addr} : ∀ {b b0 : List (Str × V)} {bs bs0 : List (Str × Value)}, isF w Zb fz ad b0 bs0 → isF w Zb fz ad b bs → isF w Zb fz ad (mergeV b0 b) (merged bs0 bs)
  | [], b0, bs, bs0, h0, h => by subst h; exact h0
  | (x, v) :: r, b0, bs, bs0, h0, h => by
    refine oEEAA h fun u us e92 h1 h2 => ?_
    subst e92
    exact isF_merged (b0 := stV b0 x v) (bs0 := stored bs0 x u) (isF_stored h1 h0) h2
theorem WD.nil (h : PD [] ρm) : WD c [] [] ⟨ρl, ρm⟩ PD := fun pos s fz ml Q E R k => evalPairs_nil (k _ _ fz ml s.heap s.toks [] [] h .rfl R trivial (by rfl))
theorem WD.cons {ke ve : Expr} {keys : List (Option Expr)} {values : List Expr} (h : WE c ke ⟨ρl, ρm⟩ fun kv m => ∃ x, kv = .str x ∧ WE c ve ⟨ρl, m⟩ fun v m' => WD c keys values ⟨ρl, m'⟩ fun kvs m'' => PD ((x, v) :: kvs) m'') : WD c (some ke :: keys) (ve :: values) ⟨ρl, ρm⟩ PD :=
  fun pos s fz ml Q E R k => evalPairs_cons (h s fz ml _ E R fun kv m fz1 ml1 h1 tk1 uk ⟨x, e, hv⟩ x1 R1 i1 => by
    subst e
    obtain ⟨t, rfl⟩ := v_str i1
    exact wpAny_bind (wpAny_mono (hv _ fz1 ml1 _ E R1 fun v m' fz2 ml2 h2 tk2 u hd x2 R2 i2 => hd pos _ fz2 ml2 _ E R2 fun kvs m'' fz3 ml3 h3 tk3 vs bs hp x3 R3 C3 i3 => k _ _ fz3 ml3 h3 tk3 ((.str x t, u) :: vs) ((x, u) :: bs) hp ((x1.trans x2).trans x3) R3 ⟨strKey _ _ _ _, rfl, C3⟩ (by exact ⟨u, bs, rfl, isVmono x3 i2, i3⟩)) (fun _ _ hq => wpAny_bind (wpAny_standAt (wpAny_pure hq))) fun _ _ e => e))
theorem Rel.unadd {fz ml : Led} {h : Heap} {d : Addr} {o : Obj} (ok : c.Ok) (R : Rel (c.add (d, o)) σ fz ml h) {h' : Heap} {o' : Obj} (hs : Heap.SameBut d h h') (hg : h'.get? d = some o') : Rel c σ fz ml h' ∧ (∀ p ∈ ml ++ fz ++ c.X.xs, p.1 ≠ d) ∧ d ≠ c.X.L ∧ c.X.h₀.get? d = none ∧ sysModules < d := by
  refine oAAAAA (R.subx ok) fun R2 g2 off f1 f2 f3 => ?_
  exact ⟨R2.but (fun b o hb e => (hs.2 b hb).trans e) f1 f2 off, off, f1, f2, f3⟩
theorem dict_core {keys : List (Option Expr)} {values : List Expr} (hk : (List.all keys fun x => Option.isSome x) = true) (hl : keys.length = values.length) (hne : keys ≠ []) (h15 : keys.length ≤ 15) (h : ∀ X' : Cb, X'.w = c.X.w → X'.lv = c.X.lv → WD ⟨X', c.sc, c.cel, c.n0⟩ keys values ⟨ρl, ρm⟩ PD)
    {s : Shared} {fz ml : Led} {Q E : Value → Shared → Prop} (R : Rel c ⟨ρl, ρm⟩ fz ml s.heap)
    (k : ∀ kvs mem' fz' ml' h' tk' d o bs, PD kvs mem' → Ext fz ml fz' ml' → Rel c ⟨ρl, mem'⟩ fz' ml' h' → h'.get? d = some o → d ≠ c.X.L → c.X.h₀.get? d = none → (∀ p ∈ ml' ++ fz' ++ c.X.xs, p.1 ≠ d) → sysModules < d → o.IsDictOf (strKind thePr c.X.w) bs → isF c.X.w c.X.Zb fz' (adr ml') (mergeV [] kvs) bs → Q (.ref d) (shr s h' tk')) : wpAny c.M c.A (eval (.Dict keys values pos) c.env) Q E s := by
  obtain ⟨m, f, F, LA, lo⟩ := R.fr
  refine Dict_made (knd := strKind thePr c.X.w) F hk hl hne h15 fun F1 => ?_
  have ho : (s.heap.push { cls := Value.type "dict", data := Data.dict #[] }).get? s.heap.objs.size = some { cls := Value.type "dict", data := Data.dict #[] } := Heap.get?_push_size _ rfl
  have R1 := (R.pushed { cls := Value.type "dict", data := Data.dict #[] }).addx ho R.fresh.1 R.fresh.2.1 R.fresh.2.2 R.modules
  refine h (c.X.add _) rfl rfl pos _ fz ml _ E R1 ?_
  intro kvs mem' fz' ml' h' tk' vs bs hp x1 R2 C2 i2
  refine ⟨bs, C2, Heap.dictOf_iff.mpr ⟨_, (R2.subx R.ok).2.1, ?_⟩, fun h3 hd hs => ?_⟩
  · refine oEA (Heap.dictOf_iff.mp (Heap.DictOf.new (knd := strKind thePr c.X.w) s.heap)) fun o ho2 hd => ?_
    rw [ho] at ho2
    exact (Option.some.inj ho2) ▸ hd
  · refine hold fun _ hK9 => ?_
    refine oEA (Heap.dictOf_iff.mp hd) fun o3 hg3 d3 => ?_
    refine hK9 ?_
    refine hold fun _ hK9 => ?_
    refine oAAAA (Rel.unadd R.ok R2 hs hg3) fun R3 off f1 f2 f3 => ?_
    refine hK9 ?_
    exact k kvs mem' fz' ml' h3 _ _ o3 _ hp x1 R3 hg3 f1 f2 off f3 d3 (isF_merged (by rfl) i2)
theorem WE.dct {keys : List (Option Expr)} {values : List Expr} (h : ∀ X' : Cb, X'.w = c.X.w → X'.lv = c.X.lv → WD ⟨X', c.sc, c.cel, c.n0⟩ keys values ⟨ρl, ρm⟩ fun kvs m => P (.dct (mergeV [] kvs)) m) (hk : (List.all keys fun x => Option.isSome x) = true := by rfl) (hl : keys.length = values.length := by rfl) (hne : keys ≠ [] := by intro q; cases q) (h15 : keys.length ≤ 15 := by exact Nat.le_of_ble_eq_true rfl) : WE c (.Dict keys values pos) ⟨ρl, ρm⟩ P :=
  fun s fz ml Q E R k => dict_core hk hl hne h15 h R fun kvs mem' fz' ml' h' tk' d o bs hp x1 R1 hg f1 f2 off f3 hd i => by
    have x2 : Ext fz' ml' ((d, o) :: fz') ml' := ⟨fun p hp => List.mem_cons_of_mem _ hp, List.prefix_refl _⟩
    exact k _ _ _ ml' h' tk' _ hp (x1.trans x2) (R1.addfz hg f1 f2 off f3) (by exact ⟨d, o, bs, rfl, .inr (.head _), Nat.ne_of_gt f3, hd, isF.mono x2.1 x2.2 _ _ i⟩)
theorem WE.dctM {keys : List (Option Expr)} {values : List Expr} (h : ∀ X' : Cb, X'.w = c.X.w → X'.lv = c.X.lv → WD ⟨X', c.sc, c.cel, c.n0⟩ keys values ⟨ρl, ρm⟩ fun kvs m => P (.ptr m.length) (m ++ [.dct (mergeV [] kvs)])) (hk : (List.all keys fun x => Option.isSome x) = true := by rfl) (hl : keys.length = values.length := by rfl) (hne : keys ≠ [] := by intro q; cases q) (h15 : keys.length ≤ 15 := by exact Nat.le_of_ble_eq_true rfl) : WE c (.Dict keys values pos) ⟨ρl, ρm⟩ P :=
  fun s fz ml Q E R k => dict_core hk hl hne h15 h R fun kvs mem' fz' ml' h' tk' d o bs hp x1 R1 hg f1 f2 off f3 hd i => by
    refine oA (R1.addml (m' := .dct (mergeV [] kvs)) hg f1 f2 off f3 ⟨bs, hd, isF.mono (fun _ h => h) adr_pre _ _ i⟩) fun R2 x2 => ?_
    refine k _ _ _ _ h' tk' _ hp (x1.trans x2) R2 ?_
    rw [show mem'.length = ml'.length from R1.mem.len.symm]
    exact ptr_new
end
end Mine
end
section
open PySem PySem.W PyProof.Rows PySem.Spec PySem.Calls
namespace Mine
noncomputable def bindLV (kindOf : Str → Option NameKind) : List (Str × V) → (Str → Option V) → Str → Option V
  | [], m => m
  | (n, v) :: r, m => bindLV kindOf r (if kindOf n = some .local then fun y => if y = n then some v else m y else m)
noncomputable def bindCV (kindOf : Str → Option NameKind) : List (Str × V) → (Str → Option V) → Str → Option V
  | [], m => m
  | (n, v) :: r, m => bindCV kindOf r (if kindOf n = some .local then m else fun y => if y = n then some v else m y)
noncomputable def celIx : Nat → List (Str × Option V) → List (Str × Nat)
  | _, [] => []
  | n, (x, _) :: r => (x, n) :: celIx (n + 1) r
section
variable {c : Cx} {σ : St} {ρl : List (Str × V)} {ρm : List M} {P : V → List M → Prop} {f : Addr} {name qual : Str} {params : Arguments} {body : List Stmt} {scope : Scope} {dV kV doc pm cdv ct oc : Value} {an od : Option Addr} {osl : Array (Option Value)} {vs : List V} {fz ml : Led} {kindOf : Str → Option NameKind}
theorem isF_all {w : World} {Zb : Addr → Obj → Prop} {fz : Led} {ad : List Addr} {q : Str → Bool} : ∀ {bv : List (Str × V)} {bs : List (Str × Value)}, isF w Zb fz ad bv bs → (bv.all fun y => q y.1) = true → (bs.all fun y => q y.1) = true
  | [], bs, h, k => by subst h; rfl
  | (x, v) :: r, bs, h, k => by
    refine oEEAA h fun u us e92 h1 h2 => ?_
    subst e92
    rw [List.all_cons, Bool.and_eq_true] at k ⊢
    exact ⟨k.1, isF_all h2 k.2⟩
theorem bindL_rel : ∀ {bv : List (Str × V)} {bs : List (Str × Value)} {mV : Str → Option V} {m : Str → Option Value}, isF c.X.w c.X.Zb fz (adr ml) bv bs → (∀ y v, mV y = some v → ∃ u, m y = some u ∧ c.v fz ml v u) → ∀ y v, bindLV kindOf bv mV y = some v → ∃ u, bindL kindOf bs m y = some u ∧ c.v fz ml v u
  | [], bs, mV, m, h, k, y, v, e => by obtain rfl : bs = [] := h; exact k y v e
  | (x, w) :: r, bs, mV, m, h, k, y, v, e => by
    refine oEEAA h fun u us e92 h1 h2 => ?_
    subst e92
    unfold bindLV at e
    unfold bindL
    refine bindL_rel h2 (fun y v => ?_) y v e
    by_cases q : kindOf x = some .local
    · rw [if_pos q, if_pos q]
      by_cases q2 : y = x
      · simp only [q2, if_true]
        intro e; cases e; exact ⟨u, rfl, h1⟩
      · simp only [q2, if_false]; exact k y v
    · rw [if_neg q, if_neg q]; exact k y v
theorem bindC_rel : ∀ {bv : List (Str × V)} {bs : List (Str × Value)} {mV : Str → Option V} {m : Str → Option Value}, isF c.X.w c.X.Zb fz (adr ml) bv bs → (∀ y v, mV y = some v → ∃ u, m y = some u ∧ c.v fz ml v u) → ∀ y v, bindCV kindOf bv mV y = some v → ∃ u, bindC kindOf bs m y = some u ∧ c.v fz ml v u
  | [], bs, mV, m, h, k, y, v, e => by obtain rfl : bs = [] := h; exact k y v e
  | (x, w) :: r, bs, mV, m, h, k, y, v, e => by
    refine oEEAA h fun u us e92 h1 h2 => ?_
    subst e92
    unfold bindCV at e
    unfold bindC
    refine bindC_rel h2 (fun y v => ?_) y v e
    by_cases q : kindOf x = some .local
    · rw [if_pos q, if_pos q]; exact k y v
    · rw [if_neg q, if_neg q]
      by_cases q2 : y = x
      · simp only [q2, if_true]
        intro e; cases e; exact ⟨u, rfl, h1⟩
      · simp only [q2, if_false]; exact k y v
theorem kts_memX {cn : Str} {cs : Scope} {L a b : Addr} {ccd : Value} {cl : List (Str × Addr)} {outer : List Env} (hm : b ∈ (envX cn cs L a ccd cl :: outer).filterMap (·.frame)) : b = L ∨ b ∈ outer.filterMap (·.frame) := by
  refine oEA (List.mem_filterMap.mp hm) fun env he hf => ?_
  rcases List.mem_cons.mp he with rfl | he
  · exact .inl (Option.some.inj hf).symm
  · exact .inr (List.mem_filterMap.mpr ⟨env, he, hf⟩)
theorem cells_fst {cm : Str → Option Value} : ∀ {cs : List (Str × Addr)} {cells : Led}, CellsAre cm cs cells → cells.map (·.1) = cs.map (·.2)
  | _, _, .nil => rfl
  | _, _, .cons _ r => by rw [List.map_cons, List.map_cons, cells_fst r]
theorem cells_are {cm : Str → Option Value} {ad : List Addr} (mono : ∀ v u, c.v fz ml v u → isV c.X.w c.X.Zb fz ad v u) : ∀ {cv : List (Str × Option V)} {cs : List (Str × Addr)} {cells : Led} {pre : List Addr}, CellsAre cm cs cells → cs.map (·.1) = cv.map (·.1) → (∀ p ∈ cv, ∀ v, p.2 = some v → ∃ u, cm p.1 = some u ∧ c.v fz ml v u) →
    memIs c fz ad (cv.map fun p => M.cel p.2) cells ∧ ∀ x i, (celIx pre.length cv).lookup x = some i → ∃ a, cs.lookup x = some a ∧ (pre ++ cells.map (·.1))[i]? = some a := by
  intro ls9
  induction ls9 with
  | nil =>
    intro cs cells pre CA e h
    cases CA with
    | nil => exact ⟨rfl, fun x i hx => nomatch hx⟩
    | cons _ _ => cases e
  | cons h9 cv ih =>
    obtain ⟨x, ov⟩ := h9
    intro cs cells pre CA e h
    cases CA with
    | nil => cases e
    | @cons n a o cs cells hd r =>
      refine oA (List.cons.inj e) fun e90 e2 => ?_
      subst e90
      refine oA (ih (pre := pre ++ [a]) r e2 fun p hp => h p (.tail _ hp)) fun k1 k2 => ?_
      refine ⟨⟨_, _, rfl, ⟨_, hd, ?_⟩, k1⟩, fun y i hy => ?_⟩
      · cases ov with
        | none => trivial
        | some v =>
          refine oEA (h _ (.head _) v rfl) fun u hu hv => ?_
          exact ⟨u, hu, mono _ _ hv⟩
      · unfold celIx at hy
        rw [List.lookup_cons] at hy ⊢
        by_cases q : y = n
        · subst q
          rw [beq_self_eq_true] at hy ⊢
          cases hy
          exact ⟨a, rfl, by rw [List.getElem?_append_right (Nat.le_refl _), Nat.sub_self]; rfl⟩
        · rw [beq_false_of_ne q] at hy ⊢
          obtain ⟨a', h1, h2⟩ := k2 y i (by rw [List.length_append]; exact hy)
          exact ⟨a', h1, by rw [List.append_assoc] at h2; exact h2⟩
theorem cf_above : ∀ (names : List (Str × NameKind)) (n : Nat) (acc : List (Str × Addr)), (∀ p ∈ acc, n ≤ p.2 → False) → ∀ p ∈ cellsFrom n names acc, p ∈ acc ∨ n ≤ p.2 := by
  intro ls9
  induction ls9 with
  | nil =>
    intro n acc h p hp
    exact .inl hp
  | cons h9 r ih =>
    obtain ⟨x, k⟩ := h9
    intro n acc h p hp
    unfold cellsFrom at hp
    split at hp
    · rcases ih (n + 1) ((x, n) :: acc) (fun q hq hle => by
        rcases List.mem_cons.mp hq with rfl | hq
        · exact absurd hle (by show ¬ n + 1 ≤ n; lia)
        · exact h q hq (by lia)) p hp with h1 | h1
      · rcases List.mem_cons.mp h1 with rfl | h1
        · exact .inr (Nat.le_refl _)
        · exact .inl h1
      · exact .inr (by lia)
    · exact ih n acc h p hp
theorem cf_nd : ∀ (names : List (Str × NameKind)) (n : Nat) (acc : List (Str × Addr)), (∀ p ∈ acc, p.2 < n) → (acc.map (·.2)).Nodup → ((cellsFrom n names acc).map (·.2)).Nodup := by
  intro ls9
  induction ls9 with
  | nil =>
    intro n acc h k
    exact k
  | cons h9 r ih =>
    obtain ⟨x, kd⟩ := h9
    intro n acc h k
    unfold cellsFrom
    split
    · refine ih (n + 1) ((x, n) :: acc) (fun q hq => ?_) ?_
      · rcases List.mem_cons.mp hq with rfl | hq
        · exact Nat.lt_succ_self _
        · exact Nat.lt_succ_of_lt (h q hq)
      · rw [List.map_cons]
        refine List.nodup_cons.mpr ⟨fun hm => ?_, k⟩
        refine oEA (List.mem_map.mp hm) fun q hq e => ?_
        have := h q hq
        rw [e] at this
        exact Nat.lt_irrefl _ this
    · exact ih n acc h k
theorem cells_nd {cm : Str → Option Value} {names : List (Str × NameKind)} {n : Nat} {cells : Led} (CA : CellsAre cm (cellsFrom n names []) cells) : (cells.map (·.1)).Nodup := by
  rw [cells_fst CA]; exact cf_nd names n [] (fun _ h => nomatch h) List.nodup_nil
theorem cells_above {cm : Str → Option Value} {names : List (Str × NameKind)} {n : Nat} {cells : Led} (CA : CellsAre cm (cellsFrom n names []) cells) : ∀ a ∈ cells.map (·.1), n ≤ a := by
  rw [cells_fst CA]
  intro a ha
  refine oEA (List.mem_map.mp ha) fun p hp e92 => ?_
  subst e92
  rcases cf_above names n [] (fun _ h => nomatch h) p hp with h | h
  · cases h
  · exact h
theorem Rel.nocel {X : Cb} {sc : Scope} {cel : List (Str × Nat)} {n : Nat} {h : Heap} (R : Rel ⟨X, sc, cel, n⟩ σ fz ml h) : Rel ⟨X, sc, [], n⟩ σ fz ml h :=
  ⟨⟨R.ok.below, R.ok.kin, R.ok.top, R.ok.kind, R.ok.dep, R.ok.unt, R.ok.zb, R.ok.kz, R.ok.eg, R.ok.ek, R.ok.es, R.ok.eb, R.ok.ld, R.ok.lc⟩, R.fr, R.news, R.nd, memIs.cx (c := ⟨X, sc, [], n⟩) (c' := ⟨X, sc, cel, n⟩) rfl rfl R.mem, (fun _ _ h => nomatch h), R.n0, R.hi⟩
theorem def_coreC (cv : List (Str × Option V)) (loc1 : List (Str × V)) {PR : List M → Prop} {dp' un' lv' : Nat} {gd' : Option (List Code)} (bv : List (Str × V)) (hd' : dp' + 1 + lv' < 900) (hu' : un' + 3 + 20 * lv' < 9000) (ho : (wrt.heap_1 c.X.w.params).lookup f = some ⟨oc, od, .func (fnOf name qual params body scope dV kV doc pm an cdv ct), osl⟩) (hcd : codeIn (wrt.heap_1 c.X.w.params) cdv qual = true)
    (hb : ∀ (s : Shared) (fz ml : Led) (us : List Value), (wrt.heap_1 c.X.w.params).In s.heap → c.l fz ml vs us → ∃ bs, BindsTo s (fnOf name qual params body scope dV kV doc pm an cdv ct) ⟨us, []⟩ bs ∧ isF c.X.w c.X.Zb fz (adr ml) bv bs)
    (hkind : (bv.all fun y => scope.names.lookup y.1 == some .local || scope.names.lookup y.1 == some .cell) = true) (hnd : ((cellsFrom 0 scope.names []).map (·.1)).Nodup) (hcv : cv.map (·.1) = (cellsFrom 0 scope.names []).map (·.1))
    (hl1 : ∀ x v, loc1.lookup x = some v → bindLV (fun y => scope.names.lookup y) bv (fun _ => none) x = some v) (hc1 : ∀ p ∈ cv, ∀ v, p.2 = some v → bindCV (fun y => scope.names.lookup y) bv (fun _ => none) p.1 = some v)
    (h : ∀ X' : Cb, X'.w = c.X.w → X'.lv = lv' → (∀ m ∈ ρm, oldM ρm.length m) → oldL ρm.length vs → Cx.IsFn ⟨X', scope, celIx ρm.length cv, ρm.length⟩ → X'.ccd = cdv → WX ⟨X', scope, celIx ρm.length cv, ρm.length⟩ body ⟨loc1, ρm ++ cv.map fun p => M.cel p.2⟩ (OutR ρm.length P PR))
    (hk : scope.kind = .function) (hco : scope.isCoroutine = false) (hgen : scope.isGenerator = false) {s : Shared} {fz ml : Led} {us : List Value} {Q E : Value → Shared → Prop} {RR : Result → Shared → Prop} (R : Rel c ⟨ρl, ρm⟩ fz ml s.heap) (hu : c.l fz ml vs us) (k : Post c ρl fz ml P Q s) (kr : PostRE c ρl fz ml PR E s) (hQ : ∀ v s', Q v s' → RR (.ok (.ret v)) s') (hE : ∀ e s', E e s' → RR (.error e) s') :
    codeAny c.M (ktrTop dp' un' gd' c.X.cn c.X.cs c.X.L c.X.a c.X.ccd c.X.cl c.X.outer) (.call (.ref f) ⟨us, []⟩) RR s := by
  refine hold fun _ hK9 => ?_
  obtain ⟨m, lf, F, LA, lo⟩ := R.fr
  refine hK9 ?_
  refine oEA (hb s fz ml us R.K hu) fun bs hbind hbs => ?_
  have hml : ml.length = ρm.length := R.mem.len
  refine Mine.code_defGC (env := envX c.X.cn c.X.cs c.X.L c.X.a c.X.ccd c.X.cl) (news := ml ++ fz ++ c.X.xs) R.ok.below F R.ok.kin R.news R.ok.top rfl rfl R.ok.kind ho hcd (room_of (l := lv') (show dp' + lv' < 900 by lia)) hbind
    (isF_all (q := fun y => scope.names.lookup y == some .local || scope.names.lookup y == some .cell) hbs hkind) hnd ?_ hco hgen hk
  intro g L' h₁ tk0 cells hK FG F' N' CA B' X' T' hlow
  let X1 : Cb := Cb.mk c.X.w lv' c.X.p c.X.loose c.X.mean c.X.mg c.X.mb (dp' + 1) (un' + 3) gd' qual scope f cdv (cellsFrom (L' + 1) scope.names []) (envX c.X.cn c.X.cs c.X.L c.X.a c.X.ccd c.X.cl :: c.X.outer) (ktrTop dp' un' gd' c.X.cn c.X.cs c.X.L c.X.a c.X.ccd c.X.cl c.X.outer) c.X.base g L' c.X.Zb c.X.xs (envX qual scope L' f cdv (cellsFrom (L' + 1) scope.names [])) none
  have ok1 : Cx.Ok ⟨X1, scope, celIx ρm.length cv, ρm.length⟩ := by
    refine ⟨B', X', T', hk, ?_, ?_, fun a o z => ?_, R.ok.kz, rfl, hk, rfl, rfl, ?_, ?_⟩
    · exact hd'
    · exact hu'
    · have z0 := R.ok.zb a o z
      refine hK a o (F.keep _ _ z0) fun q hq e => ?_
      have := (R.news q hq).2.2
      rw [e, z0] at this
      cases this
    · intro x pos u m f s Q E hx hd FF NN LAA hfx hq
      obtain rfl : f = m := LAA
      exact nameX_L FF hfx hq hk hx hd
    · intro x pos cc ob u s Q E hx hd hd2 hl hg hdat hq
      rcases hx with hx | hx
      · exact wpAny_Name (wpAny_loadName_cell hk hx hl ⟨ob, hg, hdat⟩ hq) hd
      · exact wpAny_Name (wpAny_loadName_free hk hx hl ⟨ob, hg, hdat⟩ hq hd2) hd
  have hcs : (cellsFrom (L' + 1) scope.names []).map (·.1) = cv.map (·.1) := by rw [hcv]; exact (cellsFrom_names scope.names (L' + 1) 0 [] [] rfl)
  have hrel : ∀ p ∈ cv, ∀ v, p.2 = some v → ∃ u, bindC (fun y => scope.names.lookup y) bs (fun _ => none) p.1 = some u ∧ c.v fz ml v u := fun p hp v hv => bindC_rel (kindOf := fun y => scope.names.lookup y) (mV := fun _ => none) (m := fun _ => none) hbs (fun _ _ e => by cases e) _ _ (hc1 p hp v hv)
  have xc : Ext fz ml fz (ml ++ cells) := ⟨fun _ h => h, adr_pre⟩
  refine oA (cells_are (c := c) (fz := fz) (ml := ml) (pre := adr ml) (ad := adr (ml ++ cells)) (fun v u h => isVmono (c := c) xc h) CA hcs hrel) fun q1 q2 => ?_
  have hlenA : (adr ml).length = ρm.length := by rw [List.length_map]; exact hml
  have R1 : Rel ⟨X1, scope, celIx ρm.length cv, ρm.length⟩ ⟨loc1, ρm ++ cv.map fun p => M.cel p.2⟩ fz (ml ++ cells) h₁ := by
    have hm : ∀ q, q ∈ ml ++ cells ++ fz ++ c.X.xs ↔ q ∈ cells ++ (ml ++ fz ++ c.X.xs) := fun q => by simp only [List.mem_append, or_assoc, or_left_comm, or_comm]
    refine ⟨ok1, ⟨_, _, F', rfl, fun x v hx => ?_⟩, fun q hq => N' q ((hm q).mp hq), ?_, ?_, (fun x i hx => ?_), (by show ρm.length ≤ (ml ++ cells).length; rw [List.length_append]; lia), fun q hq => ?_⟩
    · refine oEA (bindL_rel (kindOf := fun y => scope.names.lookup y) (c := c) (fz := fz) (ml := ml) (mV := fun _ => none) (m := fun _ => none) hbs (fun _ _ e => by cases e) _ _ (hl1 x v hx)) fun u h1 h2 => ?_
      exact ⟨u, h1, isVmono (c := c) xc h2⟩
    · have hp : List.Perm (ml ++ cells ++ fz ++ c.X.xs) (cells ++ (ml ++ fz ++ c.X.xs)) := by
        rw [List.append_assoc (ml ++ cells), List.append_assoc ml cells, List.append_assoc ml fz]
        exact (List.perm_append_comm_assoc ml cells (fz ++ c.X.xs))
      rw [(hp.map _).nodup_iff, List.map_append, List.nodup_append]
      refine ⟨cells_nd CA, R.nd, fun a ha b hb e => ?_⟩
      subst e
      refine oEA (List.mem_map.mp hb) fun q hq e => ?_
      have h1 : q.1 < L' := hlow q hq
      have h2 : L' + 1 ≤ a := cells_above CA a ha
      have h3 : q.1 = a := e
      rw [h3] at h1
      exact absurd h2 (Nat.not_le_of_gt (Nat.lt_succ_of_lt h1))
    · exact memIs.cx (c := ⟨X1, scope, celIx ρm.length cv, ρm.length⟩) (c' := c) rfl rfl ((R.mem.mono xc.1 xc.2).app q1)
    · obtain ⟨a, h1, h2⟩ := q2 x i (by rw [hlenA]; exact hx)
      exact ⟨a, h1, by rw [adr, List.map_append]; exact h2⟩
    · rcases List.mem_append.mp ((hm q).mp hq) with hq | hq
      · have h2 : L' + 1 ≤ q.1 := cells_above CA q.1 (List.mem_map_of_mem hq)
        have h3 := modules_low R.ok.top.nolimit
        have h5 := FG.above
        exact Nat.lt_of_lt_of_le (Nat.lt_trans (Nat.lt_of_lt_of_le h3 h5) (Nat.lt_of_lt_of_le FG.ns.lt F'.above)) (Nat.le_trans (Nat.le_succ _) h2)
      · exact R.hi q hq
  refine h X1 rfl rfl R.oldmem (by have := isL.old _ _ hu; rw [List.length_map, hml] at this; exact this) ⟨rfl, rfl, rfl⟩ rfl ⟨rfl, rfl, rfl⟩ _ fz (ml ++ cells) _ _ R1 ?_ ?_
  rotate_left
  · intro σ' fz' ml' h' tk' u hp x1 RE
    have hx1 : Ext fz ml fz' ml' := ⟨x1.1, by
      have := x1.2
      rw [show (adr (ml ++ cells)).take ρm.length = adr ml by rw [adr, List.map_append, ← hlenA, List.take_left]] at this
      exact this⟩
    refine hold fun _ hK9 => ?_
    obtain ⟨e, G, m2, f2, rfl, F2, LA2, lo2, RS, hsl⟩ := RE.fl
    refine hK9 ?_
    refine hold fun _ hK9 => ?_
    refine oEEAAA RS fun B a0 hB hBG hl hair => ?_
    refine hK9 ?_
    refine hair.leave (Around.frames_deeper B'.stack) rfl fun h2 x1 x2 => ?_
    have r1 : RaisedX c.X.base g (envX c.X.cn c.X.cs c.X.L c.X.a c.X.ccd c.X.cl :: c.X.outer) c.X.L e (.ref 59) (ml' ++ fz' ++ c.X.xs) h2 := ⟨B, a0, hB, fun b o q nm => hBG b o (F2.keep b o q) (fun hm => by
      rcases kts_memX hm with z | z
      · rw [z, kts_self F2] at q
        cases q
      · exact nm z), fun q hq => ⟨(hl q hq).1, kts_none F2.keep (hl q hq).2.1, (hl q hq).2.2⟩, .inr (.inr x1)⟩
    have r3 : g.UpToSlots h2 := (Heap.UpToSlots.of_keeps F2.keep).trans (hsl.trans x2)
    exact hE _ _ <| kr _ fz' ml' h2 tk' _ hp hx1 (RelE.back (c' := ⟨X1, scope, celIx ρm.length cv, ρm.length⟩) R rfl rfl rfl LA lo FG RE r1 r3 hx1)
  intro fl σ' fz' ml' h' tk' u hp x1 R2 hfl
  have hx1 : Ext fz ml fz' ml' := ⟨x1.1, by
    have := x1.2
    rw [show (adr (ml ++ cells)).take ρm.length = adr ml by rw [adr, List.map_append, ← hlenA, List.take_left]] at this
    exact this⟩
  have hne : fl ≠ .rai := fun e => by subst e; exact hfl
  have hp : P (retV fl) σ'.mem ∨ (ρm.length ≤ σ'.mem.length ∧ ∃ v', Frz ρm.length σ'.mem (retV fl) v' ∧ (∀ m ∈ σ'.mem.take ρm.length, oldM ρm.length m) ∧ P v' (σ'.mem.take ρm.length)) := by
    cases fl <;> first | exact hp | exact absurd rfl hne
  have hv : isV c.X.w c.X.Zb fz' (adr ml') (retV fl) (match (generalizing := false) u with | .ret v => v | _ => .none) := by
    cases fl with
    | nxt => obtain rfl : u = .next := hfl; exact mk_none (c := c)
    | brk => obtain rfl : u = .brk := hfl; exact mk_none (c := c)
    | cnt => obtain rfl : u = .cont := hfl; exact mk_none (c := c)
    | rai => exact hfl.elim
    | ret v => obtain ⟨u', rfl, hv⟩ := hfl; exact hv
  obtain ⟨m2, f2, F2, LA2, lo2⟩ := R2.fr
  refine leaveK_ F2 R2.news fun FF NN => ?_
  rcases hp with hp | ⟨hlen, v', hfr, hold, hp⟩
  · exact hQ _ _ <| k _ _ fz' ml' h' tk' _ hp hx1 (R.back (c' := ⟨X1, scope, celIx ρm.length cv, ρm.length⟩) rfl rfl rfl LA lo FF NN R2 hx1) hv
  · have hn : ρm.length ≤ σ'.mem.length := hlen
    have R2 := R2.nocel
    have RC := R2.cut (n := ρm.length) (Nat.le_refl _) hlen (fun x i hx => by cases hx) hold (loc' := []) (fun x v' hx => by cases hx)
    have e : ml'.take ρm.length ++ (ml'.drop ρm.length ++ fz') ++ c.X.xs = ml' ++ fz' ++ c.X.xs := by rw [← List.append_assoc, List.take_append_drop]
    have hx2 : Ext fz ml (ml'.drop ρm.length ++ fz') (ml'.take ρm.length) := ⟨fun p hp => List.mem_append_right _ (x1.1 p hp), by
      rw [adr_take]
      refine oE hx1.2 fun t ht => ?_
      rw [← ht, List.take_append_of_le_length (by rw [List.length_map]; lia), List.take_of_length_le (by rw [List.length_map]; lia)]
      exact List.prefix_refl _⟩
    exact hQ _ _ <| k _ _ _ _ h' tk' _ hp hx2 (R.back (c' := ⟨X1, scope, [], ρm.length⟩) rfl rfl rfl LA lo FF (by rw [e]; exact NN) RC hx2) (hfr.sound R2 hv)
theorem WR.defCT {PR : List M → Prop} (bv : List (Str × V)) (cv : List (Str × Option V)) (loc1 : List (Str × V)) (hlv : 1 ≤ c.X.lv) (ho : (wrt.heap_1 c.X.w.params).lookup f = some ⟨oc, od, .func (fnOf name qual params body scope dV kV doc pm an cdv ct), osl⟩) (hcd : codeIn (wrt.heap_1 c.X.w.params) cdv qual = true)
    (hb : ∀ (s : Shared) (fz ml : Led) (us : List Value), (wrt.heap_1 c.X.w.params).In s.heap → c.l fz ml vs us → ∃ bs, BindsTo s (fnOf name qual params body scope dV kV doc pm an cdv ct) ⟨us, []⟩ bs ∧ isF c.X.w c.X.Zb fz (adr ml) bv bs)
    (hkind : (bv.all fun y => scope.names.lookup y.1 == some .local || scope.names.lookup y.1 == some .cell) = true) (hnd : ((cellsFrom 0 scope.names []).map (·.1)).Nodup) (hcv : cv.map (·.1) = (cellsFrom 0 scope.names []).map (·.1))
    (hl1 : ∀ x v, loc1.lookup x = some v → bindLV (fun y => scope.names.lookup y) bv (fun _ => none) x = some v) (hc1 : ∀ p ∈ cv, ∀ v, p.2 = some v → bindCV (fun y => scope.names.lookup y) bv (fun _ => none) p.1 = some v)
    (h : ∀ X' : Cb, X'.w = c.X.w → X'.lv = c.X.lv - 1 → (∀ m ∈ ρm, oldM ρm.length m) → oldL ρm.length vs → Cx.IsFn ⟨X', scope, celIx ρm.length cv, ρm.length⟩ → X'.ccd = cdv → WX ⟨X', scope, celIx ρm.length cv, ρm.length⟩ body ⟨loc1, ρm ++ cv.map fun p => M.cel p.2⟩ (OutR ρm.length P PR))
    (hk : scope.kind = .function) (hco : scope.isCoroutine = false) (hgen : scope.isGenerator = false) : WR c (callV (.ref f)) vs ⟨ρl, ρm⟩ P PR :=
  fun s fz ml us Q E R hu k kr => wpAny_call (def_coreC cv loc1 (lv' := c.X.lv - 1) bv (by have := R.ok.dep; lia) (by have := R.ok.unt; lia) ho hcd hb hkind hnd hcv hl1 hc1 h hk hco hgen R hu k kr (fun _ _ q => q) fun _ _ q => q)
theorem WR.defC {PR : List M → Prop} (bv : List (Str × V)) (cv : List (Str × Option V)) (loc1 : List (Str × V)) (hlv : 1 ≤ c.X.lv) (ho : (wrt.heap_1 c.X.w.params).lookup f = some ⟨oc, od, .func (fnOf name qual params body scope dV kV doc pm an cdv ct), osl⟩) (hcd : codeIn (wrt.heap_1 c.X.w.params) cdv qual = true)
    (hb : ∀ (s : Shared) (fz ml : Led) (us : List Value), (wrt.heap_1 c.X.w.params).In s.heap → c.l fz ml vs us → ∃ bs, BindsTo s (fnOf name qual params body scope dV kV doc pm an cdv ct) ⟨us, []⟩ bs ∧ isF c.X.w c.X.Zb fz (adr ml) bv bs)
    (hkind : (bv.all fun y => scope.names.lookup y.1 == some .local || scope.names.lookup y.1 == some .cell) = true) (hnd : ((cellsFrom 0 scope.names []).map (·.1)).Nodup) (hcv : cv.map (·.1) = (cellsFrom 0 scope.names []).map (·.1))
    (hl1 : ∀ x v, loc1.lookup x = some v → bindLV (fun y => scope.names.lookup y) bv (fun _ => none) x = some v) (hc1 : ∀ p ∈ cv, ∀ v, p.2 = some v → bindCV (fun y => scope.names.lookup y) bv (fun _ => none) p.1 = some v)
    (h : ∀ X' : Cb, X'.w = c.X.w → X'.lv = c.X.lv - 1 → (∀ m ∈ ρm, oldM ρm.length m) → oldL ρm.length vs → Cx.IsFn ⟨X', scope, celIx ρm.length cv, ρm.length⟩ → WX ⟨X', scope, celIx ρm.length cv, ρm.length⟩ body ⟨loc1, ρm ++ cv.map fun p => M.cel p.2⟩ (OutR ρm.length P PR))
    (hk : scope.kind = .function) (hco : scope.isCoroutine = false) (hgen : scope.isGenerator = false) : WR c (callV (.ref f)) vs ⟨ρl, ρm⟩ P PR :=
  WR.defCT bv cv loc1 hlv ho hcd hb hkind hnd hcv hl1 hc1 (fun X' a1 a2 a3 a4 a5 _ => h X' a1 a2 a3 a4 a5) hk hco hgen
theorem hs_nil {g : Str → Option V} : ∀ x v, ([] : List (Str × V)).lookup x = some v → g x = some v := fun _ _ h => nomatch h
theorem hs_cons {g : Str → Option V} {l : List (Str × V)} {x : Str} {v : V} (h : g x = some v) (k : ∀ x v, l.lookup x = some v → g x = some v) : ∀ y w, ((x, v) :: l).lookup y = some w → g y = some w := fun y w e => by
  rw [List.lookup_cons] at e
  by_cases q : y = x
  · subst q; rw [beq_self_eq_true] at e; cases e; exact h
  · rw [beq_false_of_ne q] at e; exact k y w e
theorem hc_nil {g : Str → Option V} : ∀ p ∈ ([] : List (Str × Option V)), ∀ v, p.2 = some v → g p.1 = some v := fun _ h => nomatch h
theorem hc_cons {g : Str → Option V} {l : List (Str × Option V)} {x : Str} {v : V} (h : g x = some v) (k : ∀ p ∈ l, ∀ v, p.2 = some v → g p.1 = some v) : ∀ p ∈ (x, some v) :: l, ∀ v, p.2 = some v → g p.1 = some v := fun p hp w e => by
  rcases List.mem_cons.mp hp with rfl | hp
  · cases e; exact h
  · exact k p hp w e
theorem hc_none {g : Str → Option V} {l : List (Str × Option V)} {x : Str} (k : ∀ p ∈ l, ∀ v, p.2 = some v → g p.1 = some v) : ∀ p ∈ (x, none) :: l, ∀ v, p.2 = some v → g p.1 = some v := fun p hp w e => by
  rcases List.mem_cons.mp hp with rfl | hp
  · cases e
  · exact k p hp w e
end
end Mine
end
section
open PySem PySem.W PyProof.Rows PySem.Spec PySem.Calls
namespace Mine
theorem WE.mono {c : Cx} {e : Expr} {ρl : List (Str × V)} {ρm : List M} {P P' : V → List M → Prop} (h : WE c e ⟨ρl, ρm⟩ P) (k : ∀ v m, P v m → P' v m) : WE c e ⟨ρl, ρm⟩ P' := fun s fz ml Q E R q => h s fz ml Q E R fun v m fz1 ml1 h1 tk1 u hp x1 R1 i1 => q v m fz1 ml1 h1 tk1 u (k v m hp) x1 R1 i1
theorem WT.mono {c : Cx} {e : Expr} {ρl : List (Str × V)} {ρm : List M} {P P' : Bool → List M → Prop} (h : WT c e ⟨ρl, ρm⟩ P) (k : ∀ v m, P v m → P' v m) : WT c e ⟨ρl, ρm⟩ P' := fun s fz ml Q E R q => h s fz ml Q E R fun v m fz1 ml1 h1 tk1 hp x1 R1 => q v m fz1 ml1 h1 tk1 (k v m hp) x1 R1
theorem WTs.mono {c : Cx} {P P' : Bool → List M → Prop} : ∀ {es : List Expr} {σ : St}, WTs c es σ P → (∀ v m, P v m → P' v m) → WTs c es σ P'
  | [], σ, h, k => k _ _ h
  | [e], σ, h, k => WT.mono (show WT c e σ P from h) k
  | e :: e2 :: es, σ, h, k => (show False from h).elim
theorem names_free {l : List (Str × NameKind)} {cel : List (Str × Nat)} (h : (l.all fun y => y.2 != .free || (cel.lookup y.1).isSome) = true) : ∀ y ∈ l, y.2 = .free → (cel.lookup y.1).isSome = true := fun y hy e => by
  have := List.all_eq_true.mp h y hy
  rw [e] at this
  simpa using this
theorem names_cell {l : List (Str × NameKind)} (h : (l.all fun y => y.2 != .cell) = true) : ∀ y ∈ l, y.2 ≠ .cell := fun y hy e => by
  have := List.all_eq_true.mp h y hy
  rw [e] at this
  simp at this
theorem names_local {l : List (Str × NameKind)} (h : (l.all fun y => y.2 != .local || l.lookup y.1 == some .local) = true) : ∀ y ∈ l, y.2 = .local → l.lookup y.1 = some .local := fun y hy e => by
  have := List.all_eq_true.mp h y hy
  rw [e] at this
  simpa using this
section
variable {c : Cx} {σ : St} {ρl : List (Str × V)} {ρm : List M} {P : V → List M → Prop} {PX : Fl → St → Prop} {elt target iter : Expr} {ifs : List Expr} {scope : Scope} {pos spos : Pos} {α : Type}
theorem WE.lmap (xs : List α) (tv g : α → V) (q : α → Bool) (m0 : List M) (hiter : WE c iter ⟨ρl, ρm⟩ fun v m => Src v (xs.map tv) ∧ xs.length ≤ 1000000 ∧ m = m0)
    (turn : ∀ x ∈ xs, ∃ loc, TgtC (relabelS scope c.sc) target (tv x) loc ∧ ∀ X' : Cb, X'.w = c.X.w → X'.lv = c.X.lv → WTs ⟨X', relabelS scope c.sc, celC scope c.cel, c.n0⟩ ifs ⟨loc, m0⟩ (fun ok m' => m' = m0 ∧ ok = q x ∧ (q x = true → WE ⟨X', relabelS scope c.sc, celC scope c.cel, c.n0⟩ elt ⟨loc, m0⟩ fun y m'' => y = g x ∧ m'' = m0)))
    (done : P (.lst ((xs.filter q).map g)) m0)
    (hfree : (scope.names.all fun y => y.2 != .free || (c.cel.lookup y.1).isSome) = true := by rfl) (hcell : (scope.names.all fun y => y.2 != .cell) = true := by rfl) (hkind : scope.kind = .function := by rfl) (hnames : (scope.names.all fun y => y.2 != .local || scope.names.lookup y.1 == some .local) = true := by rfl)
    (hs : ∀ x, foldedSetIterable iter c.env x = pure x := by intro _; rfl) : WE c (.ListComp elt [⟨target, iter, ifs, 0⟩] scope pos) ⟨ρl, ρm⟩ P := by
  refine WE.lcomp (fun items ys m => ∃ pre post, xs = pre ++ post ∧ items = post.map tv ∧ ys = (pre.filter q).map g ∧ m = m0) ?_ ?_ ?_ (names_free hfree) (names_cell hcell) hkind (names_local hnames) hs
  · intro s fz ml Q E R k
    refine hiter s fz ml Q E R fun v m fz1 ml1 h1 tk1 u ⟨S, hl, hm⟩ x1 R1 i1 => k v m fz1 ml1 h1 tk1 u ⟨_, S, by rw [List.length_map, sizeLine_eq]; lia, [], xs, rfl, rfl, rfl, hm⟩ x1 R1 i1
  · intro y rest ys m q84
    refine oEEAAA q84 fun pre post e1 e2 e3 e95 => ?_
    subst e95
    cases post with
    | nil => cases e2
    | cons x post =>
      refine oA (List.cons.inj e2) fun e90 e91 => ?_
      subst e90
      subst e91
      obtain ⟨loc, T, h⟩ := turn x (by rw [e1]; simp)
      refine ⟨loc, T, fun X' hw hlv => ?_⟩
      refine (h X' hw hlv).mono fun ok m' hp => ?_
      refine oAA hp fun e4 e5 h2 => ?_
      subst e4
      have key : ∀ b, q x = b → ((pre ++ [x]).filter q).map g = (pre.filter q).map g ++ (if b = true then [g x] else []) := fun b hb => by
        rw [List.filter_append, List.map_append]
        cases b <;> simp [hb]
      by_cases hq : q x = true
      · rw [e5, if_pos hq]
        refine (h2 hq).mono fun v m2 ⟨ev, em⟩ => ⟨pre ++ [x], post, by rw [e1]; simp, rfl, ?_, em⟩
        rw [key _ hq, if_pos rfl, e3, ev]
      · rw [e5, if_neg hq]
        refine ⟨pre ++ [x], post, by rw [e1]; simp, rfl, ?_, rfl⟩
        rw [key false (by simpa using hq), e3]
        simp
  · intro ys m q82
    refine oEEAAA q82 fun pre post e1 e2 e94 e95 => ?_
    subst e94
    subst e95
    have : post = [] := by cases post with | nil => rfl | cons => cases e2
    subst this
    rw [List.append_nil] at e1
    subst e1
    exact done
theorem mem_at {m l : List M} {k : Nat} {x : M} (h : l[k]? = some x) : (m ++ l)[m.length + k]? = some x := by
  rw [List.getElem?_append_right (Nat.le_add_right _ _), Nat.add_sub_cancel_left]; exact h
theorem mem_old {m l : List M} {i : Nat} {x : M} (h : m[i]? = some x) : (m ++ l)[i]? = some x := by
  rw [List.getElem?_append_left (get_lt h)]; exact h
theorem out_same {PR : List M → Prop} {m l : List M} {v : V} {loc : List (Str × V)} (ho : old m.length v) (hm : ∀ x ∈ m, oldM m.length x) (h : P v m) : OutR m.length P PR (.ret v) ⟨loc, m ++ l⟩ :=
  .inr ⟨by rw [List.length_append]; exact Nat.le_add_right _ _, v, .same ho, by rw [List.take_left]; exact hm, by rw [List.take_left]; exact h⟩
theorem out_frz {PR : List M → Prop} {m l : List M} {v v' : V} {loc : List (Str × V)} (ho : Frz m.length (m ++ l) v v') (hm : ∀ x ∈ m, oldM m.length x) (h : P v' m) : OutR m.length P PR (.ret v) ⟨loc, m ++ l⟩ :=
  .inr ⟨by rw [List.length_append]; exact Nat.le_add_right _ _, v', ho, by rw [List.take_left]; exact hm, by rw [List.take_left]; exact h⟩
theorem W0.lmapA {y : Str} {py : Pos} (xs : List α) (tv g : α → V) (q : α → Bool) (m0 : List M) (hiter : WE c iter ⟨ρl, ρm⟩ fun v m => Src v (xs.map tv) ∧ xs.length ≤ 1000000 ∧ m = m0)
    (turn : ∀ x ∈ xs, ∃ loc, TgtC (relabelS scope c.sc) target (tv x) loc ∧ ∀ X' : Cb, X'.w = c.X.w → X'.lv = c.X.lv → WTs ⟨X', relabelS scope c.sc, celC scope c.cel, c.n0⟩ ifs ⟨loc, m0⟩ (fun ok m' => m' = m0 ∧ ok = q x ∧ (q x = true → WE ⟨X', relabelS scope c.sc, celC scope c.cel, c.n0⟩ elt ⟨loc, m0⟩ fun y m'' => y = g x ∧ m'' = m0)))
    (done : PX .nxt ⟨(y, .lst ((xs.filter q).map g)) :: ρl, m0⟩)
    (hfree : (scope.names.all fun y => y.2 != .free || (c.cel.lookup y.1).isSome) = true := by rfl) (hcell : (scope.names.all fun y => y.2 != .cell) = true := by rfl) (hkind : scope.kind = .function := by rfl) (hnames : (scope.names.all fun y => y.2 != .local || scope.names.lookup y.1 == some .local) = true := by rfl)
    (hy : c.sc.names.lookup y = some .local := by rfl) (hck : c.sc.kind = .function := by rfl) (hsw : ∀ env : Env, env.scope = c.sc → swapsWith (.ListComp elt [⟨target, iter, ifs, 0⟩] scope pos) (some (.Name y py)) spos.line env = pure true)
    (hs : ∀ x, foldedSetIterable iter c.env x = pure x := by intro _; rfl) : W0 c (.Assign [.Name y py] (.ListComp elt [⟨target, iter, ifs, 0⟩] scope pos) spos) ⟨ρl, ρm⟩ PX := by
  refine W0.lasg (fun items ys m => ∃ pre post, xs = pre ++ post ∧ items = post.map tv ∧ ys = (pre.filter q).map g ∧ m = m0) ?_ ?_ ?_ hy hck (.inr trivial) hsw (names_free hfree) (names_cell hcell) hkind (names_local hnames) hs
  · intro s fz ml Q E R k
    refine hiter s fz ml Q E R fun v m fz1 ml1 h1 tk1 u ⟨S, hl, hm⟩ x1 R1 i1 => k v m fz1 ml1 h1 tk1 u ⟨_, S, by rw [List.length_map, sizeLine_eq]; lia, [], xs, rfl, rfl, rfl, hm⟩ x1 R1 i1
  · intro y rest ys m q84
    refine oEEAAA q84 fun pre post e1 e2 e3 e95 => ?_
    subst e95
    cases post with
    | nil => cases e2
    | cons x post =>
      refine oA (List.cons.inj e2) fun e90 e91 => ?_
      subst e90
      subst e91
      obtain ⟨loc, T, h⟩ := turn x (by rw [e1]; simp)
      refine ⟨loc, T, fun X' hw hlv => ?_⟩
      refine (h X' hw hlv).mono fun ok m' hp => ?_
      refine oAA hp fun e4 e5 h2 => ?_
      subst e4
      have key : ∀ b, q x = b → ((pre ++ [x]).filter q).map g = (pre.filter q).map g ++ (if b = true then [g x] else []) := fun b hb => by
        rw [List.filter_append, List.map_append]
        cases b <;> simp [hb]
      by_cases hq : q x = true
      · rw [e5, if_pos hq]
        refine (h2 hq).mono fun v m2 ⟨ev, em⟩ => ⟨pre ++ [x], post, by rw [e1]; simp, rfl, ?_, em⟩
        rw [key _ hq, if_pos rfl, e3, ev]
      · rw [e5, if_neg hq]
        refine ⟨pre ++ [x], post, by rw [e1]; simp, rfl, ?_, rfl⟩
        rw [key false (by simpa using hq), e3]
        simp
  · intro ys m q82
    refine oEEAAA q82 fun pre post e1 e2 e94 e95 => ?_
    subst e94
    subst e95
    have : post = [] := by cases post with | nil => rfl | cons => cases e2
    subst this
    rw [List.append_nil] at e1
    subst e1
    exact done
end
end Mine
end
section
open PySem PySem.W PyProof.Rows PySem.Spec PySem.Calls
namespace Mine
section
variable {c : Cx} {σ : St} {ρl : List (Str × V)} {ρm : List M} {P : V → List M → Prop} {lower upper value slice : Expr} {pos : Pos} {x : Str} {i j : Int} {lo hi : Option Int}
theorem slc_new {s : Shared} {fz ml : Led} {Q : Value → Shared → Prop} {tk : Nat} {vl vu : Value} {h : Heap} {loc : List (Str × V)} {m : List M} (R : Rel c ⟨loc, m⟩ fz ml h) (hl : IsPart vl lo) (hu : IsPart vu hi) (hp : P (.slc lo hi) m) (k : Post c loc fz ml P Q s) :
    Q (.ref h.objs.size) (shr s (h.push { cls := .type "slice", data := .fields #[vl, vu, .none] }) tk) := by
  refine oA (R.newfz (o := { cls := .type "slice", data := .fields #[vl, vu, .none] }) (Heap.get?_push_size _ rfl)) fun R2 x2 => ?_
  exact k _ _ _ ml _ tk _ hp x2 R2 (by exact ⟨_, _, _, rfl, .inr (.head _), hl, hu⟩)
theorem WE.slcF (h : WE c lower ⟨ρl, ρm⟩ fun a m => ∃ i, a = .int i ∧ P (.slc (some i) Option.none) m) : WE c (.Slice (some lower) Option.none Option.none pos) ⟨ρl, ρm⟩ P :=
  fun s fz ml Q E R k => wpAny_Slice (wpAny_evalPart_some (h s fz ml _ E R fun a m fz1 ml1 h1 tk1 u ⟨i, e, hp⟩ x1 R1 i1 => by
    subst e
    obtain ⟨t, rfl⟩ := v_int i1
    exact wpAny_evalPart_none (wpAny_evalPart_none (slc_new R1 (.int i t) .none hp (k.after (h := h1) (tk := tk1) x1)))))
theorem WE.slcU (h : WE c upper ⟨ρl, ρm⟩ fun a m => ∃ i, a = .int i ∧ P (.slc Option.none (some i)) m) : WE c (.Slice Option.none (some upper) Option.none pos) ⟨ρl, ρm⟩ P :=
  fun s fz ml Q E R k => wpAny_Slice (wpAny_evalPart_none (wpAny_evalPart_some (h s fz ml _ E R fun a m fz1 ml1 h1 tk1 u ⟨i, e, hp⟩ x1 R1 i1 => by
    subst e
    refine oE (v_int i1) fun t e91 => ?_
    subst e91
    exact wpAny_evalPart_none (slc_new R1 .none (.int i t) hp (k.after (h := h1) (tk := tk1) x1)))))
theorem WE.slcB (h : WE c lower ⟨ρl, ρm⟩ fun a m => ∃ i, a = .int i ∧ WE c upper ⟨ρl, m⟩ fun b m' => ∃ j, b = .int j ∧ P (.slc (some i) (some j)) m') : WE c (.Slice (some lower) (some upper) Option.none pos) ⟨ρl, ρm⟩ P :=
  fun s fz ml Q E R k => wpAny_Slice (wpAny_evalPart_some (h s fz ml _ E R fun a m fz1 ml1 h1 tk1 u ⟨i, e, hp⟩ x1 R1 i1 => by
    subst e
    obtain ⟨t, rfl⟩ := v_int i1
    exact wpAny_evalPart_some (hp _ fz1 ml1 _ E R1 fun b m' fz2 ml2 h2 tk2 u' ⟨j, e, hp⟩ x2 R2 i2 => by
      subst e
      obtain ⟨t', rfl⟩ := v_int i2
      exact wpAny_evalPart_none (slc_new R2 (.int i t) (.int j t') hp (k.after (h := h2) (tk := tk2) (x1.trans x2))))))
theorem part_of {vl : Value} (h : IsPart vl lo) : ∃ l : Option (Int × Tok), vl = partValue l ∧ l.map (·.1) = lo := by
  cases h with
  | none => exact ⟨none, rfl, rfl⟩
  | int i t => exact ⟨some (i, t), rfl, rfl⟩
theorem W2.slc_s (hl : x.length ≤ 16777216) (h : P (.str (Txt.slice x lo hi)) ρm)
    (hsub : ∀ u t, subscripted slice false (.str x t) (.ref u) = operate [.ref u, .str x t] (getItem (.str x t) (.ref u)) := by intro _ _; rfl) : W2 c (subscriptTail value slice) (.str x) (.slc lo hi) ⟨ρl, ρm⟩ P :=
  fun s fz ml u u' Q E R hi hk K => by
    refine oE (v_str hi) fun t e91 => ?_
    subst e91
    obtain ⟨r, vl, vu, rfl, z, p1, p2⟩ := v_slc hk
    refine oEA (part_of p1) fun l1 e91 e1 => ?_
    subst e91
    refine oEA (part_of p2) fun l2 e91 e2 => ?_
    subst e91
    subst e1 e2
    refine tail_any (typeIs_str _ _ _) F.slot_str_getitem.lookup (wpAny_getItem_str_slice (l := l1) (u := l2) (st := none) ⟨_, R.zf z, rfl, rfl⟩ rfl ?_) (hsub _ _)
    exact post_val_or_str ⟨Nat.le_trans (Txt.slice_le x _ _) (by rw [sizeLine_eq]; exact hl), fun t' k => K _ _ fz ml s.heap k _ h .rfl R mk_str⟩
theorem W2.slc_b {b : Array UInt8} (hl : b.size ≤ 16777216) (h : P (.byt (KBy.picked b lo hi)) ρm)
    (hsub : ∀ u t, subscripted slice false (.bytes b t) (.ref u) = operate [.ref u, .bytes b t] (getItem (.bytes b t) (.ref u)) := by intro _ _; rfl) : W2 c (subscriptTail value slice) (.byt b) (.slc lo hi) ⟨ρl, ρm⟩ P :=
  fun s fz ml u u' Q E R hi hk K => by
    refine oE (v_byt hi) fun t e91 => ?_
    subst e91
    obtain ⟨r, vl, vu, rfl, z, p1, p2⟩ := v_slc hk
    exact tail_any (typeIs_bytes _ _ _) FB.slot_bytes_getitem.lookup (getItem_meets (typeIs_bytes _ _ _) (by decide) FB.slot_bytes_getitem FB.entry_bytes_getitem (FB.args_bytes_getitem_2 _ _) (KBc.meets_slice2 b t _ p1 p2)
      ⟨⟨_, R.zf z, rfl, rfl⟩, Nat.le_trans (KBc.size_picked_le b _ _) (by rw [sizeLine_eq]; exact hl), fun t' k => K _ _ fz ml s.heap k _ h .rfl R mk_byt⟩) (hsub _ _)
theorem l_drop {fz ml : Led} : ∀ {vs : List V} {us : List Value} {n : Nat}, c.l fz ml vs us → c.l fz ml (vs.drop n) (us.drop n)
  | vs, us, 0, h => h
  | [], us, n + 1, h => by rw [l_nil h]; exact mk_nil
  | v :: vs, us, n + 1, h => by obtain ⟨u, us, rfl, a, b⟩ := l_cons h; exact l_drop (n := n) b
theorem l_take {fz ml : Led} : ∀ {vs : List V} {us : List Value} {n : Nat}, c.l fz ml vs us → c.l fz ml (vs.take n) (us.take n)
  | vs, us, 0, h => mk_nil
  | [], us, n + 1, h => by rw [l_nil h]; exact mk_nil
  | v :: vs, us, n + 1, h => by obtain ⟨u, us, rfl, a, b⟩ := l_cons h; exact mk_cons a (l_take (n := n) b)
theorem W2.slc_l {vs : List V} {a : V} {m n : Nat} (S : LstAt ⟨ρl, ρm⟩ a vs) (hl : vs.length ≤ 16777216) (hmn : m ≤ n) (hn : n ≤ vs.length) (h : P (.lst ((vs.drop m).take (n - m))) ρm)
    (hsub : ∀ u t, subscripted slice false (.ref u) (.ref t) = operate [.ref t, .ref u] (getItem (.ref u) (.ref t)) := by intro _ _; rfl) : W2 c (subscriptTail value slice) a (.slc (some (m : Int)) (some (n : Int))) ⟨ρl, ρm⟩ P :=
  fun s fz ml u u' Q E R hi hk K => by
    refine oEEEEAAAAAA (S.get R hi) fun ad o ws k e94 hg e1 _ e2 l _ => ?_
    subst e94
    obtain ⟨r, vl, vu, rfl, z, p1, p2⟩ := v_slc hk
    have hL : s.heap.IsList ad ws.toArray := ⟨o, hg, e1, k, e2⟩
    have hlen := l_len l
    refine tail_any hL.typeIs slot_list_getitem.lookup (wpAny_getItem_list_slice hL ⟨_, R.zf z, rfl, rfl⟩ p1 p2 .none (by simp) ?_ (by rw [List.size_toArray, hlen, sizeLine_eq]; exact hl)) (hsub _ _)
    rw [slicePick_run ws.toArray m n (by rw [List.size_toArray, hlen]; exact hn) hmn]
    refine oA (R.newfz (o := { cls := Value.type "list", data := Data.seq (List.take (n - m) (List.drop m ws.toArray.toList)).toArray }) (Heap.get?_push_size _ rfl)) fun R2 x2 => ?_
    exact K _ _ _ ml _ s.toks _ h x2 R2 (by exact ⟨_, _, _, 0, rfl, .inr (.head _), rfl, rfl, isLmono x2 (l_take (l_drop l))⟩)
theorem WL.len_s (hl : x.length ≤ 16777216) (h : P (.int x.length) ρm) : WL c (callV (.builtin "len")) [.str x] ⟨ρl, ρm⟩ P :=
  fun s fz ml us Q E R hu kq => by
    obtain ⟨u1, _, rfl, hi, hu⟩ := l_cons hu
    obtain rfl := l_nil hu
    refine oE (v_str hi) fun t e91 => ?_
    subst e91
    exact PySem.P.len_str (by lia) (kq _ _ fz ml s.heap _ _ h .rfl R mk_int)
theorem Meth.starts : Meth c (.str x) "startswith" (.builtin "str.startswith") σ :=
  fun s fz ml u Q E pl R hi k => by
    refine oE (v_str hi) fun t e91 => ?_
    subst e91
    exact GM.startswith (k s.heap s.toks R)
theorem WL.starts {y : Str} (h : P (.bool (Txt.startswith x y)) ρm) : WL c (callV (.builtin "str.startswith")) [.str x, .str y] ⟨ρl, ρm⟩ P :=
  fun s fz ml us Q E R hu kq => by
    obtain ⟨u1, _, rfl, hi, hu⟩ := l_cons hu
    obtain ⟨u2, _, rfl, hj, hu⟩ := l_cons hu
    obtain rfl := l_nil hu
    refine oE (v_str hi) fun t e91 => ?_
    subst e91
    refine oE (v_str hj) fun t' e91 => ?_
    subst e91
    exact SC.startswith (kq _ _ fz ml s.heap s.toks _ h .rfl R mk_bool)
end
end Mine
end
section
open PySem PySem.W PyProof.Rows PySem.Spec PySem.Calls
namespace Mine
set_option compiler.extract_closed false
set_option hygiene false
local macro_rules | `(tactic| wrow_args r1 $a $b $c $d) => `(tactic| with_reducible first | refine $a ?_ | refine $b ?_ | refine $c ?_ | refine $d ?_)
local macro_rules | `(tactic| wrow_args r2 $a $b $c $d) => `(tactic| ((with_reducible first | refine $a ?_ ?_ | refine $b ?_ ?_ | refine $c ?_ ?_ | refine $d ?_ ?_); exact rfl))
local macro_rules | `(tactic| wrow_args r3 $a $b $c $d) => `(tactic| ((with_reducible first | refine $a ?_ ?_ ?_ | refine $b ?_ ?_ ?_ | refine $c ?_ ?_ ?_ | refine $d ?_ ?_ ?_); rotate_left; exact rfl))
local macro_rules | `(tactic| walk_at "ws") => `(tactic| first
  | ((with_reducible show WX _ _ _ _); dsimp only)
  | wrow_args r3 Mine.S.asgP Mine.S.ifP Mine.S.retP Mine.S.val
  | wrow_args r3 Mine.S.tst Mine.S.args Mine.S.b2 Mine.S.c2
  | wrow_args r1 NX.nxt NX.ret NX.brk NX.cnt
  | wrow_args r1 WX.nil Mine.S.if Mine.S.ret WT.not
  | wrow_args r2 Mine.S.asg Mine.S.expr Mine.S.cmp Mine.S.tcmp
  | wrow_args r2 Mine.S.arg Mine.S.arg Mine.S.arg Mine.S.arg
  | wrow_args r1 WX.cons WE.bin WE.un WE.sub
  | wrow_args r1 WE.ife WU.bool W1.neg W0.if_
  | wrow_args r1 WT.and WT.and0 WT.or WT.or0
  | ((with_reducible show WE _ (Expr.Attribute _ _ _) _ _); refine WE.attr ?_)
  | ((with_reducible show WE _ (Expr.Name _ _) _ _); first | refine WE.loc rfl ?_ | refine Mine.S.cel (k := 0) rfl rfl ?_ | refine Mine.S.cel (k := 1) rfl rfl ?_ | refine Mine.S.cel (k := 2) rfl rfl ?_)
  | ((with_reducible show WT _ (Expr.Compare _ _ _ _) _ _); refine WT.chain ?_)
  | ((with_reducible show W0 _ _ _ _); first | refine W0.ret ?_ | ((with_reducible show W0 _ (Stmt.Assign [Expr.Name _ _] _ _) _ _); refine W0.asg ?_) | ((with_reducible show W0 _ (Stmt.Assign [Expr.Subscript _ _ _] _ _) _ _); refine W0.setItem ?_) | ((with_reducible show W0 _ (Stmt.Expr _ _) _ _); refine W0.expr ?_))
  | ((with_reducible refine G.ite ?_); first | refine Eq.mpr (if_pos rfl) ?_ | refine Eq.mpr (if_neg (fun h => absurd (show false = true from h) (by decide))) ?_))
section
variable {c : Cx} {σ : St} {P : V → List M → Prop} {rs : List Rg} {i : Int}
theorem w_range (hl : 1 ≤ c.X.lv) (h : P (optV (rangeAt rs i)) σ.mem) : WL c (callV (.ref 522)) [.lst (rs.map rgV), .int i] σ P := by
  refine WL.def_ (lc [("ranges", .lst (rs.map rgV)), ("index", .int i)]) hl (by k_is) (by k_is) (hb2 fun _ _ _ => BindsTo.of_eq rfl) rfl (fun X' hw hlv hm hv hf => ?_) (by decide) rfl rfl rfl
  repeat walk_at "ws"
  refine W0.forL (fun items loc m => ∃ pre post, rs = pre ++ post ∧ items = post.map rgV ∧ m = σ.mem ∧ loc = lc [("found", optV (rangeAt pre i)), ("index", .int i)]) ?_ ?_ ?_
  · repeat walk_at "ws"
    exact ⟨_, .lst, oldL_rgs, lc [("found", _), ("index", _)], .cons rfl (.cons rfl .nil), [], rs, rfl, rfl, rfl, rfl⟩
  · intro X2 hw2 hl2 x rest loc m q87
    refine oEEAAA q87 fun pre post e1 e2 e94 e95 => ?_
    subst e94
    subst e95
    cases post with
    | nil => cases e2
    | cons g post =>
      refine oA (List.cons.inj e2) fun e90 e91 => ?_
      subst e90
      subst e91
      refine ⟨_, .name rfl, ?_⟩
      repeat walk_at "ws"
      refine W2.item_t (j := 0) (v := .int g.first) (by decide) (by decide) rfl rfl ?_
      repeat walk_at "ws"
      split
      · rename_i hc
        have hc := of_decide_eq_true hc
        repeat walk_at "ws"
        exact ⟨lc [("found", _), ("index", _)], .cons rfl (.cons rfl .nil), pre ++ [g], post, by rw [e1]; simp, rfl, rfl, by rw [rangeAt_snoc, if_pos hc]; rfl⟩
      · rename_i hc
        repeat walk_at "ws"
        exact ⟨lc [("found", _), ("index", _)], .cons rfl (.cons rfl .nil), pre ++ [g], post, by rw [e1]; simp, rfl, rfl, by rw [rangeAt_snoc, if_neg (fun h => hc (decide_eq_true h))]⟩
  · intro loc' loc m H q84
    refine oEEAAA q84 fun pre post e1 e2 e94 e95 => ?_
    subst e94
    subst e95
    have : post = [] := by cases post with | nil => rfl | cons => cases e2
    subst this
    rw [List.append_nil] at e1
    subst e1
    refine WX.loc H ?_
    repeat walk_at "ws"
    exact .inl h
end
theorem TgtB.tupA {c : Cx} {elts : List Expr} {k : Nat} {p : Pos} {xs : List Str} {ws : List V} (hn : nmsOf elts = some xs) (hx : (xs.all fun x => decide (c.sc.names.lookup x = some .local)) = true) (hl : ws.length = xs.length) : TgtB c (.Tuple elts k p) (.tup ws) (xs.zip ws).reverse :=
  .tup hn (fun x hm => of_decide_eq_true (List.all_eq_true.mp hx x hm)) hl
theorem small_log {i : Int} (h : i.natAbs < 2 ^ 41) : i.natAbs.log2 < 1920 := by
  by_cases z : i.natAbs = 0
  · rw [z]; decide
  · exact Nat.lt_of_lt_of_le ((Nat.log2_lt z).mpr h) (by decide)
theorem W0.unpA {c : Cx} {ρl : List (Str × V)} {ρm : List M} {PX : Fl → St → Prop} {e : Expr} {pos : Pos} {elts : List Expr} {kk : Nat} {tpos : Pos} {xs : List Str} (hn : nmsOf elts = some xs) (hx : (xs.all fun x => decide (c.sc.names.lookup x = some .local)) = true) (h : WE c e ⟨ρl, ρm⟩ fun v m => ∃ ws, v = .tup ws ∧ ws.length = xs.length ∧ PX .nxt ⟨(xs.zip ws).reverse ++ ρl, m⟩)
    (h1 : swapsWithSole [Expr.Tuple elts kk tpos] e pos.line c.env = pure false := by rfl) (h2 : swappedStores [Expr.Tuple elts kk tpos] e c.env = pure none := by rfl) : W0 c (.Assign [.Tuple elts kk tpos] e pos) ⟨ρl, ρm⟩ PX :=
  W0.unp hn (fun x hm => of_decide_eq_true (List.all_eq_true.mp hx x hm)) h h1 h2
theorem bits_le {x : Int} {n : Nat} (h : x.natAbs < 2 ^ n) : Builtin.Int.intBits x ≤ n := by
  unfold Builtin.Int.intBits
  split
  · exact Nat.zero_le _
  · rename_i q
    exact (Nat.log2_lt (by simpa using q)).mpr h
section
variable {c : Cx} {σ : St} {ρl : List (Str × V)} {ρm : List M} {P : V → List M → Prop} {value slice : Expr} {x y : Str} {i j n : Int}
theorem W2.item_s (h0 : 0 ≤ i) (h1 : i < x.length) (hl : x.length ≤ 16777216) (h : P (.str (Txt.item x i)) ρm)
    (hsub : ∀ u t, subscripted slice false (.str x u) (.int i t) = operate [.str x u, .int i t] (getItem (.str x u) (.int i t)) := by intro _ _; rfl) : W2 c (subscriptTail value slice) (.str x) (.int i) ⟨ρl, ρm⟩ P :=
  fun s fz ml u u' Q E R hi hk K => by
    refine oE (v_str hi) fun t e91 => ?_
    subst e91
    refine oE (v_int hk) fun t' e91 => ?_
    subst e91
    exact tail_any (typeIs_str _ _ _) F.slot_str_getitem.lookup (SB.getItem (fitsSsize_of (N := 9223372036854775808) (by lia) (by lia) (Int.le_refl _)) (charAt_isSome (by lia) h1) (K _ _ fz ml s.heap _ _ h .rfl R mk_str)) (hsub _ _)
theorem W2.notin_ss (h : P (.bool (!(!(Builtin.Str.occurrences y x 0 y.length 1).isEmpty))) ρm) : W2 c (compareOp .NotIn) (.str x) (.str y) ⟨ρl, ρm⟩ P :=
  fun s fz ml u u' Q E R hi hj k => by obtain ⟨t, rfl⟩ := v_str hi; obtain ⟨t', rfl⟩ := v_str hj; exact notIn_str (k _ _ fz ml s.heap s.toks _ h .rfl R mk_bool)
theorem Meth.upper : Meth c (.str x) "upper" (.builtin "str.upper") σ :=
  fun s fz ml u Q E pl R hi k => by
    refine oE (v_str hi) fun t e91 => ?_
    subst e91
    exact GM.upper (k s.heap s.toks R)
theorem WL.upper (hl : x.length ≤ 5592405) (h : P (.str (Txt.upper x)) ρm) : WL c (callV (.builtin "str.upper")) [.str x] ⟨ρl, ρm⟩ P :=
  fun s fz ml us Q E R hu kq => by
    obtain ⟨u1, _, rfl, hi, hu⟩ := l_cons hu
    obtain rfl := l_nil hu
    obtain ⟨t, rfl⟩ := v_str hi
    exact SCL.upper hl fun _ => kq _ _ fz ml s.heap _ _ h .rfl R mk_str
theorem Meth.sindex : Meth c (.str x) "index" (.builtin "str.index") σ :=
  fun s fz ml u Q E pl R hi k => by
    refine oE (v_str hi) fun t e91 => ?_
    subst e91
    exact GM.index (k s.heap s.toks R)
theorem WL.sindex (hin : (Builtin.Str.occurrences x y 0 x.length 1).isEmpty = false) (h : P (.int (Txt.find x y)) ρm) : WL c (callV (.builtin "str.index")) [.str x, .str y] ⟨ρl, ρm⟩ P :=
  fun s fz ml us Q E R hu kq => by
    obtain ⟨u1, _, rfl, hi, hu⟩ := l_cons hu
    obtain ⟨u2, _, rfl, hj, hu⟩ := l_cons hu
    obtain rfl := l_nil hu
    refine oE (v_str hi) fun t e91 => ?_
    subst e91
    refine oE (v_str hj) fun t' e91 => ?_
    subst e91
    exact index_or rfl (fun _ q => by rw [hin] at q; cases q) fun _ _ => kq _ _ fz ml s.heap _ _ h .rfl R mk_int
theorem WL.int_s (hn : PySem.intText? x = some n) (hl : x.length ≤ 640) (h : P (.int n) ρm) : WL c (callV (.type "int")) [.str x] ⟨ρl, ρm⟩ P :=
  fun s fz ml us Q E R hu kq => by
    obtain ⟨u1, _, rfl, hi, hu⟩ := l_cons hu
    obtain rfl := l_nil hu
    refine oE (v_str hi) fun t e91 => ?_
    subst e91
    exact KIN.call_text hn hl (kq _ _ fz ml s.heap _ _ h .rfl R mk_int)
theorem WL.divmod (hj : 1 ≤ j) (h0 : 0 ≤ i) (h1 : i ≤ 1000000000) (hj2 : j ≤ 1000) (h : P (.tup [.int (i / j), .int (i % j)]) ρm) : WL c (callV (.builtin "divmod")) [.int i, .int j] ⟨ρl, ρm⟩ P :=
  fun s fz ml us Q E R hu kq => by
    obtain ⟨u1, _, rfl, hi, hu⟩ := l_cons hu
    obtain ⟨u2, _, rfl, hk, hu⟩ := l_cons hu
    obtain rfl := l_nil hu
    obtain ⟨t, rfl⟩ := v_int hi
    obtain ⟨t', rfl⟩ := v_int hk
    refine hold fun _ hK9 => ?_
    obtain ⟨m, f, F, LA, lo⟩ := R.fr
    refine hK9 ?_
    refine divmod_N F R.news (by lia) (fun h' F' N' => ?_)
    have n1 := N' _ (.head _)
    have R2 := (R.move F' LA lo fun q hq => N' q (List.mem_cons_of_mem _ hq)).addfz n1.1 R.fresh.1 R.fresh.2.1 R.fresh.2.2 R.modules
    have x2 : Ext fz ml ((s.heap.objs.size, { cls := .type "tuple", data := .seq #[.int (i.fdiv j) s.toks, .int (i.fmod j) (s.toks + 1)] }) :: fz) ml := ⟨fun p hp => List.mem_cons_of_mem _ hp, List.prefix_refl _⟩
    refine kq _ _ _ ml h' _ _ h x2 R2 ?_
    rw [Int.fdiv_eq_ediv_of_nonneg _ (by lia), Int.fmod_eq_emod_of_nonneg _ (by lia)] at *
    refine ⟨_, _, [_, _], 0, rfl, .inr (.head _), rfl, rfl, ?_⟩
    refine ⟨_, _, rfl, mk_int (c := c), ?_⟩
    refine ⟨_, _, rfl, mk_int (c := c), ?_⟩
    rfl
end
theorem item_len (x : Str) (i : Int) : (Txt.item x i).length = 1 := rfl
section
variable {c : Cx} {σ : St} {P : V → List M → Prop} {n : Int}
theorem w_letters (hl : 1 ≤ c.X.lv) (h1 : 1 ≤ n) (h2 : n ≤ 1000002) (h : P (.str (lettersS n)) σ.mem) : WL c (callV (.ref 489)) [.int n] σ P := by
  refine WL.def_ (lc [("number", .int n)]) hl (by k_is) (by k_is) (hb1 fun _ _ => BindsTo.of_eq rfl) rfl (fun X' hw hlv hm hv hf => ?_) (by decide) rfl rfl rfl
  have e1 : (n - 1).fmod 26 = (n - 1) % 26 := Int.fmod_eq_emod_of_nonneg _ (by decide)
  have e2 : (n - 1).fdiv 26 = (n - 1) / 26 := Int.fdiv_eq_ediv_of_nonneg _ (by decide)
  repeat walk_at "ws"
  refine WE.gloV (t := .str AL) (by k_is) (fun _ _ _ => mk_str) ?_
  repeat walk_at "ws"
  refine W2.mod_ii (by decide) ?_
  rw [e1]
  refine W2.item_s (by lia) (by show _ < (26 : Int); lia) (by decide) ?_
  repeat walk_at "ws"
  refine W2.div_ii (by decide) (by decide) ?_
  rw [e2]
  repeat walk_at "ws"
  refine W2.mul_si (by rw [item_len]; decide) (by lia) (by lia) ?_
  left
  unfold lettersS at h
  exact h
theorem w_lawletters (hl : 1 ≤ c.X.lv) (h1 : 1 ≤ n) (h2 : n ≤ 1000002) (h : P (.str (lettersS n)) σ.mem) : WL c (callV (.ref 635)) [.int n] σ P := by
  refine WL.def_ (lc [("number", .int n)]) hl (by k_is) (by k_is) (hb1 fun _ _ => BindsTo.of_eq rfl) rfl (fun X' hw hlv hm hv hf => ?_) (by decide) rfl rfl rfl
  repeat walk_at "ws"
  refine W0.unpA (xs := ["times", "place"]) rfl rfl ?_
  refine WE.callB (by k_is) rfl (by decide) ?_
  repeat walk_at "ws"
  refine WL.divmod (by decide) (by lia) (by lia) (by decide) ?_
  refine ⟨_, rfl, rfl, ?_⟩
  repeat walk_at "ws"
  refine WE.callB (by k_is) rfl (by decide) ?_
  repeat walk_at "ws"
  refine WL.chr (by lia) (by lia) ?_
  repeat walk_at "ws"
  refine W2.mul_si (by show 1 ≤ 16; decide) (by lia) (by lia) ?_
  left
  obtain ⟨j, hj⟩ : ∃ j : Fin 26, (n - 1) % 26 = ((j.val : Nat) : Int) := ⟨⟨((n - 1) % 26).toNat, by lia⟩, by show _ = (((n - 1) % 26).toNat : Int); lia⟩
  unfold lettersS at h
  rw [hj, show Txt.item "ABCDEFGHIJKLMNOPQRSTUVWXYZ" ((j.val : Nat) : Int) = _ from al_item j] at h
  rw [hj, show (65 + ((j.val : Nat) : Int)).toNat = 65 + j.val by lia]
  exact h
theorem roman_v (c : Cx) : ∀ fz ml, (∀ a o, (wrt.heap_1 c.X.w.params).lookup a = some o → Zf c.X.Zb fz a o) → c.v fz ml (.tup (romanTab.map fun r => V.tup [.int r.1, .str r.2])) (.ref 463) := fun fz ml hz => by
  have row : ∀ {a : Addr} {i : Int} {x : Str} {o : Obj} {t1 t2 k}, (wrt.heap_1 c.X.w.params).lookup a = some o → o.cls = .type "tuple" → o.data = .seq #[.int i t1, .str x t2] k → c.v fz ml (.tup [.int i, .str x]) (.ref a) := fun {a i x o t1 t2 k} e e1 e2 => by
    unfold Cx.v isV
    exact ⟨a, o, [_, _], k, rfl, hz _ _ e, e1, e2, mk_cons mk_int (mk_cons mk_str mk_nil)⟩
  unfold Cx.v isV
  refine ⟨463, _, [_, _, _, _, _, _, _, _, _, _, _, _, _], _, rfl, hz 463 _ (by k_is), rfl, rfl, ?_⟩
  unfold romanTab
  simp only [List.map_cons, List.map_nil]
  iterate 13 (refine mk_cons (row (by k_is) rfl rfl) ?_)
  exact mk_nil
theorem w_roman (hl : 1 ≤ c.X.lv) (h1 : 0 ≤ n) (h2 : n ≤ 130000000) (h : P (.str (romanS n)) σ.mem) : WL c (callV (.ref 475)) [.int n] σ P := by
  refine WL.def_ (lc [("number", .int n)]) hl (by k_is) (by k_is) (hb1 fun _ _ => BindsTo.of_eq rfl) rfl (fun X' hw hlv hm hv hf => ?_) (by decide) rfl rfl rfl
  repeat walk_at "ws"
  refine W0.forL (fun items loc m => ∃ rs f l, items = rs.map (fun r : Int × Str => V.tup [.int r.1, .str r.2]) ∧ (∀ r ∈ rs, 0 < r.1 ∧ r.1 ≤ 1000 ∧ r.2.length ≤ 2) ∧ m = σ.mem ∧ loc = lc [("found", .str f), ("left", .int l)] ∧ 0 ≤ l ∧ (∀ q r', rs = q :: r' → l ≤ 130000 * q.1) ∧ f.length + 300000 * rs.length ≤ 4000000 ∧ romanGo rs f l = romanS n) ?_ ?_ ?_
  · refine WE.gloV (t := .tup (romanTab.map fun r => V.tup [.int r.1, .str r.2])) (by k_is) (roman_v _) ?_
    exact ⟨_, .tup, by unfold romanTab; simp [oldL, old], lc [("found", _), ("left", _)], .cons rfl (.cons rfl .nil), romanTab, "", n, rfl, by decide, rfl, rfl, h1, (fun q r' e => by cases e; dsimp only; lia), by decide, by unfold romanS; rfl⟩
  · rintro X2 hw2 hl2 x rest loc m ⟨rs, f, l, e1, hr, rfl, rfl, h0, hc, hB, hR⟩
    cases rs with
    | nil => cases e1
    | cons r0 rs =>
      refine oA (List.cons.inj e1) fun e90 e91 => ?_
      subst e90
      subst e91
      obtain ⟨rw, sg⟩ := r0
      refine oAA (hr _ (.head _)) fun k1 k2 k3 => ?_
      have hc0 := hc _ _ rfl
      dsimp only at k1 k2 k3 hc0
      rw [List.length_cons] at hB
      have d1 : l.fdiv rw = l / rw := Int.fdiv_eq_ediv_of_nonneg _ (by lia)
      have d2 : l.fmod rw = l % rw := Int.fmod_eq_emod_of_nonneg _ (by lia)
      have q0 : 0 ≤ l / rw := Int.ediv_nonneg h0 (by lia)
      have q1 : l / rw ≤ 130000 := by
        refine Int.ediv_le_of_le_mul k1 ?_
        exact hc0
      have hm1 := mul_len sg (l / rw) q0
      have hm2 : (Txt.mul sg (l / rw)).length ≤ 260000 := by
        rw [hm1]
        have : sg.length * (l / rw).toNat ≤ 2 * 130000 := Nat.mul_le_mul k3 (by lia)
        lia
      refine ⟨_, TgtB.tupA (xs := ["worth", "signs"]) rfl rfl rfl, ?_⟩
      repeat walk_at "ws"
      refine W2.div_ii (by lia) (log_small (by lia)) ?_
      rw [d1]
      refine W2.mul_si (by lia) q0 (by lia) ?_
      refine W2.add_ss (by lia) ?_
      repeat walk_at "ws"
      refine W2.mod_ii (by lia) ?_
      rw [d2]
      repeat walk_at "ws"
      have hlt := Int.emod_lt_of_pos l k1
      refine ⟨lc [("found", _), ("left", _)], .cons rfl (.cons rfl .nil), rs, f ++ Txt.mul sg (l / rw), l % rw, rfl, fun q hq => hr q (.tail _ hq), rfl, rfl, Int.emod_nonneg _ (by lia), fun q r' e => ?_, ?_, hR⟩
      · have := (hr q (.tail _ (e ▸ .head _))).1
        lia
      · rw [str_len_append]
        lia
  · rintro loc' loc m H ⟨rs, f, l, e1, hr, rfl, rfl, h0, hc, hB, hR⟩
    have e1 : rs = [] := List.map_eq_nil_iff.mp e1.symm
    subst e1
    refine WX.loc H ?_
    repeat walk_at "ws"
    left
    rw [← hR] at h
    exact h
end
theorem same_nil {vs : List V} : Spec.same (.list (toDL vs)) (.list (toDL [])) = vs.isEmpty := by cases vs <;> simp [toDL, Spec.same, Spec.sameAll]
theorem nomix_nil {vs : List V} : SeqAt.noMix (.list (toDL vs)) (.list (toDL [])) = true := by cases vs <;> simp [toDL, SeqAt.noMix, SeqAt.noMixAll]
theorem plain_strs : ∀ xs : List Str, plainL (xs.map V.str) = true
  | [] => rfl
  | g :: rs => Bool.and_eq_true_iff.mpr ⟨rfl, plain_strs rs⟩
theorem toDL_strs : ∀ xs : List Str, toDL (xs.map V.str) = xs.map PyData.str
  | [] => rfl
  | g :: rs => by rw [List.map_cons, List.map_cons]; unfold toDL; rw [toDL_strs rs]; rfl
section
variable {c : Cx} {σ : St} {P : V → List M → Prop} {x : Str}
theorem w_rroman (hl : 2 ≤ c.X.lv) (hx : x.length ≤ 130000) (h0 : ReadOk romanS x none → P .none σ.mem) (h1 : ∀ n, ReadOk romanS x (some n) → P (.int n) σ.mem) : WL c (callV (.ref 482)) [.str x] σ P := by
  refine WL.def_ (lc [("text", .str x)]) (by lia) (by k_is) (by k_is) (hb1 fun _ _ => BindsTo.of_eq rfl) rfl (fun X' hw hlv hm hv hf => ?_) (by decide) rfl rfl rfl
  have hlv : X'.lv = c.X.lv - 1 := hlv
  repeat walk_at "ws"
  refine W0.forL (fun items loc m => ∃ rs t a, items = rs.map (fun r : Int × Str => V.tup [.int r.1, .str r.2]) ∧ rs <:+ romanTab ∧ m = σ.mem ∧ loc = lc [("total", .int t), ("at", .int a), ("text", .str x)] ∧ RInv rs x t a) ?_ ?_ ?_
  · refine WE.gloV (t := .tup (romanTab.map fun r => V.tup [.int r.1, .str r.2])) (by k_is) (roman_v _) ?_
    exact ⟨_, .tup, by unfold romanTab; simp [oldL, old], lc [("total", _), ("at", _), ("text", _)], .cons rfl (.cons rfl (.cons rfl .nil)), romanTab, 0, 0, rfl, List.suffix_refl _, rfl, rfl, by lia, by lia, by lia, by lia, fun m m1 m2 e => ⟨"", m, rfl, by lia, by lia, (fun z => nomatch z), (by rw [e]; unfold romanS; rfl)⟩⟩
  · rintro X2 hw2 hl2 y rest loc m ⟨rs, t, a, e1, hsuf, rfl, rfl, hI⟩
    cases rs with
    | nil => cases e1
    | cons r0 rs =>
      refine oA (List.cons.inj e1) fun e90 e91 => ?_
      subst e90
      subst e91
      obtain ⟨rw, sg⟩ := r0
      refine oA (row_facts hsuf) fun k1 _ => ?_
      have hsg : sg.length ≤ 2 := by
        have hm := hsuf.subset (List.mem_cons_self (a := (rw, sg)))
        revert hm
        have : ∀ r ∈ romanTab, r.2.length ≤ 2 := by decide
        exact fun hm => this _ hm
      refine ⟨_, TgtB.tupA (xs := ["worth", "signs"]) rfl rfl rfl, ?_⟩
      refine WX.cons ?_
      refine W0.whileL (fun n loc m => ∃ t a, loc = lc [("worth", .int rw), ("signs", .str sg), ("total", .int t), ("at", .int a), ("text", .str x)] ∧ m = σ.mem ∧ WInv rw sg rs x t a ∧ n = ((x.length : Int) - a).toNat) _ ⟨lc [("worth", _), ("signs", _), ("total", _), ("at", _), ("text", _)], .cons rfl (.cons rfl (.cons rfl (.cons rfl (.cons rfl .nil)))), t, a, rfl, rfl, winv_start hI k1, rfl⟩ ?_
      rintro n loc m ⟨t, a, rfl, rfl, hW, rfl⟩
      refine oAAAA (id hW) fun b1 b2 b3 b4 _ => ?_
      repeat walk_at "ws"
      refine WE.slcB ?_
      repeat walk_at "ws"
      refine ⟨_, rfl, ?_⟩
      repeat walk_at "ws"
      refine WE.callB (by k_is) rfl (by decide) ?_
      repeat walk_at "ws"
      refine WL.len_s (by lia) ?_
      repeat walk_at "ws"
      refine ⟨_, rfl, ?_⟩
      refine W2.slc_s (by lia) ?_
      repeat walk_at "ws"
      cases e : (Txt.slice x (some a) (some (a + sg.length)) == sg) with
      | true =>
        have W := winv_more hW hsuf e
        have W2 := W.1.2.1
        have W3 := W.2
        repeat walk_at "ws"
        refine WE.callB (by k_is) rfl (by decide) ?_
        repeat walk_at "ws"
        refine WL.len_s (by lia) ?_
        repeat walk_at "ws"
        exact ⟨_, by lia, lc [("worth", _), ("signs", _), ("total", _), ("at", _), ("text", _)], .cons rfl (.cons rfl (.cons rfl (.cons rfl (.cons rfl .nil)))), t + rw, a + sg.length, rfl, rfl, W.1, rfl⟩
      | false =>
        repeat walk_at "ws"
        exact ⟨lc [("total", _), ("at", _), ("text", _)], .cons rfl (.cons rfl (.cons rfl .nil)), rs, t, a, rfl, (List.suffix_cons _ _).trans hsuf, rfl, rfl, winv_done hW hsuf e⟩
  · rintro loc' loc m H ⟨rs, t, a, e1, hsuf, rfl, rfl, hI⟩
    have e1 : rs = [] := List.map_eq_nil_iff.mp e1.symm
    subst e1
    refine oAAAA (id hI) fun b1 b2 b3 b4 _ => ?_
    refine WX.loc H ?_
    repeat walk_at "ws"
    by_cases ht : 0 < t
    · rw [decide_eq_true ht]
      repeat walk_at "ws"
      refine WE.callG (by k_is) (by k_is) ?_
      repeat walk_at "ws"
      refine w_roman (by show 1 ≤ X'.lv; lia) (by lia) (by lia) ?_
      repeat walk_at "ws"
      cases e : (romanS t == x) with
      | true =>
        repeat walk_at "ws"
        left
        exact h1 _ (rr_found hI e ht)
      | false =>
        repeat walk_at "ws"
        left
        exact h0 (rr_none hI (Or.inl e))
    · rw [decide_eq_false ht]
      repeat walk_at "ws"
      left
      exact h0 (rr_none hI (Or.inr ht))
theorem w_rletters (hl : 1 ≤ c.X.lv) (hx : x.length ≤ 130000) (h0 : ReadOk lettersS x none → P .none σ.mem) (h1 : ∀ n, ReadOk lettersS x (some n) → P (.int n) σ.mem) : WL c (callV (.ref 496)) [.str x] σ P := by
  refine WL.def_ (lc [("text", .str x)]) (by lia) (by k_is) (by k_is) (hb1 fun _ _ => BindsTo.of_eq rfl) rfl (fun X' hw hlv hm hv hf => ?_) (by decide) rfl rfl rfl
  repeat walk_at "ws"
  cases e0 : (x == "") with
  | true =>
    repeat walk_at "ws"
    left
    exact h0 (letters_none (Or.inl e0))
  | false =>
    have hx1 : 1 ≤ x.length := by
      refine Nat.pos_of_ne_zero fun z => ?_
      have : x = "" := str_ext (List.eq_nil_of_length_eq_zero (by rw [cl_len]; exact z))
      rw [this] at e0
      exact absurd e0 (by decide)
    repeat walk_at "ws"
    refine W2.item_s (by decide) (by lia) (by lia) ?_
    repeat walk_at "ws"
    refine WE.gloV (t := .str AL) (by k_is) (fun _ _ _ => mk_str) ?_
    refine W2.notin_ss ?_
    repeat walk_at "ws"
    cases e1 : (Builtin.Str.occurrences AL (Txt.item x 0) 0 AL.length 1).isEmpty with
    | true =>
      repeat walk_at "ws"
      left
      exact h0 (letters_none (Or.inr (Or.inl e1)))
    | false =>
      repeat walk_at "ws"
      refine W2.item_s (by decide) (by lia) (by lia) ?_
      repeat walk_at "ws"
      refine WE.callB (by k_is) rfl (by decide) ?_
      repeat walk_at "ws"
      refine WL.len_s (by lia) ?_
      refine W2.mul_si (by rw [item_len]; decide) (by lia) (by lia) ?_
      repeat walk_at "ws"
      cases e2 : (x != Txt.mul (Txt.item x 0) ↑x.length) with
      | true =>
        repeat walk_at "ws"
        left
        exact h0 (letters_none (Or.inr (Or.inr e2)))
      | false =>
        repeat walk_at "ws"
        refine WE.methB (id := "str.index") ?_
        refine WE.gloV (t := .str AL) (by k_is) (fun _ _ _ => mk_str) ?_
        refine ⟨Meth.sindex, ?_⟩
        repeat walk_at "ws"
        refine W2.item_s (by decide) (by lia) (by lia) ?_
        repeat walk_at "ws"
        refine WL.sindex e1 ?_
        repeat walk_at "ws"
        refine WE.callB (by k_is) rfl (by decide) ?_
        repeat walk_at "ws"
        refine WL.len_s (by lia) ?_
        repeat walk_at "ws"
        refine W2.mul_ii (IntMulOk.of_le (m := 62) (n := 62) (bits_le (by decide)) (bits_le (by lia)) (by decide)) ?_
        repeat walk_at "ws"
        left
        exact h1 _ (letters_found e1 e2 hx1)
end
section
variable {c : Cx} {σ : St} {P : V → List M → Prop} {x st : Str} {n : Int}
theorem w_figures (hl : 1 ≤ c.X.lv) (hx : x.length ≤ 130000) (hA : AscS x) (h0 : ReadOk figS x none → P .none σ.mem) (h1 : ∀ n, ReadOk figS x (some n) → P (.int n) σ.mem) : WL c (callV (.ref 501)) [.str x] σ P := by
  refine WL.def_ (lc [("text", .str x)]) (by lia) (by k_is) (by k_is) (hb1 fun _ _ => BindsTo.of_eq rfl) rfl (fun X' hw hlv hm hv hf => ?_) (by decide) rfl rfl rfl
  repeat walk_at "ws"
  cases e0 : (x == "") with
  | true =>
    repeat walk_at "ws"
    left
    exact h0 (fig_none (Or.inl e0))
  | false =>
    have hx1 : 1 ≤ x.length := by
      refine Nat.pos_of_ne_zero fun z => ?_
      have : x = "" := str_ext (List.eq_nil_of_length_eq_zero (by rw [cl_len]; exact z))
      rw [this] at e0
      exact absurd e0 (by decide)
    repeat walk_at "ws"
    refine W2.item_s (by decide) (by lia) (by lia) ?_
    repeat walk_at "ws"
    cases e1 : (Txt.item x 0 == "0") with
    | true =>
      repeat walk_at "ws"
      left
      exact h0 (fig_none (Or.inr (Or.inl e1)))
    | false =>
      repeat walk_at "ws"
      refine WE.callB (by k_is) rfl (by decide) ?_
      repeat walk_at "ws"
      refine WL.len_s (by lia) ?_
      repeat walk_at "ws"
      by_cases e2 : (20 : Int) < x.length
      · rw [decide_eq_true e2]
        repeat walk_at "ws"
        left
        exact h0 (fig_none (Or.inr (Or.inr (Or.inl e2))))
      · rw [decide_eq_false e2]
        repeat walk_at "ws"
        have hall : x.cps.all (· < 128) = true := by
          rw [← Array.all_toList, List.all_eq_true]
          intro c hc
          exact decide_eq_true (hA c hc)
        refine WE.lmap x.cps.toList (fun c => V.str ⟨#[c]⟩) (fun c => V.str ⟨#[c]⟩) (fun c : Nat => notFig ⟨#[c]⟩) σ.mem ?_ ?_ ?_
        · repeat walk_at "ws"
          exact ⟨.str hall, by have : x.cps.toList.length = x.length := Array.length_toList; lia, rfl⟩
        · intro cc hc
          refine ⟨_, .name rfl, fun X2 hw2 hl2 => ?_⟩
          show WT _ _ _ _
          repeat walk_at "ws"
          refine WE.gloV (t := .str FIG) (by k_is) (fun _ _ _ => mk_str) ?_
          refine W2.notin_ss ?_
          repeat walk_at "ws"
          refine ⟨rfl, by rw [Bool.not_not]; rfl, fun _ => ?_⟩
          repeat walk_at "ws"
          exact ⟨rfl, rfl⟩
        have hs : (x.cps.toList.filter fun c : Nat => notFig ⟨#[c]⟩).map (fun c => V.str ⟨#[c]⟩) = ((signs x).filter notFig).map V.str := by
          unfold signs
          rw [List.filter_map, List.map_map]
          rfl
        rw [hs]
        refine WE.lst ?_
        repeat walk_at "ws"
        refine ⟨by decide, ?_⟩
        refine W2.ne_l .tree .tree (plain_strs _) rfl (by rw [toDL_strs]; exact shaped_strs _ (asc_signs hA)) (by decide) nomix_nil ?_
        rw [same_nil]
        cases hF : (signs x).filter notFig with
        | nil =>
          repeat walk_at "ws"
          refine oEA (fig_found e0 e1 e2 hF) fun nn hi1 hi2 => ?_
          refine WE.callT (by k_is) rfl (by decide) ?_
          repeat walk_at "ws"
          refine WL.int_s hi1 (by lia) ?_
          left
          exact h1 _ hi2
        | cons z zs =>
          repeat walk_at "ws"
          left
          exact h0 (fig_none (Or.inr (Or.inr (Or.inr (by rw [hF]; simp)))))
theorem w_shown (hl : 10 ≤ c.X.lv) (hne : σ.mem ≠ []) (h1 : 1 ≤ n) (h2 : n ≤ 1000002) (hs : st ∈ styleList) (h : P (.str (shownS st n)) σ.mem) : WL c (callV (.ref 508)) [.str st, .int n] σ P := by
  refine WL.def_ (lc [("style", .str st), ("number", .int n)]) (by lia) (by k_is) (by k_is) (hb2 fun _ _ _ => BindsTo.of_eq rfl) rfl (fun X' hw hlv hm hv hf => ?_) (by decide) rfl rfl rfl
  have hr := romanS_len n h1 h2
  have hle := lettersS_len n h1 h2
  have hfin : ∀ (lo : List (Str × V)) (s : Str), s = shownS st n → OutR σ.mem.length P (fun _ => False) (.ret (.str s)) ⟨lo, σ.mem⟩ := fun lo s e => by
    subst e
    left
    exact h
  simp only [styleList, List.mem_cons, List.not_mem_nil, or_false] at hs
  rcases hs with rfl | rfl | rfl | rfl | rfl | rfl
  · repeat walk_at "ws"
    refine WE.callT (by k_is) rfl (by decide) ?_
    repeat walk_at "ws"
    refine WL.str_i (small_log (by lia)) ?_
    exact hfin _ _ (by unfold shownS; rfl)
  · repeat walk_at "ws"
    refine WE.tup ?_
    repeat walk_at "ws"
    refine ⟨by decide, ?_⟩
    refine W2.in_st (xs := ["R", "r"]) ?_
    repeat walk_at "ws"
    refine WE.callG (by k_is) (by k_is) ?_
    repeat walk_at "ws"
    refine w_roman (by show 1 ≤ X'.lv; lia) (by lia) (by lia) ?_
    repeat walk_at "ws"
    refine WE.tup ?_
    repeat walk_at "ws"
    refine ⟨by decide, ?_⟩
    refine W2.in_st (xs := ["R", "A"]) ?_
    repeat walk_at "ws"
    exact hfin _ _ (by unfold shownS; rfl)
  · repeat walk_at "ws"
    refine WE.tup ?_
    repeat walk_at "ws"
    refine ⟨by decide, ?_⟩
    refine W2.in_st (xs := ["R", "r"]) ?_
    repeat walk_at "ws"
    refine WE.callG (by k_is) (by k_is) ?_
    repeat walk_at "ws"
    refine w_roman (by show 1 ≤ X'.lv; lia) (by lia) (by lia) ?_
    repeat walk_at "ws"
    refine WE.tup ?_
    repeat walk_at "ws"
    refine ⟨by decide, ?_⟩
    refine W2.in_st (xs := ["R", "A"]) ?_
    repeat walk_at "ws"
    refine WE.methB0 (id := "str.lower") ?_
    repeat walk_at "ws"
    refine ⟨Meth.lower, ?_⟩
    refine WL.lower (by lia) ?_
    exact hfin _ _ (by unfold shownS; rfl)
  · repeat walk_at "ws"
    refine WE.tup ?_
    repeat walk_at "ws"
    refine ⟨by decide, ?_⟩
    refine W2.in_st (xs := ["R", "r"]) ?_
    repeat walk_at "ws"
    refine WE.callG (by k_is) (by k_is) ?_
    repeat walk_at "ws"
    refine w_letters (by show 1 ≤ X'.lv; lia) h1 h2 ?_
    repeat walk_at "ws"
    refine WE.tup ?_
    repeat walk_at "ws"
    refine ⟨by decide, ?_⟩
    refine W2.in_st (xs := ["R", "A"]) ?_
    repeat walk_at "ws"
    exact hfin _ _ (by unfold shownS; rfl)
  · repeat walk_at "ws"
    refine WE.tup ?_
    repeat walk_at "ws"
    refine ⟨by decide, ?_⟩
    refine W2.in_st (xs := ["R", "r"]) ?_
    repeat walk_at "ws"
    refine WE.callG (by k_is) (by k_is) ?_
    repeat walk_at "ws"
    refine w_letters (by show 1 ≤ X'.lv; lia) h1 h2 ?_
    repeat walk_at "ws"
    refine WE.tup ?_
    repeat walk_at "ws"
    refine ⟨by decide, ?_⟩
    refine W2.in_st (xs := ["R", "A"]) ?_
    repeat walk_at "ws"
    refine WE.methB0 (id := "str.lower") ?_
    repeat walk_at "ws"
    refine ⟨Meth.lower, ?_⟩
    refine WL.lower (by lia) ?_
    exact hfin _ _ (by unfold shownS; rfl)
  · repeat walk_at "ws"
    exact hfin _ _ (by unfold shownS; rfl)
theorem w_rs (hl : 15 ≤ c.X.lv) (hne : σ.mem ≠ []) (hx : x.length ≤ 43000) (hA : AscS x) (hs : st = "D" ∨ st = "R" ∨ st = "r" ∨ st = "A" ∨ st = "a") (h0 : ReadOk (shownS st) x none → P .none σ.mem) (h : ∀ n, ReadOk (shownS st) x (some n) → P (.int n) σ.mem) : WL c (callV (.ref 515)) [.str st, .str x] σ P := by
  refine WL.def_ (lc [("style", .str st), ("text", .str x)]) (by lia) (by k_is) (by k_is) (hb2 fun _ _ _ => BindsTo.of_eq rfl) rfl (fun X' hw hlv hm hv hf => ?_) (by decide) rfl rfl rfl
  have hul : (Txt.upper x).length ≤ 129000 := by have := len_upper x; lia
  have hin : ∀ (o : Option Int) (lo : List (Str × V)), ReadOk (shownS st) x o → OutR σ.mem.length P (fun _ => False) (.ret (match o with | none => .none | some n => .int n)) ⟨lo, σ.mem⟩ := fun o lo e => by
    left
    cases o with
    | none => exact h0 e
    | some n => exact h n e
  rcases hs with rfl | rfl | rfl | rfl | rfl
  · repeat walk_at "ws"
    refine WE.callG (by k_is) (by k_is) ?_
    repeat walk_at "ws"
    exact w_figures (by show 1 ≤ X'.lv; lia) (by lia) hA (fun e => hin none _ (shown_D e)) (fun n e => hin (some n) _ (shown_D e))
  · repeat walk_at "ws"
    refine WE.tup ?_
    repeat walk_at "ws"
    refine ⟨by decide, ?_⟩
    refine W2.in_st (xs := ["R", "A"]) ?_
    repeat walk_at "ws"
    refine WE.tup ?_
    repeat walk_at "ws"
    refine ⟨by decide, ?_⟩
    refine W2.in_st (xs := ["r", "a"]) ?_
    repeat walk_at "ws"
    refine WE.tup ?_
    repeat walk_at "ws"
    refine ⟨by decide, ?_⟩
    refine W2.in_st (xs := ["R", "r"]) ?_
    repeat walk_at "ws"
    refine WE.callG (by k_is) (by k_is) ?_
    repeat walk_at "ws"
    exact w_rroman (by show 2 ≤ X'.lv; lia) (by lia) (fun e => hin none _ (shown_R e)) (fun n e => hin (some n) _ (shown_R e))
  · repeat walk_at "ws"
    refine WE.tup ?_
    repeat walk_at "ws"
    refine ⟨by decide, ?_⟩
    refine W2.in_st (xs := ["R", "A"]) ?_
    repeat walk_at "ws"
    refine WE.methB0 (id := "str.upper") ?_
    repeat walk_at "ws"
    refine ⟨Meth.upper, ?_⟩
    refine WL.upper (by lia) ?_
    repeat walk_at "ws"
    refine WE.tup ?_
    repeat walk_at "ws"
    refine ⟨by decide, ?_⟩
    refine W2.in_st (xs := ["r", "a"]) ?_
    repeat walk_at "ws"
    refine WE.methB0 (id := "str.lower") ?_
    repeat walk_at "ws"
    refine ⟨Meth.lower, ?_⟩
    refine WL.lower (by lia) ?_
    repeat walk_at "ws"
    cases e : (Txt.lower (Txt.upper x) != x) with
    | true =>
      repeat walk_at "ws"
      exact hin none _ (shown_r (small_none roman_up e))
    | false =>
      repeat walk_at "ws"
      refine WE.tup ?_
      repeat walk_at "ws"
      refine ⟨by decide, ?_⟩
      refine W2.in_st (xs := ["R", "r"]) ?_
      repeat walk_at "ws"
      refine WE.callG (by k_is) (by k_is) ?_
      repeat walk_at "ws"
      exact w_rroman (by show 2 ≤ X'.lv; lia) (by lia) (fun e1 => hin none _ (shown_r (small_ok roman_up e1 e))) (fun n e1 => hin (some n) _ (shown_r (small_ok roman_up e1 e)))
  · repeat walk_at "ws"
    refine WE.tup ?_
    repeat walk_at "ws"
    refine ⟨by decide, ?_⟩
    refine W2.in_st (xs := ["R", "A"]) ?_
    repeat walk_at "ws"
    refine WE.tup ?_
    repeat walk_at "ws"
    refine ⟨by decide, ?_⟩
    refine W2.in_st (xs := ["r", "a"]) ?_
    repeat walk_at "ws"
    refine WE.tup ?_
    repeat walk_at "ws"
    refine ⟨by decide, ?_⟩
    refine W2.in_st (xs := ["R", "r"]) ?_
    repeat walk_at "ws"
    refine WE.callG (by k_is) (by k_is) ?_
    repeat walk_at "ws"
    exact w_rletters (by show 1 ≤ X'.lv; lia) (by lia) (fun e => hin none _ (shown_A e)) (fun n e => hin (some n) _ (shown_A e))
  · repeat walk_at "ws"
    refine WE.tup ?_
    repeat walk_at "ws"
    refine ⟨by decide, ?_⟩
    refine W2.in_st (xs := ["R", "A"]) ?_
    repeat walk_at "ws"
    refine WE.methB0 (id := "str.upper") ?_
    repeat walk_at "ws"
    refine ⟨Meth.upper, ?_⟩
    refine WL.upper (by lia) ?_
    repeat walk_at "ws"
    refine WE.tup ?_
    repeat walk_at "ws"
    refine ⟨by decide, ?_⟩
    refine W2.in_st (xs := ["r", "a"]) ?_
    repeat walk_at "ws"
    refine WE.methB0 (id := "str.lower") ?_
    repeat walk_at "ws"
    refine ⟨Meth.lower, ?_⟩
    refine WL.lower (by lia) ?_
    repeat walk_at "ws"
    cases e : (Txt.lower (Txt.upper x) != x) with
    | true =>
      repeat walk_at "ws"
      exact hin none _ (shown_a (small_none letters_up e))
    | false =>
      repeat walk_at "ws"
      refine WE.tup ?_
      repeat walk_at "ws"
      refine ⟨by decide, ?_⟩
      refine W2.in_st (xs := ["R", "r"]) ?_
      repeat walk_at "ws"
      refine WE.callG (by k_is) (by k_is) ?_
      repeat walk_at "ws"
      exact w_rletters (by show 1 ≤ X'.lv; lia) (by lia) (fun e1 => hin none _ (shown_a (small_ok letters_up e1 e))) (fun n e1 => hin (some n) _ (shown_a (small_ok letters_up e1 e)))
end
noncomputable def OkG (g : Rg) : Prop := g.style ∈ styleList ∧ g.pre ∈ prefList ∧ 1 ≤ g.start ∧ g.start ≤ 1000000 ∧ 0 ≤ g.first
theorem rangeAt_mem {rs : List Rg} {i : Int} {g : Rg} (h : rangeAt rs i = some g) : g ∈ rs ∧ g.first ≤ i := by
  have := List.mem_of_getLast? h
  have := List.mem_filter.mp this
  exact ⟨this.1, of_decide_eq_true this.2⟩
section
variable {c : Cx} {σ : St} {P : V → List M → Prop} {rs : List Rg} {i : Int}
theorem w_label (hl : 12 ≤ c.X.lv) (hne : σ.mem ≠ []) (h0 : 0 ≤ i) (h3 : i ≤ 2) (hG : ∀ g ∈ rs, OkG g) (h : P (.str (labelS rs i)) σ.mem) : WL c (callV (.ref 529)) [.lst (rs.map rgV), .int i] σ P := by
  refine WL.def_ (lc [("ranges", .lst (rs.map rgV)), ("index", .int i)]) (by lia) (by k_is) (by k_is) (hb2 fun _ _ _ => BindsTo.of_eq rfl) rfl (fun X' hw hlv hm hv hf => ?_) (by decide) rfl rfl rfl
  repeat walk_at "ws"
  refine WE.callG (by k_is) (by k_is) ?_
  repeat walk_at "ws"
  refine w_range (by show 1 ≤ X'.lv; lia) ?_
  repeat walk_at "ws"
  unfold labelS at h
  cases hr : rangeAt rs i with
  | none =>
    rw [hr] at h
    show WX _ _ _ _
    repeat walk_at "ws"
    refine WE.callT (by k_is) rfl (by decide) ?_
    repeat walk_at "ws"
    refine WL.str_i (small_log (by lia)) ?_
    exact .inl h
  | some g =>
    rw [hr] at h
    refine oA (rangeAt_mem hr) fun hg hg2 => ?_
    refine oAAAA (hG g hg) fun o1 o2 o3 o4 o5 => ?_
    show WX _ _ _ _
    repeat walk_at "ws"
    refine W0.unpA rfl rfl ?_
    repeat walk_at "ws"
    refine ⟨_, rfl, rfl, ?_⟩
    repeat walk_at "ws"
    refine WE.callG (by k_is) (by k_is) ?_
    repeat walk_at "ws"
    refine w_shown (by show 10 ≤ X'.lv; lia) hne (by lia) (by lia) o1 ?_
    refine W2.add_ss ?_ ?_
    · have := pref_len o2
      have := shown_len g.style (g.start + i - g.first) (by lia) (by lia)
      lia
    · exact .inl h
theorem rng_len {n : Nat} : Builtin.Range.rangeSize 0 (n : Int) 1 = n := by
  unfold Builtin.Range.rangeSize
  first | (simp; done) | (simp; lia) | lia
theorem rng_items {n : Nat} : ((List.range n).map fun i : Nat => V.int (0 + (i : Int) * 1)) = (List.range n).map fun i : Nat => V.int i := by
  apply List.map_congr_left
  intro i _
  rw [Int.zero_add, Int.mul_one]
theorem rng_src {n : Nat} (h : n ≤ 1000) : Src (.rng 0 n 1) ((List.range n).map fun i : Nat => V.int i) := by
  rw [← rng_items]
  exact .rng (small_one (by lia) (by lia) (by lia) (by lia)) rng_len
theorem oldL_strs {n : Nat} {α : Type} {f : α → Str} : ∀ l : List α, oldL n (l.map fun i => V.str (f i))
  | [] => trivial
  | x :: l => by rw [List.map_cons]; exact ⟨trivial, oldL_strs l⟩
theorem filter_tt {α : Type} (l : List α) : l.filter (fun _ => true) = l := by simp
theorem w_labels {n : Nat} (hl : 15 ≤ c.X.lv) (hne : σ.mem ≠ []) (h3 : n ≤ 3) (hG : ∀ g ∈ rs, OkG g) (h : P (.lst ((List.range n).map fun i : Nat => V.str (labelS rs i))) σ.mem) : WL c (callV (.ref 534)) [.lst (rs.map rgV), .int n] σ P := by
  refine WR.no (WR.defC (lc [("ranges", .lst (rs.map rgV)), ("count", .int n)]) [("ranges", some (.lst (rs.map rgV)))] (lc [("count", .int n)]) (by lia) (by k_is) (by k_is) (hb2 fun _ _ _ => BindsTo.of_eq rfl) rfl (by decide) rfl (hs_cons rfl hs_nil) (hc_cons rfl hc_nil) (fun X' hw hlv hm hv hf => ?_) rfl rfl rfl)
  repeat walk_at "ws"
  refine WE.lmap (List.range n) (fun i : Nat => V.int i) (fun i : Nat => V.str (labelS rs i)) (fun _ => true) (σ.mem ++ [M.cel (some (.lst (rs.map rgV)))]) ?_ ?_ ?_
  · refine WE.callT (by k_is) rfl (by decide) ?_
    repeat walk_at "ws"
    refine WL.range1 ?_
    exact ⟨rng_src (by lia), by rw [List.length_range]; lia, rfl⟩
  · intro i hi
    have hi := List.mem_range.mp hi
    refine ⟨_, .name rfl, fun X2 hw2 hl2 => ⟨rfl, rfl, fun _ => ?_⟩⟩
    have hl2 : X2.lv = X'.lv := hl2
    refine WE.callG (by k_is) (by k_is) ?_
    repeat walk_at "ws"
    refine w_label (by show 12 ≤ X2.lv; lia) (by simp) (by lia) (by lia) hG ?_
    exact ⟨rfl, rfl⟩
  · rw [filter_tt]
    exact out_same (oldL_strs _) hm h
end
noncomputable def FU (rs : List Rg) (n : Int) (x : Str) (r : Int) : Prop :=
  (r = -1 ∧ ∀ i, 0 ≤ i → i < n → x ≠ labelS rs i) ∨ (0 ≤ r ∧ r < n ∧ x = labelS rs r ∧ ∀ i, 0 ≤ i → i < n → x = labelS rs i → r ≤ i)
theorem fu_nil {rs : List Rg} {x : Str} : FU rs 0 x (-1) := .inl ⟨rfl, fun i h0 h1 => absurd h1 (by lia)⟩
theorem fu_step {rs : List Rg} {x s p : Str} {n f b e E z0 z : Int} (H : FU rs n x z0) (hz : z0 = -1) (h : IndexIn f b s p e x z) (hE : e = E) (hf : 0 ≤ f)
    (hne : ∀ i, n ≤ i → i < E → f ≤ i) (hl : ∀ i, f ≤ i → i < E → labelS rs i = lab f b s p i) : FU rs E x z := by
  subst hE
  have H0 : ∀ i, 0 ≤ i → i < n → x ≠ labelS rs i := by
    rcases H with ⟨_, H⟩ | ⟨h0, _⟩
    · exact H
    · lia
  rcases h with ⟨e1, h⟩ | ⟨h1, h2, h3, h4⟩
  · refine .inl ⟨e1, fun i i0 i1 => ?_⟩
    by_cases c : i < n
    · exact H0 i i0 c
    · have q := hne i (by lia) i1
      rw [hl i q i1]
      exact h i q i1
  · refine .inr ⟨by lia, h2, by rw [hl z h1 h2]; exact h3, fun i i0 i1 ei => ?_⟩
    by_cases c : i < n
    · exact absurd ei (H0 i i0 c)
    · have q := hne i (by lia) i1
      rw [hl i q i1] at ei
      exact h4 i q i1 ei
theorem fu_keep {rs : List Rg} {x : Str} {n n' z : Int} (H : FU rs n x z) (hz : z ≠ -1) (hn : n ≤ n') : FU rs n' x z := by
  rcases H with ⟨e, _⟩ | ⟨h0, h1, h2, h3⟩
  · exact absurd e hz
  · refine .inr ⟨h0, by lia, h2, fun i i0 i1 ei => ?_⟩
    by_cases c : i < n
    · exact h3 i i0 c ei
    · lia
theorem lab0 (i : Int) : lab 0 1 "D" "" i = Str.ofString (toString (i + 1)) := by
  rw [lab, ← sh_D (s := "D") (by decide), show (1 : Int) + i - 0 = i + 1 by lia]
  exact str_ext (by rw [cl_append]; rfl)
section
variable {c : Cx} {σ : St} {P : V → List M → Prop} {rs : List Rg} {i : Int}
theorem w_in {f b e : Int} {s p x : Str} (hl : 17 ≤ c.X.lv) (hne : σ.mem ≠ []) (h0 : 0 ≤ f) (he : e ≤ 3) (hs : s ∈ styleList) (hp : p ∈ prefList) (hb : 1 ≤ b) (hc : b ≤ 1000000) (hx : x.length ≤ 42000) (hA : AscS x) (h : ∀ z, IndexIn f b s p e x z → P (.int z) σ.mem) :
    WL c (callV (.ref 541)) [.tup [.int f, .str s, .str p, .int b], .int e, .str x] σ P := by
  have hpl := pref_len hp
  refine WL.def_ (lc [("one", .tup [.int f, .str s, .str p, .int b]), ("end", .int e), ("text", .str x)]) (by lia) (by k_is) (by k_is) (hb3 fun _ _ _ _ => BindsTo.of_eq rfl) rfl (fun X' hw hlv hm hv hf => ?_) (by decide) rfl rfl rfl
  repeat walk_at "ws"
  refine W0.unpA rfl rfl ?_
  repeat walk_at "ws"
  refine ⟨_, rfl, rfl, ?_⟩
  repeat walk_at "ws"
  split
  · rename_i q
    repeat walk_at "ws"
    exact .inl (h _ (ii_empty (by simpa using q)))
  rename_i q1
  repeat walk_at "ws"
  refine WT.plain ?_
  refine WE.methB (id := "str.startswith") ?_
  repeat walk_at "ws"
  refine ⟨Meth.starts, ?_⟩
  repeat walk_at "ws"
  refine WL.starts ?_
  repeat walk_at "ws"
  cases q2 : Txt.startswith x p with
  | false =>
    repeat walk_at "ws"
    exact .inl (h _ (ii_nostart q2))
  | true =>
    repeat walk_at "ws"
    repeat walk_at "ws"
    refine WE.slcF ?_
    refine WE.callB (by k_is) rfl (by decide) ?_
    repeat walk_at "ws"
    refine WL.len_s (by lia) ?_
    refine ⟨_, rfl, ?_⟩
    refine W2.slc_s (by lia) ?_
    repeat walk_at "ws"
    have hA2 := asc_slice hA (starts_yes q2).1
    have hl2 : (Txt.slice x (some (p.length : Int)) none).length ≤ x.length := Txt.slice_le _ _ _
    split
    · rename_i q3
      repeat walk_at "ws"
      split
      · rename_i q4
        repeat walk_at "ws"
        exact .inl (h _ (ii_blank q3 (by simpa using q1) q2 q4))
      · rename_i q4
        repeat walk_at "ws"
        exact .inl (h _ (ii_blank_no q3 (by simpa using q4)))
    · rename_i q3
      repeat walk_at "ws"
      refine WE.callG (by k_is) (by k_is) ?_
      repeat walk_at "ws"
      refine w_rs (by show 15 ≤ X'.lv; lia) hne (by lia) hA2 (read_style hs (by simpa using q3)) (fun ho => ?_) fun n ho => ?_
      · repeat walk_at "ws"
        exact .inl (h _ (ii_none ho h0 hb hc he))
      · repeat walk_at "ws"
        split
        · rename_i q5
          repeat walk_at "ws"
          have q5 := of_decide_eq_true q5
          split
          · rename_i q6
            have q6 : ¬ n < b + e - f := by simpa using q6
            repeat walk_at "ws"
            exact .inl (h _ (ii_out ho h0 hb hc he (.inr q6)))
          · rename_i q6
            have q6 : n < b + e - f := by simpa using q6
            repeat walk_at "ws"
            exact .inl (h _ (ii_found ho q2 h0 hb hc he q5 q6))
        · rename_i q5
          have q5 : ¬ _ := fun z => q5 (decide_eq_true z)
          repeat walk_at "ws"
          exact .inl (h _ (ii_out ho h0 hb hc he (.inl q5)))
end
noncomputable def UpG : List Rg → Prop
  | [] => True
  | g :: r => (∀ g' ∈ r, g.first < g'.first) ∧ UpG r
theorem UpG.split : ∀ {pre : List Rg} {g : Rg} {post : List Rg}, UpG (pre ++ g :: post) → ∀ g' ∈ post, g.first < g'.first
  | [], g, post, h => h.1
  | p :: pre, g, post, h => UpG.split (pre := pre) h.2
theorem rangeAt_eq {pre post : List Rg} {g : Rg} {i : Int} (h1 : g.first ≤ i) (h2 : ∀ g' ∈ post, i < g'.first) : rangeAt (pre ++ g :: post) i = some g := by
  unfold rangeAt
  have e : post.filter (fun g => decide (g.first ≤ i)) = [] := List.filter_eq_nil_iff.mpr (fun g' hg' => by have := h2 g' hg'; simp; lia)
  rw [List.filter_append, List.filter_cons, if_pos (decide_eq_true h1), e]
  simp
theorem rangeAt_none {rs : List Rg} {i : Int} (h2 : ∀ g' ∈ rs, i < g'.first) : rangeAt rs i = none := by
  unfold rangeAt
  rw [List.filter_eq_nil_iff.mpr (fun g' hg' => by have := h2 g' hg'; simp; lia)]
  rfl
noncomputable def endsOf (rs : List Rg) (n : Int) : List Int := rs.map (·.first) ++ [n]
noncomputable def endAt (rs : List Rg) (n : Int) (j : Nat) : Int := (endsOf rs n).getD j 0
theorem ends_get {rs : List Rg} {n : Int} {j : Nat} (h : j ≤ rs.length) : ((endsOf rs n).map V.int)[j]? = some (V.int (endAt rs n j)) := by
  have hl : j < (endsOf rs n).length := by simp [endsOf]; lia
  unfold endAt
  rw [List.getElem?_map, List.getElem?_eq_getElem hl, List.getD_eq_getElem?_getD, List.getElem?_eq_getElem hl]
  rfl
theorem end_at {pre post : List Rg} {g : Rg} {n : Int} : endAt (pre ++ g :: post) n pre.length = g.first := by
  unfold endAt endsOf
  rw [List.getD_eq_getElem?_getD, List.map_append, List.append_assoc, List.getElem?_append_right (by simp)]
  simp
theorem end_lt {pre post : List Rg} {n i : Int} (hU : UpG (pre ++ post)) (h : i < endAt (pre ++ post) n pre.length) : ∀ g' ∈ post, i < g'.first := by
  cases post with
  | nil => intro g' hg'; cases hg'
  | cons g post =>
    rw [end_at] at h
    intro g' hg'
    rcases List.mem_cons.mp hg' with rfl | hg'
    · exact h
    · have := UpG.split hU g' hg'; lia
theorem rg_at {pre post : List Rg} {g : Rg} : ((pre ++ g :: post).map rgV)[pre.length]? = some (rgV g) := by simp
theorem items_cons {N j : Nat} {x : V} {rest : List V} (h : x :: rest = ((List.range N).drop j).map fun i : Nat => V.int i) : j < N ∧ x = V.int j ∧ rest = ((List.range N).drop (j + 1)).map fun i : Nat => V.int i := by
  have hj : j < N := by
    have := congrArg List.length h
    simp at this
    lia
  rw [List.drop_eq_getElem_cons (by simpa using hj), List.map_cons] at h
  refine oA (List.cons.inj h) fun h1 h2 => ?_
  exact ⟨hj, by rw [h1]; simp, h2⟩
theorem items_nil {N j : Nat} (h : ([] : List V) = ((List.range N).drop j).map fun i : Nat => V.int i) : N ≤ j := by
  have := congrArg List.length h
  simp at this
  lia
section
variable {c : Cx} {σ : St} {P : V → List M → Prop} {rs : List Rg} {i : Int}
theorem w_indexof {n : Nat} {x : Str} (hl : 20 ≤ c.X.lv) (hne : σ.mem ≠ []) (hn : n ≤ 3) (hlen : rs.length ≤ 1000) (hG : ∀ g ∈ rs, OkG g) (hU : UpG rs) (hx : x.length ≤ 42000) (hA : AscS x) (h : ∀ z, FU rs n x z → P (.int z) σ.mem) :
    WL c (callV (.ref 546)) [.lst (rs.map rgV), .int n, .str x] σ P := by
  refine WL.def_ (lc [("ranges", .lst (rs.map rgV)), ("count", .int n), ("text", .str x)]) (by lia) (by k_is) (by k_is) (hb3 fun _ _ _ _ => BindsTo.of_eq rfl) rfl (fun X' hw hlv hm hv hf => ?_) (by decide) rfl rfl rfl
  repeat walk_at "ws"
  refine WE.lmap rs rgV (fun g => V.int g.first) (fun _ => true) σ.mem ?_ ?_ ?_
  · repeat walk_at "ws"
    exact ⟨.lst, by lia, rfl⟩
  · intro g hg
    refine ⟨_, .name rfl, fun X2 hw2 hl2 => ⟨rfl, rfl, fun _ => ?_⟩⟩
    repeat walk_at "ws"
    refine W2.item_t (j := 0) (v := .int g.first) (by decide) (by decide) rfl rfl ?_
    exact ⟨rfl, rfl⟩
  refine WE.lst ?_
  repeat walk_at "ws"
  refine ⟨by simp, ?_⟩
  refine W2.add_ll .tree .tree (by rw [List.length_map, filter_tt]; simp; lia) ?_
  rw [show (rs.filter fun _ => true) = rs by simp, show (rs.map fun g => V.int g.first) ++ [V.int (n : Int)] = (endsOf rs n).map V.int by simp [endsOf]]
  repeat walk_at "ws"
  refine WE.callG (by k_is) (by k_is) ?_
  repeat walk_at "ws"
  refine WE.tup ?_
  repeat walk_at "ws"
  refine ⟨by decide, ?_⟩
  repeat walk_at "ws"
  refine WE.callB (by k_is) rfl (by decide) ?_
  repeat walk_at "ws"
  refine W2.item_l .tree (by decide) (by decide) (ends_get (Nat.zero_le _)) ?_
  repeat walk_at "ws"
  refine WL.min2 ?_
  repeat walk_at "ws"
  refine w_in (by show 17 ≤ X'.lv; lia) hne (by decide) (by split <;> lia) (by decide) (by decide) (by decide) (by decide) hx hA fun z0 hz0 => ?_
  repeat walk_at "ws"
  have hne0 : ∀ g ∈ rs, 0 ≤ g.first := fun g hg => (hG g hg).2.2.2.2
  refine W0.forL (fun items loc m => ∃ j z, j ≤ rs.length ∧ items = ((List.range rs.length).drop j).map (fun i : Nat => V.int i) ∧ m = σ.mem ∧ FU rs (if (n : Int) < endAt rs n j then n else endAt rs n j) x z ∧ loc = lc [("found", .int z), ("ends", .lst ((endsOf rs n).map V.int)), ("ranges", .lst (rs.map rgV)), ("count", .int n), ("text", .str x)]) ?_ ?_ ?_
  · refine WE.callT (by k_is) rfl (by decide) ?_
    refine WA.cons ?_
    refine WE.callB (by k_is) rfl (by decide) ?_
    repeat walk_at "ws"
    refine WL.len .tree (by rw [List.length_map]; lia) ?_
    rw [List.length_map]
    repeat walk_at "ws"
    refine WL.range1 ?_
    refine ⟨_, rng_src hlen, oldL_ints (f := fun i : Nat => (i : Int)), lc [("found", _), ("ends", _), ("ranges", _), ("count", _), ("text", _)], .cons rfl (.cons rfl (.cons rfl (.cons rfl (.cons rfl .nil)))), 0, z0, Nat.zero_le _, by simp, rfl, ?_, rfl⟩
    refine fu_step fu_nil rfl hz0 rfl (by lia) (fun i h0 _ => h0) fun i h0 h1 => ?_
    rw [lab0]
    unfold labelS
    have hi : i < endAt ([] ++ rs) n ([] : List Rg).length := by show i < endAt rs n 0; split at h1 <;> lia
    rw [rangeAt_none (end_lt (pre := []) hU hi)]
  · rintro X2 hw2 hl2 y rest loc m ⟨j, z, hj, e1, rfl, hF, rfl⟩
    have hl2 : X2.lv = X'.lv := hl2
    refine oAA (items_cons e1) fun hj2 e91 e2 => ?_
    subst e91
    obtain ⟨pre, g, post, rfl, hpre⟩ : ∃ pre g post, rs = pre ++ g :: post ∧ pre.length = j := ⟨rs.take j, rs[j], rs.drop (j + 1), by rw [← List.drop_eq_getElem_cons, List.take_append_drop], by rw [List.length_take]; lia⟩
    subst hpre
    refine oAAAA (hG g (by simp)) fun o1 o2 o3 o4 o5 => ?_
    rw [end_at] at hF
    refine ⟨_, .name rfl, ?_⟩
    repeat walk_at "ws"
    split
    · rename_i q
      have q : z = -1 := by simpa using q
      repeat walk_at "ws"
      refine WE.callG (by k_is) (by k_is) ?_
      repeat walk_at "ws"
      refine W2.item_l .tree (by lia) (by simp at hlen hj2; lia) rg_at ?_
      repeat walk_at "ws"
      refine WE.callB (by k_is) rfl (by decide) ?_
      repeat walk_at "ws"
      refine W2.item_l .tree (by lia) (by simp at hlen hj2; lia) (ends_get (j := pre.length + 1) (by simp)) ?_
      repeat walk_at "ws"
      refine WL.min2 ?_
      repeat walk_at "ws"
      refine w_in (by show 17 ≤ X2.lv; lia) hne o5 (by split <;> lia) o1 o2 o3 o4 hx hA fun z1 hz1 => ?_
      repeat walk_at "ws"
      refine ⟨lc [("found", _), ("ends", _), ("ranges", _), ("count", _), ("text", _)], .cons rfl (.cons rfl (.cons rfl (.cons rfl (.cons rfl .nil)))), pre.length + 1, z1, by simp, e2, rfl, ?_, rfl⟩
      refine fu_step hF q hz1 rfl o5 (fun i h0 h1 => ?_) fun i h0 h1 => ?_
      · split at h0 <;> split at h1 <;> lia
      · unfold labelS
        have hi : i < endAt ((pre ++ [g]) ++ post) n (pre ++ [g]).length := by rw [List.append_assoc, List.length_append]; show i < endAt (pre ++ g :: post) n (pre.length + 1); split at h1 <;> lia
        rw [rangeAt_eq h0 (end_lt (pre := pre ++ [g]) (by rw [List.append_assoc]; exact hU) hi)]
        rfl
    · rename_i q
      have q : z ≠ -1 := by simpa using q
      repeat walk_at "ws"
      refine ⟨lc [("found", _), ("ends", _), ("ranges", _), ("count", _), ("text", _)], .cons rfl (.cons rfl (.cons rfl (.cons rfl (.cons rfl .nil)))), pre.length + 1, z, by simp, e2, rfl, ?_, rfl⟩
      refine fu_keep hF q ?_
      have : g.first ≤ endAt (pre ++ g :: post) n (pre.length + 1) ∨ (n : Int) ≤ endAt (pre ++ g :: post) n (pre.length + 1) := by
        cases post with
        | nil =>
          right
          unfold endAt endsOf
          rw [List.getD_eq_getElem?_getD]
          simp
        | cons g2 post =>
          left
          have := end_at (pre := pre ++ [g]) (g := g2) (post := post) (n := n)
          rw [List.append_assoc, List.length_append] at this
          have e : endAt (pre ++ g :: g2 :: post) n (pre.length + 1) = g2.first := this
          rw [e]
          exact Int.le_of_lt (UpG.split hU g2 (.head _))
      split <;> split <;> lia
  · rintro loc' loc m H ⟨j, z, hj, e1, rfl, hF, rfl⟩
    have hj2 := items_nil e1
    have : j = rs.length := by lia
    subst this
    refine WX.loc H ?_
    repeat walk_at "ws"
    have e : endAt rs n rs.length = n := by
      unfold endAt endsOf
      rw [List.getD_eq_getElem?_getD]
      simp
    rw [e] at hF
    exact .inl (h z (by simpa using hF))
end
noncomputable def IsIn (w : World) (mem : List M) (v : V) (cV : Value) (r : Bool) : Prop := ∀ (c : Cx) (l : List (Str × V)) (P : V → List M → Prop), c.X.w = w → P (.bool r) mem → WL c (callV (.builtin "isinstance")) [v, .glob cV] ⟨l, mem⟩ P
theorem IsIn.kind {w : World} {mem : List M} {v : V} {t cV : Value} {r : Bool} (S : KindAt ⟨[], mem⟩ v t) (hk : kitOne (wrt.heap_1 w.params) t cV = some r) : IsIn w mem v cV r := fun c l P hw h => by
  subst hw
  exact WL.isin (ρl := l) (by cases S with
    | none => exact .none | bool => exact .bool | int => exact .int | str => exact .str | byt => exact .byt
    | lst S => exact .lst (by cases S with | tree => exact .tree | cell h => exact .cell h)
    | dct S => exact .dct (by cases S with | tree => exact .tree | cell h => exact .cell h)) hk h
theorem IsIn.ins {w : World} {mem : List M} {v : V} {C : Addr} {fs : List (Str × V)} {cV : Value} {r : Bool} (S : InsAt ⟨[], mem⟩ v C fs) (ok : OwnKit (wrt.heap_1 w.params) C) (hk : kitOne (wrt.heap_1 w.params) (.ref C) cV = some r) : IsIn w mem v cV r := fun c l P hw h => by
  subst hw
  exact WL.isin_ins (ρl := l) (by cases S with | tree => exact .tree | cell h1 h2 => exact .cell h1 h2) ok hk h
section
variable {c : Cx} {σ : St} {P : V → List M → Prop}
theorem kit_ref (w : World) : OwnKit (wrt.heap_1 w.params) 261 := ⟨by k_is, by k_is, by k_is, by k_is, by k_is, by k_is⟩
theorem kit_name (w : World) : OwnKit (wrt.heap_1 w.params) 190 := ⟨by k_is, by k_is, by k_is, by k_is, by k_is, by k_is⟩
theorem kit_string (w : World) : OwnKit (wrt.heap_1 w.params) 212 := ⟨by k_is, by k_is, by k_is, by k_is, by k_is, by k_is⟩
theorem isin_int_ref {w : World} {mem : List M} {i : Int} : IsIn w mem (.int i) (.ref 261) false := .kind .int (by kit_is)
structure ShAt (mem : List M) (i j t r : Nat) (tb : List (Int × V)) (tr : List (Str × V)) : Prop where
  a : mem[i]? = some (.ins 370 j)
  b : mem[j]? = some (.nsd (lc [("table", .ptr t), ("trailer", .ptr r)]))
  t : mem[t]? = some (.dci tb)
  r : mem[r]? = some (.dct tr)
noncomputable def refV (n : Int) : V := .ins 261 (lc [("number", .int n), ("generation", .int 0)])
inductive FetchTo (w : World) (mem : List M) (tb : List (Int × V)) : V → V → Prop
  | plain {v : V} : IsIn w mem v (.ref 261) false → FetchTo w mem tb v v
  | ref {n : Int} {v : V} : tb.lookup n = some (.tup [.int 0, v]) → IsIn w mem v (.ref 261) false → FetchTo w mem tb (refV n) v
variable {i j t r : Nat} {tb : List (Int × V)} {tr : List (Str × V)} {v u : V}
theorem ShAt.ins (S : ShAt σ.mem i j t r tb tr) : InsAt σ (.ptr i) 370 (lc [("table", .ptr t), ("trailer", .ptr r)]) := .cell S.a S.b
theorem w_fetch (hl : 1 ≤ c.X.lv) (S : ShAt σ.mem i j t r tb tr) (F : FetchTo c.X.w σ.mem tb v u) (h : P u σ.mem) : WL c (callV (.ref 306)) [.ptr i, v] σ P := by
  refine WL.def_ (lc [("self", .ptr i), ("value", v)]) (by lia) (by k_is) (by k_is) (hb2 fun _ _ _ => BindsTo.of_eq rfl) rfl (fun X' hw hlv hm hv hf => ?_) (by decide) rfl rfl rfl
  repeat walk_at "ws"
  refine W0.forL (fun items loc m => ∃ k b, items = ((List.range 30).drop k).map (fun i : Nat => V.int i) ∧ m = σ.mem ∧ ((k = 0 ∧ b = v) ∨ (k = 1 ∧ b = u ∧ IsIn c.X.w σ.mem u (.ref 261) false)) ∧ loc = lc [("here", b), ("self", .ptr i)]) ?_ ?_ ?_
  · refine WE.callT (by k_is) rfl (by decide) ?_
    refine WA.cons ?_
    refine WE.gloV (t := .int 30) (by k_is) (fun _ _ _ => mk_int) ?_
    repeat walk_at "ws"
    refine WL.range1 ?_
    exact ⟨_, rng_src (by decide), oldL_ints (f := fun i : Nat => (i : Int)), lc [("here", _), ("self", _)], .cons rfl (.cons rfl .nil), 0, v, rfl, rfl, .inl ⟨rfl, rfl⟩, rfl⟩
  · rintro X2 hw2 hl2 y rest loc m ⟨k, b, e1, rfl, hb, rfl⟩
    refine oAA (items_cons e1) fun hj2 e91 e2 => ?_
    subst e91
    have hw2 : X2.w = c.X.w := hw2.trans hw
    refine ⟨_, .name rfl, ?_⟩
    have hI : (IsIn c.X.w σ.mem b (.ref 261) false ∧ b = u) ∨ (k = 0 ∧ ∃ n, b = refV n ∧ tb.lookup n = some (.tup [.int 0, u]) ∧ IsIn c.X.w σ.mem u (.ref 261) false) := by
      rcases hb with ⟨rfl, rfl⟩ | ⟨rfl, rfl, hI⟩
      · cases F with
        | plain hI => exact .inl ⟨hI, rfl⟩
        | ref hn hI => exact .inr ⟨rfl, _, rfl, hn, hI⟩
      · exact .inl ⟨hI, rfl⟩
    repeat walk_at "ws"
    refine WT.plain ?_
    refine WE.callB (by k_is) rfl (by decide) ?_
    repeat walk_at "ws"
    refine WE.glo (by k_is) ?_
    repeat walk_at "ws"
    rcases hI with ⟨hI, rfl⟩ | ⟨rfl, n, rfl, hn, hI⟩
    · refine hI _ _ _ hw2 ?_
      repeat walk_at "ws"
      exact .inl h
    · refine IsIn.ins (w := c.X.w) (r := true) .tree (kit_ref _) (by kit_is) _ _ _ hw2 ?_
      repeat walk_at "ws"
      refine W0.unpA rfl rfl ?_
      refine WE.methB (id := "dict.get") ?_
      repeat walk_at "ws"
      refine W1.attr (ShAt.ins S) rfl rfl (by k_is) (by k_is) (by k_is) (by k_is) ?_
      refine ⟨Meth.dci S.t PySem.F.slot_dict_get PySem.F.type_dict_get, ?_⟩
      repeat walk_at "ws"
      refine W1.attr .tree rfl rfl (by k_is) (by k_is) (by k_is) (by k_is) ?_
      repeat walk_at "ws"
      refine WE.tup ?_
      repeat walk_at "ws"
      refine ⟨by decide, ?_⟩
      repeat walk_at "ws"
      refine WL.get_i S.t ?_
      rw [hn]
      refine ⟨_, rfl, rfl, ?_⟩
      repeat walk_at "ws"
      refine W1.attr .tree rfl rfl (by k_is) (by k_is) (by k_is) (by k_is) ?_
      repeat walk_at "ws"
      exact ⟨lc [("here", _), ("self", _)], .cons rfl (.cons rfl .nil), 1, u, e2, rfl, .inr ⟨rfl, rfl, hI⟩, rfl⟩
  · rintro loc' loc m H ⟨k, b, e1, rfl, hb, rfl⟩
    have := items_nil e1
    rcases hb with ⟨rfl, _⟩ | ⟨rfl, _⟩ <;> lia
theorem DctAt.mv {σ σ' : St} {v : V} {ks : List (Str × V)} (S : DctAt σ v ks) (h : σ'.mem = σ.mem) : DctAt σ' v ks := by
  cases S with
  | tree => exact .tree
  | cell hm => exact .cell (by rw [h]; exact hm)
theorem w_get {hd' : V} {ks : List (Str × V)} {key : Str} (hl : 2 ≤ c.X.lv) (S : ShAt σ.mem i j t r tb tr) (D : DctAt σ hd' ks) (F : FetchTo c.X.w σ.mem tb ((ks.lookup key).getD .none) u) (h : P u σ.mem) : WL c (callV (.ref 313)) [.ptr i, hd', .str key] σ P := by
  refine WL.def_ (lc [("self", .ptr i), ("head", hd'), ("key", .str key)]) (by lia) (by k_is) (by k_is) (hb3 fun _ _ _ _ => BindsTo.of_eq rfl) rfl (fun X' hw hlv hm hv hf => ?_) (by decide) rfl rfl rfl
  repeat walk_at "ws"
  refine WE.methK (f := .ref 306) (by k_is) ?_
  repeat walk_at "ws"
  refine ⟨Meth.ins (ShAt.ins S) rfl (by k_is) (by k_is) (by k_is), ?_⟩
  refine WA.cons ?_
  refine WE.methB (id := "dict.get") ?_
  repeat walk_at "ws"
  refine ⟨Meth.dct (D.mv rfl) PySem.F.slot_dict_get PySem.F.type_dict_get, ?_⟩
  repeat walk_at "ws"
  refine W2.get_d (D.mv rfl) ?_
  repeat walk_at "ws"
  exact w_fetch (by show 1 ≤ X'.lv; lia) S (by show FetchTo X'.w _ _ _ _; rw [hw]; exact F) (.inl h)
theorem w_root {rt : List (Str × V)} (hl : 3 ≤ c.X.lv) (S : ShAt σ.mem i j t r tb tr) (hr : tr.lookup ("Root" : Str) = some (V.dct rt)) (h : P (.dct rt) σ.mem) : WL c (callV (.ref 362)) [.ptr i] σ P := by
  refine WL.def_ (lc [("self", .ptr i)]) (by lia) (by k_is) (by k_is) (hb1 fun _ _ => BindsTo.of_eq rfl) rfl (fun X' hw hlv hm hv hf => ?_) (by decide) rfl rfl rfl
  repeat walk_at "ws"
  refine WE.methK (f := .ref 313) (by k_is) ?_
  repeat walk_at "ws"
  refine ⟨Meth.ins (ShAt.ins S) rfl (by k_is) (by k_is) (by k_is), ?_⟩
  repeat walk_at "ws"
  refine W1.attr (ShAt.ins S) rfl rfl (by k_is) (by k_is) (by k_is) (by k_is) ?_
  repeat walk_at "ws"
  refine w_get (u := .dct rt) (by show 2 ≤ X'.lv; lia) S (.cell S.r) (by rw [hr]; exact .plain (.kind (.dct .tree) (by kit_is))) ?_
  repeat walk_at "ws"
  refine WT.plain ?_
  refine WE.callB (by k_is) rfl (by decide) ?_
  repeat walk_at "ws"
  refine WE.blt (by k_is) rfl (by decide) ?_
  repeat walk_at "ws"
  refine IsIn.kind (w := X'.w) (r := true) (.dct .tree) (by kit_is) _ _ _ rfl ?_
  repeat walk_at "ws"
  exact .inl h
end
section
variable {c : Cx} {σ : St} {ρl : List (Str × V)} {ρm : List M} {P : V → List M → Prop} {PX : Fl → St → Prop} {e : Expr} {pos : Pos} {x : Str}
theorem updF_set {a : Addr} {o : Obj} : ∀ {ml tail : Led} {i : Nat}, ml[i]? = some (a, o) → ((ml ++ tail).map (·.1)).Nodup → UpdF a o (ml ++ tail) (fun o' => ml.set i (a, o') ++ tail)
  | [], tail, i, hi, nd => by cases hi
  | p :: r, tail, 0, hi, nd => by
    cases hi
    refine .head fun q hq e => ?_
    rw [List.cons_append, List.map_cons] at nd
    exact (List.nodup_cons.mp nd).1 (by show a ∈ _; rw [← e]; exact List.mem_map_of_mem (f := fun x : Addr × Obj => x.1) hq)
  | p :: r, tail, i + 1, hi, nd => by
    rw [List.cons_append, List.map_cons] at nd
    have hm : (a, o) ∈ r ++ tail := List.mem_append_left _ (List.mem_of_getElem? hi)
    exact .tail (fun e => (List.nodup_cons.mp nd).1 (e ▸ List.mem_map_of_mem hm)) (updF_set hi (List.nodup_cons.mp nd).2)
theorem Rel.setCel {fz ml : Led} {s : Shared} {i : Nat} {ov : Option V} {v : V} {u : Value} {Q : Unit → Shared → Prop} {E : Value → Shared → Prop} {m : List M} {loc : List (Str × V)} (hf : c.IsFn) (R : Rel c ⟨loc, m⟩ fz ml s.heap) (hc : c.cel.lookup x = some i) (hm : m[i]? = some (.cel ov)) (hv : c.v fz ml v u) (hk : c.sc.names.lookup x = some .cell)
    (k : ∀ ml' h' tk', Rel c ⟨loc, m.set i (.cel (some v))⟩ fz ml' h' → Ext fz ml fz ml' → Q () (shr s h' tk')) : wpAny c.M c.A (storeName c.env x u) Q E s := by
  refine oEA (R.cels x i hc) fun a ha hi => ?_
  obtain ⟨a', o, e', hml, hget, hg, uu, hd, hov⟩ := R.at hm (u := .ref a) (by exact ⟨a, rfl, hi⟩)
  cases e'
  refine hold fun _ hK9 => ?_
  obtain ⟨mm, f, F, LA, lo⟩ := R.fr
  refine hK9 ?_
  refine oA (news_at R) fun N nd => ?_
  rw [Cx.env, hf.env] at ha ⊢
  refine storeX_C F N ha (updF_set hget nd) hd (fun h' o' F' N' hd' => ?_) R.ok.kind (by show List.lookup x c.X.cs.names = _; rw [← hf.sc]; exact hk)
  obtain ⟨R2, x2⟩ := R.put (m' := .cel (some v)) (o' := o') hget F' LA lo (by rw [List.append_assoc]; exact N') ⟨_, hd', _, rfl, hv⟩
  exact k _ h' s.toks R2 x2
theorem W0.asgC {xp : Pos} {i : Nat} (hc : c.cel.lookup x = some i) (h : WE c e ⟨ρl, ρm⟩ fun v m => ∃ ov, m[i]? = some (.cel ov) ∧ PX .nxt ⟨ρl, m.set i (.cel (some v))⟩) (hk : c.sc.names.lookup x = some .cell := by rfl) (hs : swapsWith e (some (Expr.Name x xp)) pos.line c.env = pure false := by rfl) : W0 c (.Assign [.Name x xp] e pos) ⟨ρl, ρm⟩ PX :=
  fun hf s fz ml Q E R k kr => wpAny_Assign_Name (h s fz ml _ E R fun v m fz1 ml1 h1 tk1 u ⟨ov, hm, hp⟩ x1 R1 i1 =>
    R1.setCel hf hc hm i1 hk fun ml2 h2 tk2 R2 x2 => k _ _ fz1 ml2 h2 tk2 _ hp (x1.trans x2).n R2 (rfl : Flow.next = _)) hs
theorem W2.add_tt {vs vs' : List V} (hl : vs.length + vs'.length ≤ 1000000) (h : P (.tup (vs ++ vs')) ρm) : W2 c (binaryOp .Add) (.tup vs) (.tup vs') ⟨ρl, ρm⟩ P :=
  fun s fz ml u u' Q E R hi hj kq => by
    obtain ⟨ad, o, ws, n, rfl, z, e1, e2, l⟩ := v_tup hi
    obtain ⟨ad', o', ws', n', rfl, z', e1', e2', l'⟩ := v_tup hj
    obtain ⟨m, f, F, LA, lo⟩ := R.fr
    refine add_tuples F R.news ⟨o, R.zf z, e1, n, e2⟩ ⟨o', R.zf z', e1', n', e2'⟩ (fun q => ?_) (fun q1 q2 => ?_) (fun q1 q2 h' F' N' => ?_) (by rw [l_len l, l_len l', sizeLine_eq]; lia)
    · subst q
      have : vs = [] := List.eq_nil_of_length_eq_zero (by rw [← l_len l]; rfl)
      subst this
      exact kq _ _ fz ml s.heap s.toks _ h .rfl R hj
    · subst q2
      have : vs' = [] := List.eq_nil_of_length_eq_zero (by rw [← l_len l']; rfl)
      subst this
      rw [List.append_nil] at h
      exact kq _ _ fz ml s.heap s.toks _ h .rfl R hi
    · have n1 := N' _ (.head _)
      have R2 := (R.move F' LA lo fun q hq => N' q (List.mem_cons_of_mem _ hq)).addfz n1.1 R.fresh.1 R.fresh.2.1 R.fresh.2.2 R.modules
      have x2 : Ext fz ml ((s.heap.objs.size, { cls := .type "tuple", data := .seq (ws ++ ws').toArray }) :: fz) ml := ⟨fun p hp => List.mem_cons_of_mem _ hp, List.prefix_refl _⟩
      exact kq _ _ _ ml h' s.toks _ h x2 R2 (by exact ⟨_, _, ws ++ ws', 0, rfl, .inr (.head _), rfl, rfl, l_app (isLmono x2 l) (isLmono x2 l')⟩)
end
noncomputable def rowV (ps : List (Int × V)) : List V := ps.flatMap fun p => [.int p.1, p.2]
noncomputable def pairV (p : Int × V) : V := .tup [.int p.1, p.2]
theorem row_len : ∀ ps : List (Int × V), (rowV ps).length = 2 * ps.length
  | [] => rfl
  | p :: ps => by
    have := row_len ps
    simp only [rowV, List.flatMap_cons, List.length_append, List.length_cons, List.length_nil] at this ⊢
    lia
theorem row_get : ∀ {ps : List (Int × V)} {i : Nat} {p : Int × V}, ps[i]? = some p → (rowV ps)[2 * i]? = some (.int p.1) ∧ (rowV ps)[2 * i + 1]? = some p.2
  | [], i, p, h => by cases h
  | q :: ps, 0, p, h => by cases h; exact ⟨rfl, rfl⟩
  | q :: ps, i + 1, p, h => by
    have := row_get (ps := ps) (i := i) (p := p) h
    show ([V.int q.1, q.2] ++ rowV ps)[2 * (i + 1)]? = _ ∧ ([V.int q.1, q.2] ++ rowV ps)[2 * (i + 1) + 1]? = _
    rw [List.getElem?_append_right (by simp; lia), List.getElem?_append_right (by simp; lia)]
    exact this
theorem set_at {m l : List M} {k : Nat} {x : M} : (m ++ l).set (m.length + k) x = m ++ l.set k x := by
  rw [List.set_append_right _ _ (Nat.le_add_right _ _), Nat.add_sub_cancel_left]
theorem set_at0 {m l : List M} {x : M} : (m ++ l).set m.length x = m ++ l.set 0 x := set_at (k := 0)
theorem ShAt.app {m l : List M} {i j t r : Nat} {tb : List (Int × V)} {tr : List (Str × V)} (S : ShAt m i j t r tb tr) : ShAt (m ++ l) i j t r tb tr := ⟨mem_old S.a, mem_old S.b, mem_old S.t, mem_old S.r⟩
theorem rng2_src {n : Nat} (h : n ≤ 1000) : Src (.rng 0 ((2 * n : Nat) : Int) 2) ((List.range n).map fun i : Nat => V.int (2 * (i : Int))) := by
  have e : ((List.range n).map fun i : Nat => V.int (2 * (i : Int))) = (List.range n).map fun i : Nat => V.int (0 + (i : Int) * 2) := List.map_congr_left fun i _ => by congr 1; lia
  rw [e]
  have hs : Builtin.Range.rangeSize 0 ((2 * n : Nat) : Int) 2 = n := by
    unfold Builtin.Range.rangeSize
    first | (simp; lia) | (split <;> lia) | lia
  refine .rng ?_ hs
  unfold Builtin.Range.small
  rw [hs]
  simp [Builtin.Range.rangeFitsLong]
  first | done | lia
section
variable {c : Cx} {σ : St} {P : V → List M → Prop} {i j t r : Nat} {tb : List (Int × V)} {tr : List (Str × V)} {v u : V}
theorem w_keyof {n : Int} (hl : 1 ≤ c.X.lv) (h : P (.int n) σ.mem) : WL c (callV (.ref 386)) [.str "Nums", .int n] σ P := by
  refine WL.def_ (lc [("word", .str "Nums"), ("value", .int n)]) (by lia) (by k_is) (by k_is) (hb2 fun _ _ _ => BindsTo.of_eq rfl) rfl (fun X' hw hlv hm hv hf => ?_) (by decide) rfl rfl rfl
  repeat walk_at "ws"
  refine WT.plain ?_
  refine WE.callB (by k_is) rfl (by decide) ?_
  repeat walk_at "ws"
  refine WE.blt (by k_is) rfl (by decide) ?_
  repeat walk_at "ws"
  refine IsIn.kind (w := X'.w) (r := true) .int (by kit_is) _ _ _ rfl ?_
  repeat walk_at "ws"
  refine WT.plain ?_
  refine WE.callB (by k_is) rfl (by decide) ?_
  repeat walk_at "ws"
  refine WE.blt (by k_is) rfl (by decide) ?_
  repeat walk_at "ws"
  refine IsIn.kind (w := X'.w) (r := false) .int (by kit_is) _ _ _ rfl ?_
  repeat walk_at "ws"
  exact .inl h
theorem w_nodeof {ks : List (Str × V)} (hl : 2 ≤ c.X.lv) (S : ShAt σ.mem i j t r tb tr) (F : FetchTo c.X.w σ.mem tb v (.dct ks)) (h : P (.dct ks) σ.mem) : WL c (callV (.ref 393)) [.ptr i, v] σ P := by
  refine WL.def_ (lc [("shelf", .ptr i), ("value", v)]) (by lia) (by k_is) (by k_is) (hb2 fun _ _ _ => BindsTo.of_eq rfl) rfl (fun X' hw hlv hm hv hf => ?_) (by decide) rfl rfl rfl
  repeat walk_at "ws"
  refine WE.methK (f := .ref 306) (by k_is) ?_
  repeat walk_at "ws"
  refine ⟨Meth.ins (ShAt.ins S) rfl (by k_is) (by k_is) (by k_is), ?_⟩
  repeat walk_at "ws"
  refine w_fetch (u := .dct ks) (by show 1 ≤ X'.lv; lia) S (by show FetchTo X'.w _ _ _ _; rw [hw]; exact F) ?_
  repeat walk_at "ws"
  refine WT.plain ?_
  refine WE.callB (by k_is) rfl (by decide) ?_
  repeat walk_at "ws"
  refine WE.blt (by k_is) rfl (by decide) ?_
  repeat walk_at "ws"
  refine IsIn.kind (w := X'.w) (r := true) (.dct .tree) (by kit_is) _ _ _ rfl ?_
  repeat walk_at "ws"
  exact .inl h
theorem w_rowof {hd' : V} {ks : List (Str × V)} {key : Str} {vs : List V} (hl : 3 ≤ c.X.lv) (S : ShAt σ.mem i j t r tb tr) (D : DctAt σ hd' ks) (hk : ks.lookup key = some (.lst vs)) (h : P (.lst vs) σ.mem) : WL c (callV (.ref 400)) [.ptr i, hd', .str key] σ P := by
  refine WL.def_ (lc [("shelf", .ptr i), ("node", hd'), ("key", .str key)]) (by lia) (by k_is) (by k_is) (hb3 fun _ _ _ _ => BindsTo.of_eq rfl) rfl (fun X' hw hlv hm hv hf => ?_) (by decide) rfl rfl rfl
  repeat walk_at "ws"
  refine WE.methK (f := .ref 313) (by k_is) ?_
  repeat walk_at "ws"
  refine ⟨Meth.ins (ShAt.ins S) rfl (by k_is) (by k_is) (by k_is), ?_⟩
  repeat walk_at "ws"
  refine w_get (u := .lst vs) (by show 2 ≤ X'.lv; lia) S (D.mv rfl) (by rw [hk]; exact .plain (.kind (.lst .tree) (by kit_is))) ?_
  repeat walk_at "ws"
  refine WT.plain ?_
  refine WE.callB (by k_is) rfl (by decide) ?_
  repeat walk_at "ws"
  refine WE.blt (by k_is) rfl (by decide) ?_
  repeat walk_at "ws"
  refine IsIn.kind (w := X'.w) (r := true) (.lst .tree) (by kit_is) _ _ _ rfl ?_
  repeat walk_at "ws"
  exact .inl h
theorem w_nodepairs {ks : List (Str × V)} {ps : List (Int × V)} (hl : 5 ≤ c.X.lv) (hlen : ps.length ≤ 1000) (S : ShAt σ.mem i j t r tb tr) (hk : ks.lookup ("Nums" : Str) = some (V.lst (rowV ps))) (ho : ∀ n, oldL n (ps.map pairV)) (h : P (.lst (ps.map pairV)) σ.mem) : WL c (callV (.ref 405)) [.ptr i, .dct ks, .str "Nums"] σ P := by
  refine WR.no (WR.defC (lc [("shelf", .ptr i), ("node", .dct ks), ("word", .str "Nums")]) [("row", none), ("word", some (.str "Nums")), ("shelf", some (.ptr i))] (lc [("node", .dct ks)]) (by lia) (by k_is) (by k_is) (hb3 fun _ _ _ _ => BindsTo.of_eq rfl) rfl (by decide) rfl (hs_cons rfl hs_nil) (hc_none (hc_cons rfl (hc_cons rfl hc_nil))) (fun X' hw hlv hm hv hf => ?_) rfl rfl rfl)
  repeat walk_at "ws"
  refine W2.notin_d .tree ?_
  rw [hk]
  repeat walk_at "ws"
  refine W0.asgC rfl ?_
  refine WE.callG (by k_is) (by k_is) ?_
  repeat walk_at "ws"
  refine w_rowof (vs := rowV ps) (by show 3 ≤ X'.lv; lia) (ShAt.app S) .tree hk ?_
  refine ⟨none, mem_at (k := 0) rfl, ?_⟩
  rw [set_at0]
  repeat walk_at "ws"
  refine WE.callB (by k_is) rfl (by decide) ?_
  repeat walk_at "ws"
  refine WL.len .tree (by rw [row_len]; lia) ?_
  rw [row_len]
  repeat walk_at "ws"
  refine W2.mod_ii (by decide) ?_
  repeat walk_at "ws"
  rw [show ((((2 * ps.length : Nat) : Int)).fmod 2 != 0) = false by rw [Int.fmod_eq_emod_of_nonneg _ (by decide)]; simp]
  repeat walk_at "ws"
  have hnth : ∀ k, k < ps.length → ∃ p, ps[k]? = some p := fun k hk => ⟨ps[k], List.getElem?_eq_getElem hk⟩
  refine WE.lmap (List.range ps.length) (fun i : Nat => V.int (2 * (i : Int))) (fun k => match ps[k]? with | some p => pairV p | none => .none) (fun _ => true) (σ.mem ++ [M.cel (some (.lst (rowV ps))), M.cel (some (.str "Nums")), M.cel (some (.ptr i))]) ?_ ?_ ?_
  · refine WE.callT (by k_is) rfl (by decide) ?_
    repeat walk_at "ws"
    refine WE.callB (by k_is) rfl (by decide) ?_
    repeat walk_at "ws"
    refine WL.len .tree (by rw [row_len]; lia) ?_
    rw [row_len]
    repeat walk_at "ws"
    refine WL.range3 (by decide) (by decide) ?_
    exact ⟨rng2_src hlen, by rw [List.length_range]; lia, rfl⟩
  · intro k hk2
    obtain ⟨p, hp⟩ := hnth k (List.mem_range.mp hk2)
    obtain ⟨g1, g2⟩ := row_get hp
    have hb : k ≤ 1000 := by have := List.mem_range.mp hk2; lia
    refine ⟨_, .name rfl, fun X2 hw2 hl2 => ⟨rfl, rfl, fun _ => ?_⟩⟩
    have hl2 : X2.lv = X'.lv := hl2
    refine WE.tup ?_
    refine WA.cons ?_
    refine WE.callG (by k_is) (by k_is) ?_
    repeat walk_at "ws"
    refine WE.methK (f := .ref 306) (by k_is) ?_
    repeat walk_at "ws"
    refine ⟨Meth.ins (ShAt.ins (ShAt.app S)) rfl (by k_is) (by k_is) (by k_is), ?_⟩
    repeat walk_at "ws"
    refine W2.item_l (v := .int p.1) .tree (by lia) (by lia) (by rw [show (2 * (k : Int)).toNat = 2 * k by lia]; exact g1) ?_
    repeat walk_at "ws"
    refine w_fetch (by show 1 ≤ X2.lv; lia) (ShAt.app S) (.plain isin_int_ref) ?_
    repeat walk_at "ws"
    refine w_keyof (by show 1 ≤ X2.lv; lia) ?_
    repeat walk_at "ws"
    refine W2.item_l (v := p.2) .tree (by lia) (by lia) (by rw [show (2 * (k : Int) + 1).toNat = 2 * k + 1 by lia]; exact g2) ?_
    repeat walk_at "ws"
    refine ⟨Nat.le_of_ble_eq_true rfl, ?_⟩
    exact ⟨by rw [hp]; rfl, rfl⟩
  · rw [filter_tt]
    have e : (List.range ps.length).map (fun k => match ps[k]? with | some p => pairV p | none => .none) = ps.map pairV := by
      apply List.ext_getElem?
      intro k
      rw [List.getElem?_map, List.getElem?_map]
      by_cases hk3 : k < ps.length
      · rw [List.getElem?_range hk3]
        simp [List.getElem?_eq_getElem hk3]
      · rw [List.getElem?_eq_none (by simpa using hk3), List.getElem?_eq_none (by simpa using hk3)]; rfl
    rw [e]
    exact out_same (ho _) hm h
end
section
variable {c : Cx} {σ : St} {P : V → List M → Prop} {a : V} {x : Str}
theorem Meth.join : Meth c (.str x) "join" (.builtin "str.join") σ :=
  fun s fz ml u Q E pl R hi k => by
    refine oE (v_str hi) fun t e91 => ?_
    subst e91
    exact GM.join (k s.heap s.toks R)
theorem strs_are {fz ml : Led} : ∀ {xs : List Str} {us : List Value}, c.l fz ml (xs.map V.str) us → ∃ l : List (Str × Tok), us = strValues l ∧ l.map (·.1) = xs
  | [], us, h => by rw [l_nil h]; exact ⟨[], rfl, rfl⟩
  | x :: xs, us, h => by
    refine oEEAA (l_cons h) fun u us e92 a b => ?_
    subst e92
    refine oE (v_str a) fun t e91 => ?_
    subst e91
    refine oEA (strs_are b) fun l e91 e => ?_
    subst e91
    exact ⟨(x, t) :: l, rfl, by rw [List.map_cons, e]⟩
theorem WL.join {xs : List Str} (S : LstAt σ a (xs.map V.str)) (hj : JoinOk x xs = true) (h : P (.str (Txt.join x xs)) σ.mem) : WL c (callV (.builtin "str.join")) [.str x, a] σ P :=
  fun s fz ml us Q E R hu kq => by
    obtain ⟨u1, _, rfl, hi, hu⟩ := l_cons hu
    obtain ⟨u2, _, rfl, hj2, hu⟩ := l_cons hu
    obtain rfl := l_nil hu
    refine oE (v_str hi) fun t e91 => ?_
    subst e91
    refine oEEEEAAAAAA (S.get R hj2) fun ad o ws n e94 hg e1 _ e2 l _ => ?_
    subst e94
    refine oEA (strs_are l) fun l2 e91 e => ?_
    subst e91
    exact SC.join ⟨o, hg, e1, n, e2⟩ e hj fun t' k => kq _ _ fz ml s.heap k _ h .rfl R mk_str
end
section
variable {c : Cx} {σ : St} {P : V → List M → Prop} {i j t r : Nat} {tb : List (Int × V)} {tr : List (Str × V)} {v u a : V} {x : Str}
noncomputable def preB (p : Str) : Array UInt8 := if p = "" then #[] else if p = "x-" then #[120, 45] else #[49]
noncomputable def nameV (s : Str) : V := .ins 190 (lc [("text", .str s)])
noncomputable def strV (b : Array UInt8) : V := .ins 212 (lc [("octets", .byt b), ("is_hex", .bool false)])
theorem w_ptext0 {b : Array UInt8} {p : Str} (hl : 1 ≤ c.X.lv) (hb : b.size ≤ 100) (hM : ((KBy.picked b none (some 2)).toList != [254, 255]) = true) (hj : JoinOk "" (b.toList.map fun c : UInt8 => (⟨#[c.toNat]⟩ : Str)) = true) (hp : Txt.join "" (b.toList.map fun c : UInt8 => (⟨#[c.toNat]⟩ : Str)) = p) (h : P (.str p) σ.mem) : WL c (callV (.ref 577)) [.byt b] σ P := by
  refine WR.no (WR.defC (lc [("octets", .byt b)]) [("octets", some (.byt b))] [] hl (by k_is) (by k_is) (hb1 fun _ _ => BindsTo.of_eq rfl) rfl (by decide) rfl hs_nil (hc_cons rfl hc_nil) (fun X' hw hlv hm hv hf => ?_) rfl rfl rfl)
  repeat walk_at "ws"
  refine WE.slcU ?_
  repeat walk_at "ws"
  refine ⟨_, rfl, ?_⟩
  refine W2.slc_b (by lia) ?_
  refine WE.gloV (t := .byt #[254, 255]) (by k_is) (fun _ _ _ => mk_byt) ?_
  refine W2.ne_bb ?_
  rw [show (#[(254 : UInt8), 255]).toList = [254, 255] from rfl, hM]
  repeat walk_at "ws"
  refine WE.methB (id := "str.join") ?_
  repeat walk_at "ws"
  refine ⟨Meth.join, ?_⟩
  refine WA.cons ?_
  refine WE.lmap b.toList (fun c => V.int (c.toNat : Int)) (fun c => V.str ⟨#[c.toNat]⟩) (fun _ => true) (σ.mem ++ [M.cel (some (.byt b))]) ?_ ?_ ?_
  · repeat walk_at "ws"
    exact ⟨.byt, by rw [Array.length_toList]; lia, rfl⟩
  · intro cc hc
    refine ⟨_, .name rfl, fun X2 hw2 hl2 => ⟨rfl, rfl, fun _ => ?_⟩⟩
    refine WE.callB (by k_is) rfl (by decide) ?_
    repeat walk_at "ws"
    have := cc.toNat_lt
    refine WL.chr (by lia) (by lia) ?_
    exact ⟨by rw [Int.toNat_natCast], rfl⟩
  · rw [filter_tt]
    repeat walk_at "ws"
    have e : (b.toList.map fun c : UInt8 => V.str ⟨#[c.toNat]⟩) = (b.toList.map fun c : UInt8 => (⟨#[c.toNat]⟩ : Str)).map V.str := by rw [List.map_map]; rfl
    rw [e]
    refine WL.join .tree hj ?_
    rw [hp]
    repeat walk_at "ws"
    exact out_same trivial hm h
theorem w_ptext {p : Str} (hl : 1 ≤ c.X.lv) (hp : p ∈ prefList) (h : P (.str p) σ.mem) : WL c (callV (.ref 577)) [.byt (preB p)] σ P := by
  simp only [prefList, List.mem_cons, List.not_mem_nil, or_false] at hp
  rcases hp with rfl | rfl | rfl
  · exact w_ptext0 hl (by decide) (by decide) (by decide) (by decide) h
  · exact w_ptext0 hl (by decide) (by decide) (by decide) (by decide) h
  · exact w_ptext0 hl (by decide) (by decide) (by decide) (by decide) h
end
section
variable {c : Cx} {σ : St} {ρl : List (Str × V)} {ρm : List M} {P : V → List M → Prop} {PX : Fl → St → Prop} {e : Expr} {pos : Pos} {x y : Str}
theorem W0.unpLC {px py : Pos} {kk : Nat} {tpos : Pos} {i : Nat} (hc : c.cel.lookup y = some i) (h : WE c e ⟨ρl, ρm⟩ fun v m => ∃ v1 v2, v = .tup [v1, v2] ∧ ∃ ov, m[i]? = some (.cel ov) ∧ PX .nxt ⟨(x, v1) :: ρl, m.set i (.cel (some v2))⟩)
    (hx : c.sc.names.lookup x = some .local := by rfl) (hy : c.sc.names.lookup y = some .cell := by rfl)
    (h1 : swapsWithSole [Expr.Tuple [.Name x px, .Name y py] kk tpos] e pos.line c.env = pure false := by rfl) (h2 : swappedStores [Expr.Tuple [.Name x px, .Name y py] kk tpos] e c.env = pure none := by rfl) : W0 c (.Assign [.Tuple [.Name x px, .Name y py] kk tpos] e pos) ⟨ρl, ρm⟩ PX :=
  fun hf s fz ml Q E R k kr => Assign_Tuple (h s fz ml _ E R fun v m fz1 ml1 h1 tk1 u hv x1 R1 i1 => by
    refine oEEAEA hv fun v1 v2 e92 ov hm hp => ?_
    subst e92
    refine hold fun _ hK9 => ?_
    obtain ⟨a, o, us, n, rfl, z, e1, e2, i⟩ := v_tup i1
    refine hK9 ?_
    refine hold fun _ hK9 => ?_
    obtain ⟨mm, f, F, LA, lo⟩ := R1.fr
    refine hK9 ?_
    have hn : nmsOf [Expr.Name x px, Expr.Name y py] = some [x, y] := rfl
    refine oA (each_nms (env := c.env) hn) fun n1 n2 => ?_
    refine unpackN_ F R1.news ⟨o, R1.zf z, e1, n, e2⟩ rfl (by rw [n1, List.size_toArray, l_len i]; rfl) n2 fun h' F' N' => ?_
    have R2 := R1.move F' LA lo N'
    obtain ⟨u1, us1, rfl, j1, i⟩ := l_cons i
    obtain ⟨u2, us2, rfl, j2, i⟩ := l_cons i
    obtain rfl := l_nil i
    rw [each_Name, List.map_cons]
    refine assignInOrder_cons (PyProof.Rows.assign_Name ?_)
    refine hold fun _ hK9 => ?_
    obtain ⟨mm2, f2, F2, LA2, lo2⟩ := R2.fr
    refine hK9 ?_
    rw [hf.cm] at LA2
    obtain rfl : f2 = mm2 := LA2
    rw [Cx.env, hf.env]
    refine storeX_L F2 R2.news (fun h3 F3 N3 => ?_) R.ok.kind (by show List.lookup x c.X.cs.names = _; rw [← hf.sc]; exact hx)
    have R3 := R2.stored (x := x) hf.cm F2 lo2 F3 N3 j1
    rw [← hf.env]
    rw [each_Name, List.map_cons]
    refine assignInOrder_cons (PyProof.Rows.assign_Name ?_)
    refine Rel.setCel (c := c) (ov := ov) (s := shr (shr (shr s h1 tk1) h' _) h3 _) hf R3 hc hm j2 hy fun ml4 h4 tk4 R4 x4 => ?_
    refine assignInOrder_nil ?_
    exact k _ _ fz1 ml4 h4 tk4 _ hp (x1.trans x4).n R4 (rfl : Flow.next = _)) h1 h2
theorem WE.lstE {elts : List Expr} (h : WA c elts ⟨ρl, ρm⟩ fun vs m => vs.length ≤ 1000 ∧ ∃ n m1, n = m.length ∧ m1 = m ++ [.lst vs] ∧ P (.ptr n) m1) : WE c (.List elts pos) ⟨ρl, ρm⟩ P :=
  WE.lstC fun pos s fz ml Q E R k => h pos s fz ml Q E R fun vs m fz1 ml1 h1 tk1 us hv x1 R1 i1 => k vs m fz1 ml1 h1 tk1 us (by obtain ⟨h1, n, m1, rfl, rfl, h2⟩ := hv; exact ⟨h1, h2⟩) x1 R1 i1
theorem WE.dctE {n : Nat} {m1 : List M} (hn : n = ρm.length) (hm : m1 = ρm ++ [.dct []]) (h : P (.ptr n) m1) : WE c (.Dict [] [] pos) ⟨ρl, ρm⟩ P := by subst hn hm; exact WE.dctC h
theorem WE.dciE {n : Nat} {m1 : List M} (hn : n = ρm.length) (hm : m1 = ρm ++ [.dci []]) (h : P (.ptr n) m1) : WE c (.Dict [] [] pos) ⟨ρl, ρm⟩ P := by subst hn hm; exact WE.dciC h
theorem FrzL.same {n : Nat} {mem : List M} : ∀ {vs : List V}, oldL n vs → FrzL n mem vs vs
  | [], _ => .nil
  | v :: vs, h => by exact .cons (.same h.1) (FrzL.same h.2)
end
section
variable {c : Cx} {σ : St} {P : V → List M → Prop} {i j t r : Nat} {tb : List (Int × V)} {tr : List (Str × V)} {v u a : V} {x : Str}
theorem w_Name (hl : 2 ≤ c.X.lv) (hne : σ.mem ≠ []) (h : P (.ptr (σ.mem.length + 1)) (σ.mem ++ [.nsd (lc [("text", .str x)]), .ins 190 σ.mem.length])) : WL c (callV (.ref 190)) [.str x] σ P := by
  refine WL.cls (fI := 187) hl hne (by k_is) (by k_is) (by k_is) (lc [("self", .ptr (σ.mem.length + 1)), ("text", .str x)]) (by k_is) (by k_is) (hb2 fun _ _ _ => BindsTo.of_eq rfl) rfl (fun X' hw hlv hf => ?_) (by decide) rfl rfl rfl
  rw [List.append_assoc]
  repeat walk_at "ws"
  refine W0.setAttr ?_
  repeat walk_at "ws"
  refine WSA.ins (j := σ.mem.length) (mem_at (k := 1) rfl) (mem_at (k := 0) rfl) (Nat.le_of_ble_eq_true rfl) (by k_is) (by k_is) (by k_is) (by k_is) ?_
  try dsimp only [Nat.add_zero]
  rw [set_at0]
  repeat walk_at "ws"
  exact .inl ⟨rfl, h⟩
theorem w_Ref {n g : Int} (hl : 2 ≤ c.X.lv) (hne : σ.mem ≠ []) (h : P (.ptr (σ.mem.length + 1)) (σ.mem ++ [.nsd (lc [("number", .int n), ("generation", .int g)]), .ins 261 σ.mem.length])) : WL c (callV (.ref 261)) [.int n, .int g] σ P := by
  refine WL.cls (fI := 251) hl hne (by k_is) (by k_is) (by k_is) (lc [("self", .ptr (σ.mem.length + 1)), ("number", .int n), ("generation", .int g)]) (by k_is) (by k_is) (hb3 fun _ _ _ _ => BindsTo.of_eq rfl) rfl (fun X' hw hlv hf => ?_) (by decide) rfl rfl rfl
  rw [List.append_assoc]
  repeat walk_at "ws"
  refine W0.setAttr ?_
  repeat walk_at "ws"
  refine WSA.ins (j := σ.mem.length) (mem_at (k := 1) rfl) (mem_at (k := 0) rfl) (Nat.le_of_ble_eq_true rfl) (by k_is) (by k_is) (by k_is) (by k_is) ?_
  try dsimp only [Nat.add_zero]
  rw [set_at0]
  repeat walk_at "ws"
  refine W0.setAttr ?_
  repeat walk_at "ws"
  refine WSA.ins (j := σ.mem.length) (mem_at (k := 1) rfl) (mem_at (k := 0) rfl) (Nat.le_of_ble_eq_true rfl) (by k_is) (by k_is) (by k_is) (by k_is) ?_
  try dsimp only [Nat.add_zero]
  rw [set_at0]
  repeat walk_at "ws"
  exact .inl ⟨rfl, h⟩
theorem w_String {b : Array UInt8} (hl : 2 ≤ c.X.lv) (hne : σ.mem ≠ []) (h : P (.ptr (σ.mem.length + 1)) (σ.mem ++ [.nsd (lc [("octets", .byt b), ("is_hex", .bool false)]), .ins 212 σ.mem.length])) : WL c (callV (.ref 212)) [.byt b] σ P := by
  refine WL.cls (fI := 209) hl hne (by k_is) (by k_is) (by k_is) (lc [("self", .ptr (σ.mem.length + 1)), ("octets", .byt b), ("is_hex", .bool false)]) (by k_is) (by k_is) (fun s fz ml us X hu => ?_) rfl (fun X' hw hlv hf => ?_) (by decide) rfl rfl rfl
  · obtain ⟨u1, _, rfl, i1, hu⟩ := l_cons hu
    obtain ⟨u2, _, rfl, i2, hu⟩ := l_cons hu
    obtain rfl := l_nil hu
    refine ⟨_, BindsTo.of_defaults (T := 202) rfl (X _ _ (by k_is)) rfl rfl rfl, ?_⟩
    refine ⟨_, _, rfl, i1, ?_⟩
    refine ⟨_, _, rfl, i2, ?_⟩
    refine ⟨_, _, rfl, mk_bool (c := c), ?_⟩
    rfl
  rw [List.append_assoc]
  repeat walk_at "ws"
  refine W0.setAttr ?_
  repeat walk_at "ws"
  refine WSA.ins (j := σ.mem.length) (mem_at (k := 1) rfl) (mem_at (k := 0) rfl) (Nat.le_of_ble_eq_true rfl) (by k_is) (by k_is) (by k_is) (by k_is) ?_
  try dsimp only [Nat.add_zero]
  rw [set_at0]
  repeat walk_at "ws"
  refine W0.setAttr ?_
  repeat walk_at "ws"
  refine WSA.ins (j := σ.mem.length) (mem_at (k := 1) rfl) (mem_at (k := 0) rfl) (Nat.le_of_ble_eq_true rfl) (by k_is) (by k_is) (by k_is) (by k_is) ?_
  try dsimp only [Nat.add_zero]
  rw [set_at0]
  repeat walk_at "ws"
  exact .inl ⟨rfl, h⟩
theorem w_Shelf (hl : 2 ≤ c.X.lv) (hne : σ.mem ≠ []) (h : P (.ptr (σ.mem.length + 1)) (σ.mem ++ [.nsd (lc [("table", .ptr (σ.mem.length + 2)), ("trailer", .ptr (σ.mem.length + 3))]), .ins 370 σ.mem.length, .dci [], .dct []])) : WL c (callV (.ref 370)) [] σ P := by
  refine WL.cls (fI := 299) hl hne (by k_is) (by k_is) (by k_is) (lc [("self", .ptr (σ.mem.length + 1)), ("table", .none), ("trailer", .none)]) (by k_is) (by k_is) (fun s fz ml us X hu => ?_) rfl (fun X' hw hlv hf => ?_) (by decide) rfl rfl rfl
  · obtain ⟨u1, _, rfl, i1, hu⟩ := l_cons hu
    obtain rfl := l_nil hu
    refine ⟨_, BindsTo.of_defaults (T := 292) rfl (X _ _ (by k_is)) rfl rfl rfl, ?_⟩
    refine ⟨_, _, rfl, i1, ?_⟩
    refine ⟨_, _, rfl, mk_none (c := c), ?_⟩
    refine ⟨_, _, rfl, mk_none (c := c), ?_⟩
    rfl
  rw [List.append_assoc]
  repeat walk_at "ws"
  refine W0.setAttr ?_
  repeat walk_at "ws"
  refine WE.dciE (n := σ.mem.length + 2) (m1 := σ.mem ++ [.nsd [], .ins 370 σ.mem.length, .dci []]) (by simp) (by simp) ?_
  repeat walk_at "ws"
  refine WSA.ins (j := σ.mem.length) (mem_at (k := 1) rfl) (mem_at (k := 0) rfl) (Nat.le_of_ble_eq_true rfl) (by k_is) (by k_is) (by k_is) (by k_is) ?_
  try dsimp only [Nat.add_zero]
  rw [set_at0]
  repeat walk_at "ws"
  refine W0.setAttr ?_
  repeat walk_at "ws"
  refine WE.dctE (n := σ.mem.length + 3) (m1 := σ.mem ++ [.nsd (lc [("table", .ptr (σ.mem.length + 2))]), .ins 370 σ.mem.length, .dci [], .dct []]) (by simp) (by simp [lc, stA]) ?_
  repeat walk_at "ws"
  refine WSA.ins (j := σ.mem.length) (mem_at (k := 1) rfl) (mem_at (k := 0) rfl) (Nat.le_of_ble_eq_true rfl) (by k_is) (by k_is) (by k_is) (by k_is) ?_
  try dsimp only [Nat.add_zero]
  rw [set_at0]
  repeat walk_at "ws"
  exact .inl ⟨rfl, h⟩
end
section
variable {c : Cx} {σ : St} {P : V → List M → Prop} {i j t r : Nat} {tb : List (Int × V)} {tr : List (Str × V)} {v u a : V} {x : Str}
theorem w_octets {p : Str} (hl : 1 ≤ c.X.lv) (hp : p ∈ prefList) (h : P (.byt (preB p)) σ.mem) : WL c (callV (.ref 565)) [.str p] σ P := by
  have hA := pref_asc hp
  have hlen := pref_len hp
  have hall : p.cps.all (· < 128) = true := by
    rw [← Array.all_toList, List.all_eq_true]
    intro c hc
    exact decide_eq_true (hA c hc)
  have hpl : p.cps.toList.length ≤ 2 := by rw [Array.length_toList]; exact hlen
  have hby : byteArr (p.cps.toList.map fun c : Nat => (c : Int)) = preB p := by
    simp only [prefList, List.mem_cons, List.not_mem_nil, or_false] at hp
    rcases hp with rfl | rfl | rfl <;> decide +kernel
  refine WL.def_ (lc [("text", .str p)]) hl (by k_is) (by k_is) (hb1 fun _ _ => BindsTo.of_eq rfl) rfl (fun X' hw hlv hm hv hf => ?_) (by decide) rfl rfl rfl
  repeat walk_at "ws"
  refine WE.lmap p.cps.toList (fun c => V.str ⟨#[c]⟩) (fun c => V.str ⟨#[c]⟩) (fun c : Nat => decide ((127 : Int) < (c : Int))) σ.mem ?_ ?_ ?_
  · repeat walk_at "ws"
    exact ⟨.str hall, by lia, rfl⟩
  · intro cc hc
    refine ⟨_, .name rfl, fun X2 hw2 hl2 => ?_⟩
    show WT _ _ _ _
    repeat walk_at "ws"
    refine WE.callB (by k_is) rfl (by decide) ?_
    repeat walk_at "ws"
    refine WL.ord rfl ?_
    repeat walk_at "ws"
    refine ⟨rfl, rfl, fun _ => ?_⟩
    repeat walk_at "ws"
    exact ⟨rfl, rfl⟩
  have hf0 : p.cps.toList.filter (fun c : Nat => decide ((127 : Int) < (c : Int))) = [] := List.filter_eq_nil_iff.mpr fun c hc => by have := hA c hc; simp; lia
  rw [hf0]
  refine WE.lst ?_
  repeat walk_at "ws"
  refine ⟨by decide, ?_⟩
  refine W2.eq_l .tree .tree rfl rfl (by decide) (by decide) (by decide) ?_
  repeat walk_at "ws"
  refine WE.callT (by k_is) rfl (by decide) ?_
  refine WA.cons ?_
  refine WE.lmap p.cps.toList (fun c => V.str ⟨#[c]⟩) (fun c : Nat => V.int (c : Int)) (fun _ => true) σ.mem ?_ ?_ ?_
  · repeat walk_at "ws"
    exact ⟨.str hall, by lia, rfl⟩
  · intro cc hc
    refine ⟨_, .name rfl, fun X2 hw2 hl2 => ⟨rfl, rfl, fun _ => ?_⟩⟩
    refine WE.callB (by k_is) rfl (by decide) ?_
    repeat walk_at "ws"
    refine WL.ord rfl ?_
    exact ⟨rfl, rfl⟩
  rw [filter_tt, show (p.cps.toList.map fun c : Nat => V.int (c : Int)) = (p.cps.toList.map fun c : Nat => (c : Int)).map V.int by rw [List.map_map]; rfl]
  repeat walk_at "ws"
  refine WL.bytes .tree (fun k hk => ?_) (by rw [List.length_map]; lia) ?_
  · refine oEA (List.mem_map.mp hk) fun c hc e92 => ?_
    subst e92
    have := hA c hc
    lia
  rw [hby]
  exact .inl h
theorem w_NameE {n : Nat} {m1 : List M} (hl : 2 ≤ c.X.lv) (hne : σ.mem ≠ []) (hn : n = σ.mem.length) (hm : m1 = σ.mem ++ [.nsd (lc [("text", .str x)]), .ins 190 n]) (h : P (.ptr (n + 1)) m1) : WL c (callV (.ref 190)) [.str x] σ P := by subst hn hm; exact w_Name hl hne h
theorem w_StringE {b : Array UInt8} {n : Nat} {m1 : List M} (hl : 2 ≤ c.X.lv) (hne : σ.mem ≠ []) (hn : n = σ.mem.length) (hm : m1 = σ.mem ++ [.nsd (lc [("octets", .byt b), ("is_hex", .bool false)]), .ins 212 n]) (h : P (.ptr (n + 1)) m1) : WL c (callV (.ref 212)) [.byt b] σ P := by subst hn hm; exact w_String hl hne h
noncomputable def ldV (s p : Str) (b : Int) : List (Str × V) := (if s = "" then [] else lc [("S", nameV s)]) ++ (if p = "" then [] else lc [("P", strV (preB p))]) ++ (if b = 1 then [] else lc [("St", V.int b)])
theorem w_ldict {s p : Str} {b : Int} (hl : 4 ≤ c.X.lv) (hs : s ∈ styleList) (hp : p ∈ prefList) (h : P (.dct (ldV s p b)) σ.mem) : WL c (callV (.ref 584)) [.str s, .str p, .int b] σ P := by
  refine WL.def_ (lc [("style", .str s), ("prefix", .str p), ("start", .int b)]) (by lia) (by k_is) (by k_is) (hb3 fun _ _ _ _ => BindsTo.of_eq rfl) rfl (fun X' hw hlv hm hv hf => ?_) (by decide) rfl rfl rfl
  repeat walk_at "ws"
  have hne1 : ∀ l : List M, σ.mem ++ .dct [] :: l ≠ [] := fun l => by simp
  refine WE.dctE (n := σ.mem.length) (m1 := σ.mem ++ [.dct []]) rfl rfl ?_
  by_cases hs0 : s = ""
  · by_cases hp0 : p = ""
    · by_cases hb0 : b = 1
      · repeat walk_at "ws"
        rw [show (s != Str.ofString "") = false by simpa using hs0]
        repeat walk_at "ws"
        rw [show (p != Str.ofString "") = false by simpa using hp0]
        repeat walk_at "ws"
        rw [show (b != 1) = false by simpa using hb0]
        repeat walk_at "ws"
        refine out_frz (v' := .dct (ldV s p b)) ?_ hm h
        unfold ldV
        rw [if_pos hs0, if_pos hp0, if_pos hb0]
        exact .dct (Nat.le_refl _) (mem_at (k := 0) rfl) .nil
      · repeat walk_at "ws"
        rw [show (s != Str.ofString "") = false by simpa using hs0]
        repeat walk_at "ws"
        rw [show (p != Str.ofString "") = false by simpa using hp0]
        repeat walk_at "ws"
        rw [show (b != 1) = true by simpa using hb0]
        repeat walk_at "ws"
        refine WS.dct (mem_at (k := 0) rfl) (Nat.le_of_ble_eq_true rfl) ?_
        try dsimp only [Nat.add_zero]
        rw [set_at0]
        show WX _ _ ⟨_, σ.mem ++ [.dct (lc [("St", .int b)])]⟩ _
        repeat walk_at "ws"
        refine out_frz (v' := .dct (ldV s p b)) ?_ hm h
        unfold ldV
        rw [if_pos hs0, if_pos hp0, if_neg hb0]
        exact .dct (Nat.le_refl _) (mem_at (k := 0) rfl) (.cons (.same trivial) .nil)
    · by_cases hb0 : b = 1
      · repeat walk_at "ws"
        rw [show (s != Str.ofString "") = false by simpa using hs0]
        repeat walk_at "ws"
        rw [show (p != Str.ofString "") = true by simpa using hp0]
        repeat walk_at "ws"
        refine WE.callG (by k_is) (by k_is) ?_
        refine WA.cons ?_
        refine WE.callG (by k_is) (by k_is) ?_
        repeat walk_at "ws"
        refine w_octets (by show 1 ≤ X'.lv; lia) hp ?_
        repeat walk_at "ws"
        refine w_StringE (n := σ.mem.length + 1) (m1 := σ.mem ++ [.dct [], .nsd (lc [("octets", .byt (preB p)), ("is_hex", .bool false)]), .ins 212 (σ.mem.length + 1)]) (by show 2 ≤ X'.lv; lia) (by simp) (by simp) (by simp) ?_
        repeat walk_at "ws"
        refine WS.dct (mem_at (k := 0) rfl) (Nat.le_of_ble_eq_true rfl) ?_
        try dsimp only [Nat.add_zero]
        rw [set_at0]
        show WX _ _ ⟨_, σ.mem ++ [.dct (lc [("P", .ptr (σ.mem.length + 1 + 1))]), .nsd (lc [("octets", .byt (preB p)), ("is_hex", .bool false)]), .ins 212 (σ.mem.length + 1)]⟩ _
        repeat walk_at "ws"
        rw [show (b != 1) = false by simpa using hb0]
        repeat walk_at "ws"
        refine out_frz (v' := .dct (ldV s p b)) ?_ hm h
        unfold ldV
        rw [if_pos hs0, if_neg hp0, if_pos hb0]
        exact .dct (Nat.le_refl _) (mem_at (k := 0) rfl) (.cons (.ins (by lia) (by lia) (mem_at (k := 2) rfl) (mem_at (k := 1) rfl) (.cons (.same trivial) (.cons (.same trivial) .nil))) .nil)
      · repeat walk_at "ws"
        rw [show (s != Str.ofString "") = false by simpa using hs0]
        repeat walk_at "ws"
        rw [show (p != Str.ofString "") = true by simpa using hp0]
        repeat walk_at "ws"
        refine WE.callG (by k_is) (by k_is) ?_
        refine WA.cons ?_
        refine WE.callG (by k_is) (by k_is) ?_
        repeat walk_at "ws"
        refine w_octets (by show 1 ≤ X'.lv; lia) hp ?_
        repeat walk_at "ws"
        refine w_StringE (n := σ.mem.length + 1) (m1 := σ.mem ++ [.dct [], .nsd (lc [("octets", .byt (preB p)), ("is_hex", .bool false)]), .ins 212 (σ.mem.length + 1)]) (by show 2 ≤ X'.lv; lia) (by simp) (by simp) (by simp) ?_
        repeat walk_at "ws"
        refine WS.dct (mem_at (k := 0) rfl) (Nat.le_of_ble_eq_true rfl) ?_
        try dsimp only [Nat.add_zero]
        rw [set_at0]
        show WX _ _ ⟨_, σ.mem ++ [.dct (lc [("P", .ptr (σ.mem.length + 1 + 1))]), .nsd (lc [("octets", .byt (preB p)), ("is_hex", .bool false)]), .ins 212 (σ.mem.length + 1)]⟩ _
        repeat walk_at "ws"
        rw [show (b != 1) = true by simpa using hb0]
        repeat walk_at "ws"
        refine WS.dct (mem_at (k := 0) rfl) (Nat.le_of_ble_eq_true rfl) ?_
        try dsimp only [Nat.add_zero]
        rw [set_at0]
        show WX _ _ ⟨_, σ.mem ++ [.dct (lc [("P", .ptr (σ.mem.length + 1 + 1)), ("St", .int b)]), .nsd (lc [("octets", .byt (preB p)), ("is_hex", .bool false)]), .ins 212 (σ.mem.length + 1)]⟩ _
        repeat walk_at "ws"
        refine out_frz (v' := .dct (ldV s p b)) ?_ hm h
        unfold ldV
        rw [if_pos hs0, if_neg hp0, if_neg hb0]
        exact .dct (Nat.le_refl _) (mem_at (k := 0) rfl) (.cons (.ins (by lia) (by lia) (mem_at (k := 2) rfl) (mem_at (k := 1) rfl) (.cons (.same trivial) (.cons (.same trivial) .nil))) (.cons (.same trivial) .nil))
  · by_cases hp0 : p = ""
    · by_cases hb0 : b = 1
      · repeat walk_at "ws"
        rw [show (s != Str.ofString "") = true by simpa using hs0]
        repeat walk_at "ws"
        refine WE.callG (by k_is) (by k_is) ?_
        repeat walk_at "ws"
        refine w_NameE (n := σ.mem.length + 1) (m1 := σ.mem ++ [.dct [], .nsd (lc [("text", .str s)]), .ins 190 (σ.mem.length + 1)]) (by show 2 ≤ X'.lv; lia) (by simp) (by simp) (by simp) ?_
        repeat walk_at "ws"
        refine WS.dct (mem_at (k := 0) rfl) (Nat.le_of_ble_eq_true rfl) ?_
        try dsimp only [Nat.add_zero]
        rw [set_at0]
        show WX _ _ ⟨_, σ.mem ++ [.dct (lc [("S", .ptr (σ.mem.length + 1 + 1))]), .nsd (lc [("text", .str s)]), .ins 190 (σ.mem.length + 1)]⟩ _
        repeat walk_at "ws"
        rw [show (p != Str.ofString "") = false by simpa using hp0]
        repeat walk_at "ws"
        rw [show (b != 1) = false by simpa using hb0]
        repeat walk_at "ws"
        refine out_frz (v' := .dct (ldV s p b)) ?_ hm h
        unfold ldV
        rw [if_neg hs0, if_pos hp0, if_pos hb0]
        exact .dct (Nat.le_refl _) (mem_at (k := 0) rfl) (.cons (.ins (by lia) (by lia) (mem_at (k := 2) rfl) (mem_at (k := 1) rfl) (.cons (.same trivial) .nil)) .nil)
      · repeat walk_at "ws"
        rw [show (s != Str.ofString "") = true by simpa using hs0]
        repeat walk_at "ws"
        refine WE.callG (by k_is) (by k_is) ?_
        repeat walk_at "ws"
        refine w_NameE (n := σ.mem.length + 1) (m1 := σ.mem ++ [.dct [], .nsd (lc [("text", .str s)]), .ins 190 (σ.mem.length + 1)]) (by show 2 ≤ X'.lv; lia) (by simp) (by simp) (by simp) ?_
        repeat walk_at "ws"
        refine WS.dct (mem_at (k := 0) rfl) (Nat.le_of_ble_eq_true rfl) ?_
        try dsimp only [Nat.add_zero]
        rw [set_at0]
        show WX _ _ ⟨_, σ.mem ++ [.dct (lc [("S", .ptr (σ.mem.length + 1 + 1))]), .nsd (lc [("text", .str s)]), .ins 190 (σ.mem.length + 1)]⟩ _
        repeat walk_at "ws"
        rw [show (p != Str.ofString "") = false by simpa using hp0]
        repeat walk_at "ws"
        rw [show (b != 1) = true by simpa using hb0]
        repeat walk_at "ws"
        refine WS.dct (mem_at (k := 0) rfl) (Nat.le_of_ble_eq_true rfl) ?_
        try dsimp only [Nat.add_zero]
        rw [set_at0]
        show WX _ _ ⟨_, σ.mem ++ [.dct (lc [("S", .ptr (σ.mem.length + 1 + 1)), ("St", .int b)]), .nsd (lc [("text", .str s)]), .ins 190 (σ.mem.length + 1)]⟩ _
        repeat walk_at "ws"
        refine out_frz (v' := .dct (ldV s p b)) ?_ hm h
        unfold ldV
        rw [if_neg hs0, if_pos hp0, if_neg hb0]
        exact .dct (Nat.le_refl _) (mem_at (k := 0) rfl) (.cons (.ins (by lia) (by lia) (mem_at (k := 2) rfl) (mem_at (k := 1) rfl) (.cons (.same trivial) .nil)) (.cons (.same trivial) .nil))
    · by_cases hb0 : b = 1
      · repeat walk_at "ws"
        rw [show (s != Str.ofString "") = true by simpa using hs0]
        repeat walk_at "ws"
        refine WE.callG (by k_is) (by k_is) ?_
        repeat walk_at "ws"
        refine w_NameE (n := σ.mem.length + 1) (m1 := σ.mem ++ [.dct [], .nsd (lc [("text", .str s)]), .ins 190 (σ.mem.length + 1)]) (by show 2 ≤ X'.lv; lia) (by simp) (by simp) (by simp) ?_
        repeat walk_at "ws"
        refine WS.dct (mem_at (k := 0) rfl) (Nat.le_of_ble_eq_true rfl) ?_
        try dsimp only [Nat.add_zero]
        rw [set_at0]
        show WX _ _ ⟨_, σ.mem ++ [.dct (lc [("S", .ptr (σ.mem.length + 1 + 1))]), .nsd (lc [("text", .str s)]), .ins 190 (σ.mem.length + 1)]⟩ _
        repeat walk_at "ws"
        rw [show (p != Str.ofString "") = true by simpa using hp0]
        repeat walk_at "ws"
        refine WE.callG (by k_is) (by k_is) ?_
        refine WA.cons ?_
        refine WE.callG (by k_is) (by k_is) ?_
        repeat walk_at "ws"
        refine w_octets (by show 1 ≤ X'.lv; lia) hp ?_
        repeat walk_at "ws"
        refine w_StringE (n := σ.mem.length + 3) (m1 := σ.mem ++ [.dct (lc [("S", .ptr (σ.mem.length + 1 + 1))]), .nsd (lc [("text", .str s)]), .ins 190 (σ.mem.length + 1), .nsd (lc [("octets", .byt (preB p)), ("is_hex", .bool false)]), .ins 212 (σ.mem.length + 3)]) (by show 2 ≤ X'.lv; lia) (by simp) (by simp) (by simp) ?_
        repeat walk_at "ws"
        refine WS.dct (mem_at (k := 0) rfl) (Nat.le_of_ble_eq_true rfl) ?_
        try dsimp only [Nat.add_zero]
        rw [set_at0]
        show WX _ _ ⟨_, σ.mem ++ [.dct (lc [("S", .ptr (σ.mem.length + 1 + 1)), ("P", .ptr (σ.mem.length + 3 + 1))]), .nsd (lc [("text", .str s)]), .ins 190 (σ.mem.length + 1), .nsd (lc [("octets", .byt (preB p)), ("is_hex", .bool false)]), .ins 212 (σ.mem.length + 3)]⟩ _
        repeat walk_at "ws"
        rw [show (b != 1) = false by simpa using hb0]
        repeat walk_at "ws"
        refine out_frz (v' := .dct (ldV s p b)) ?_ hm h
        unfold ldV
        rw [if_neg hs0, if_neg hp0, if_pos hb0]
        exact .dct (Nat.le_refl _) (mem_at (k := 0) rfl) (.cons (.ins (by lia) (by lia) (mem_at (k := 2) rfl) (mem_at (k := 1) rfl) (.cons (.same trivial) .nil)) (.cons (.ins (by lia) (by lia) (mem_at (k := 4) rfl) (mem_at (k := 3) rfl) (.cons (.same trivial) (.cons (.same trivial) .nil))) .nil))
      · repeat walk_at "ws"
        rw [show (s != Str.ofString "") = true by simpa using hs0]
        repeat walk_at "ws"
        refine WE.callG (by k_is) (by k_is) ?_
        repeat walk_at "ws"
        refine w_NameE (n := σ.mem.length + 1) (m1 := σ.mem ++ [.dct [], .nsd (lc [("text", .str s)]), .ins 190 (σ.mem.length + 1)]) (by show 2 ≤ X'.lv; lia) (by simp) (by simp) (by simp) ?_
        repeat walk_at "ws"
        refine WS.dct (mem_at (k := 0) rfl) (Nat.le_of_ble_eq_true rfl) ?_
        try dsimp only [Nat.add_zero]
        rw [set_at0]
        show WX _ _ ⟨_, σ.mem ++ [.dct (lc [("S", .ptr (σ.mem.length + 1 + 1))]), .nsd (lc [("text", .str s)]), .ins 190 (σ.mem.length + 1)]⟩ _
        repeat walk_at "ws"
        rw [show (p != Str.ofString "") = true by simpa using hp0]
        repeat walk_at "ws"
        refine WE.callG (by k_is) (by k_is) ?_
        refine WA.cons ?_
        refine WE.callG (by k_is) (by k_is) ?_
        repeat walk_at "ws"
        refine w_octets (by show 1 ≤ X'.lv; lia) hp ?_
        repeat walk_at "ws"
        refine w_StringE (n := σ.mem.length + 3) (m1 := σ.mem ++ [.dct (lc [("S", .ptr (σ.mem.length + 1 + 1))]), .nsd (lc [("text", .str s)]), .ins 190 (σ.mem.length + 1), .nsd (lc [("octets", .byt (preB p)), ("is_hex", .bool false)]), .ins 212 (σ.mem.length + 3)]) (by show 2 ≤ X'.lv; lia) (by simp) (by simp) (by simp) ?_
        repeat walk_at "ws"
        refine WS.dct (mem_at (k := 0) rfl) (Nat.le_of_ble_eq_true rfl) ?_
        try dsimp only [Nat.add_zero]
        rw [set_at0]
        show WX _ _ ⟨_, σ.mem ++ [.dct (lc [("S", .ptr (σ.mem.length + 1 + 1)), ("P", .ptr (σ.mem.length + 3 + 1))]), .nsd (lc [("text", .str s)]), .ins 190 (σ.mem.length + 1), .nsd (lc [("octets", .byt (preB p)), ("is_hex", .bool false)]), .ins 212 (σ.mem.length + 3)]⟩ _
        repeat walk_at "ws"
        rw [show (b != 1) = true by simpa using hb0]
        repeat walk_at "ws"
        refine WS.dct (mem_at (k := 0) rfl) (Nat.le_of_ble_eq_true rfl) ?_
        try dsimp only [Nat.add_zero]
        rw [set_at0]
        show WX _ _ ⟨_, σ.mem ++ [.dct (lc [("S", .ptr (σ.mem.length + 1 + 1)), ("P", .ptr (σ.mem.length + 3 + 1)), ("St", .int b)]), .nsd (lc [("text", .str s)]), .ins 190 (σ.mem.length + 1), .nsd (lc [("octets", .byt (preB p)), ("is_hex", .bool false)]), .ins 212 (σ.mem.length + 3)]⟩ _
        repeat walk_at "ws"
        refine out_frz (v' := .dct (ldV s p b)) ?_ hm h
        unfold ldV
        rw [if_neg hs0, if_neg hp0, if_neg hb0]
        exact .dct (Nat.le_refl _) (mem_at (k := 0) rfl) (.cons (.ins (by lia) (by lia) (mem_at (k := 2) rfl) (mem_at (k := 1) rfl) (.cons (.same trivial) .nil)) (.cons (.ins (by lia) (by lia) (mem_at (k := 4) rfl) (mem_at (k := 3) rfl) (.cons (.same trivial) (.cons (.same trivial) .nil))) (.cons (.same trivial) .nil)))
end
section
variable {c : Cx} {σ : St} {ρl : List (Str × V)} {ρm : List M} {P : V → List M → Prop} {PX : Fl → St → Prop} {e : Expr} {pos : Pos}
theorem l_rev {fz ml : Led} : ∀ {vs : List V} {us : List Value}, c.l fz ml vs us → c.l fz ml vs.reverse us.reverse
  | [], us, h => by rw [l_nil h]; exact mk_nil
  | v :: vs, us, h => by
    refine oEEAA (l_cons h) fun u us e92 a b => ?_
    subst e92
    rw [List.reverse_cons, List.reverse_cons]
    exact l_app (l_rev b) (mk_cons a mk_nil)
theorem store_bn (hf : c.IsFn) : ∀ {xs : List Str} {ws : List V} {us : List Value} {σ : St} {s : Shared} {fz ml : Led} {Q : Unit → Shared → Prop} {E : Value → Shared → Prop}, (∀ x ∈ xs, c.sc.names.lookup x = some .local) → ws.length = xs.length →
    Rel c σ fz ml s.heap → c.l fz ml ws us → (∀ h' tk', Rel c ⟨(xs.zip ws).reverse ++ σ.loc, σ.mem⟩ fz ml h' → Q () (shr s h' tk')) → wpAny c.M c.A (assignInOrder (xs.map fun n => bindName c.env n) us) Q E s
  | [], ws, us, σ, s, fz, ml, Q, E, hx, hl, R, i, k => by
    obtain rfl : ws = [] := List.eq_nil_of_length_eq_zero hl
    rw [l_nil i]
    exact assignInOrder_nil (k s.heap s.toks R)
  | x :: xs, ws, us, σ, s, fz, ml, Q, E, hx, hl, R, i, k => by
    cases ws with
    | nil => cases hl
    | cons w ws =>
      refine oEEAA (l_cons i) fun u us' e92 i1 i2 => ?_
      subst e92
      rw [List.map_cons]
      refine assignInOrder_cons (bindName_ ?_)
      refine hold fun _ hK9 => ?_
      obtain ⟨mm, f, F, LA, lo⟩ := R.fr
      refine hK9 ?_
      rw [hf.cm] at LA
      obtain rfl : f = mm := LA
      rw [Cx.env, hf.env]
      refine storeX_L F R.news (fun h' F' N' => ?_) R.ok.kind (by show List.lookup x c.X.cs.names = _; rw [← hf.sc]; exact hx x (.head _))
      have R' := R.stored (x := x) hf.cm F lo F' N' i1
      rw [← hf.env]
      refine store_bn hf (s := shr s h' _) (fun y hy => hx y (.tail _ hy)) (by simpa using hl) R' i2 fun h2 tk2 R2 => k h2 tk2 ?_
      rw [List.zip_cons_cons, List.reverse_cons, List.append_assoc]
      exact R2
theorem W0.unpS {elts : List Expr} {kk : Nat} {tpos : Pos} (xs : List Str) (hx : (xs.all fun x => decide (c.sc.names.lookup x = some .local)) = true) (h : WE c e ⟨ρl, ρm⟩ fun v m => ∃ ws, v = .tup ws ∧ ws.length = xs.length ∧ PX .nxt ⟨(xs.reverse.zip ws.reverse).reverse ++ ρl, m⟩)
    (h2 : ∀ env : Env, env.scope = c.sc → swappedStores [Expr.Tuple elts kk tpos] e env = pure (some xs)) (h1 : ∀ env : Env, env.scope = c.sc → swapsWithSole [Expr.Tuple elts kk tpos] e pos.line env = pure false) : W0 c (.Assign [.Tuple elts kk tpos] e pos) ⟨ρl, ρm⟩ PX :=
  fun hf s fz ml Q E R k kr => Assign_Tuple_swapped (names := xs) (h s fz ml _ E R fun v m fz1 ml1 h1 tk1 u hv x1 R1 i1 => by
    obtain ⟨ws, rfl, hl, hv⟩ := hv
    refine hold fun _ hK9 => ?_
    obtain ⟨a, o, us, n, rfl, z, e1, e2, i⟩ := v_tup i1
    refine hK9 ?_
    refine hold fun _ hK9 => ?_
    obtain ⟨mm, f, F, LA, lo⟩ := R1.fr
    refine hK9 ?_
    refine unpackItemsN_ F R1.news ⟨o, R1.zf z, e1, n, e2⟩ (by first | rfl | rw [List.size_toArray, l_len i, hl]) (by first | rfl | rw [List.size_toArray, l_len i, hl]) fun h' F' N' => ?_
    refine store_bn hf (fun x hm => of_decide_eq_true (List.all_eq_true.mp hx x (List.mem_reverse.mp hm))) (by simp [hl]) (R1.move F' LA lo N') (l_rev i) fun h2 tk2 R2 => k _ _ fz1 ml1 h2 tk2 _ hv x1.n R2 (rfl : Flow.next = _)) (h1 _ R.ok.es) (h2 _ R.ok.es)
end
section
variable {c : Cx} {σ : St} {P : V → List M → Prop} {x : Str}
theorem W2.notin_st {xs : List Str} (h : P (.bool (!(xs.any fun y => y == x))) σ.mem) : W2 c (compareOp .NotIn) (.str x) (.tup (strsV xs)) σ P :=
  fun s fz ml u u' Q E R hi hj k => by
    refine oE (v_str hi) fun t e91 => ?_
    subst e91
    obtain ⟨a, o, ws, n, rfl, z, h1, h2, l⟩ := v_tup hj
    exact notin_tuple_strs ⟨o, R.zf z, h1, n, h2⟩ (l_strs l) (k _ _ fz ml s.heap s.toks _ h .rfl R mk_bool)
end
theorem WX.mid {c : Cx} {σ σ1 : St} {st : Stmt} {ss : List Stmt} {PX : Fl → St → Prop} (h : W0 c st σ fun f σ' => f = .nxt ∧ σ' = σ1) (k : WX c ss σ1 PX) : WX c (st :: ss) σ PX :=
  WX.cons fun hf s fz ml Q E R kq kr => h hf s fz ml Q E R (fun f σ' fz' ml' h' tk' u hp x1 R1 hu => by
    obtain ⟨rfl, rfl⟩ := hp
    exact kq .nxt _ fz' ml' h' tk' u k x1 R1 hu) fun σ' fz' ml' h' tk' u hp _ _ => by obtain ⟨e, _⟩ := hp; cases e
section
variable {c : Cx} {σ : St} {P : V → List M → Prop} {i j t r : Nat} {tb : List (Int × V)} {tr : List (Str × V)} {v u a : V} {x : Str}
theorem styles_in {s : Str} (h : s ∈ styleList) : (!(([("D" : Str), "R", "r", "A", "a", ""]).any fun y => y == s)) = false := by
  simp only [styleList, List.mem_cons, List.not_mem_nil, or_false] at h
  rcases h with rfl | rfl | rfl | rfl | rfl | rfl <;> decide +kernel
theorem styles_v (c : Cx) : ∀ fz ml, (∀ a o, (wrt.heap_1 c.X.w.params).lookup a = some o → Zf c.X.Zb fz a o) → c.v fz ml (.tup (strsV ["D", "R", "r", "A", "a", ""])) (.ref 449) := fun fz ml hz => by
  unfold Cx.v isV
  refine ⟨449, _, [_, _, _, _, _, _], _, rfl, hz 449 _ (by k_is), rfl, rfl, ?_⟩
  exact mk_cons mk_str (mk_cons mk_str (mk_cons mk_str (mk_cons mk_str (mk_cons mk_str (mk_cons mk_str mk_nil)))))
structure HeadIs (w : World) (mem : List M) (tb : List (Int × V)) (ks : List (Str × V)) (s p : Str) (b : Int) : Prop where
  s : (ks.lookup ("S" : Str) = none ∧ s = "") ∨ ks.lookup ("S" : Str) = some (nameV s)
  p : (ks.lookup ("P" : Str) = none ∧ p = "") ∨ ks.lookup ("P" : Str) = some (strV (preB p))
  b : (ks.lookup ("St" : Str) = none ∧ b = 1) ∨ ∃ v, ks.lookup ("St" : Str) = some v ∧ FetchTo w mem tb v (.int b)
theorem w_rrange {ks : List (Str × V)} {s p : Str} {b f : Int} (hl : 5 ≤ c.X.lv) (S : ShAt σ.mem i j t r tb tr) (H : HeadIs c.X.w σ.mem tb ks s p b) (hs : s ∈ styleList) (hp : p ∈ prefList) (h : P (.tup [.int f, .str s, .str p, .int b]) σ.mem) : WL c (callV (.ref 597)) [.ptr i, .int f, .dct ks] σ P := by
  have h1 : ∃ sv, FetchTo c.X.w σ.mem tb ((ks.lookup ("S" : Str)).getD .none) sv ∧ ((sv = .none ∧ s = "") ∨ sv = nameV s) := by
    rcases H.s with ⟨e, e2⟩ | e
    · rw [e]; exact ⟨.none, .plain (.kind .none (by kit_is)), .inl ⟨rfl, e2⟩⟩
    · rw [e]; exact ⟨_, .plain (IsIn.ins .tree (kit_name _) (by kit_is)), .inr rfl⟩
  have h2 : ∃ pv, FetchTo c.X.w σ.mem tb ((ks.lookup ("P" : Str)).getD .none) pv ∧ ((pv = .none ∧ p = "") ∨ pv = strV (preB p)) := by
    rcases H.p with ⟨e, e2⟩ | e
    · rw [e]; exact ⟨.none, .plain (.kind .none (by kit_is)), .inl ⟨rfl, e2⟩⟩
    · rw [e]; exact ⟨_, .plain (IsIn.ins .tree (kit_string _) (by kit_is)), .inr rfl⟩
  have h3 : ∃ bv, FetchTo c.X.w σ.mem tb ((ks.lookup ("St" : Str)).getD .none) bv ∧ ((bv = .none ∧ b = 1) ∨ bv = .int b) := by
    rcases H.b with ⟨e, e2⟩ | ⟨v, e, hf⟩
    · rw [e]; exact ⟨.none, .plain (.kind .none (by kit_is)), .inl ⟨rfl, e2⟩⟩
    · rw [e]; exact ⟨_, hf, .inr rfl⟩
  obtain ⟨sv, F1, hs1⟩ := h1
  obtain ⟨pv, F2, hp1⟩ := h2
  obtain ⟨bv, F3, hb1⟩ := h3
  refine WL.def_ (lc [("shelf", .ptr i), ("first", .int f), ("value", .dct ks)]) (by lia) (by k_is) (by k_is) (hb3 fun _ _ _ _ => BindsTo.of_eq rfl) rfl (fun X' hw hlv hm hv hf => ?_) (by decide) rfl rfl rfl
  rw [← hw] at F1 F2 F3
  repeat walk_at "ws"
  refine WE.methK (f := .ref 306) (by k_is) ?_
  repeat walk_at "ws"
  refine ⟨Meth.ins (ShAt.ins S) rfl (by k_is) (by k_is) (by k_is), ?_⟩
  repeat walk_at "ws"
  refine w_fetch (u := .dct ks) (by show 1 ≤ X'.lv; lia) S (.plain (.kind (.dct .tree) (by kit_is))) ?_
  repeat walk_at "ws"
  refine WT.plain ?_
  refine WE.callB (by k_is) rfl (by decide) ?_
  repeat walk_at "ws"
  refine WE.blt (by k_is) rfl (by decide) ?_
  repeat walk_at "ws"
  refine IsIn.kind (w := X'.w) (r := true) (.dct .tree) (by kit_is) _ _ _ rfl ?_
  repeat walk_at "ws"
  refine W0.unpS ["style", "prefix", "start"] rfl ?_ (by rintro ⟨⟩ ⟨⟩; rfl) (by rintro ⟨⟩ ⟨⟩; rfl)
  refine WE.tup ?_
  refine WA.cons ?_
  refine WE.methK (f := .ref 313) (by k_is) ?_
  repeat walk_at "ws"
  refine ⟨Meth.ins (ShAt.ins S) rfl (by k_is) (by k_is) (by k_is), ?_⟩
  repeat walk_at "ws"
  refine w_get (by show 2 ≤ X'.lv; lia) S .tree F1 ?_
  refine WA.cons ?_
  refine WE.methK (f := .ref 313) (by k_is) ?_
  repeat walk_at "ws"
  refine ⟨Meth.ins (ShAt.ins S) rfl (by k_is) (by k_is) (by k_is), ?_⟩
  repeat walk_at "ws"
  refine w_get (by show 2 ≤ X'.lv; lia) S .tree F2 ?_
  refine WA.cons ?_
  refine WE.methK (f := .ref 313) (by k_is) ?_
  repeat walk_at "ws"
  refine ⟨Meth.ins (ShAt.ins S) rfl (by k_is) (by k_is) (by k_is), ?_⟩
  repeat walk_at "ws"
  refine w_get (by show 2 ≤ X'.lv; lia) S .tree F3 ?_
  repeat walk_at "ws"
  refine ⟨Nat.le_of_ble_eq_true rfl, ?_⟩
  refine ⟨_, rfl, rfl, ?_⟩
  try dsimp only
  show WX _ _ ⟨lc [("style", sv), ("prefix", pv), ("start", bv), ("head", .dct ks), ("value", .dct ks), ("first", .int f), ("shelf", .ptr i)], σ.mem⟩ _
  refine WX.mid (σ1 := ⟨lc [("word", .str s), ("style", sv), ("prefix", pv), ("start", bv), ("head", .dct ks), ("value", .dct ks), ("first", .int f), ("shelf", .ptr i)], σ.mem⟩) ?_ ?_
  · rcases hs1 with ⟨rfl, rfl⟩ | rfl
    · repeat walk_at "ws"
      refine WT.plain ?_
      refine WE.callB (by k_is) rfl (by decide) ?_
      repeat walk_at "ws"
      refine WE.glo (by k_is) ?_
      repeat walk_at "ws"
      refine IsIn.kind (w := X'.w) (r := false) .none (by kit_is) _ _ _ rfl ?_
      repeat walk_at "ws"
      exact ⟨rfl, rfl⟩
    · repeat walk_at "ws"
      refine WT.plain ?_
      refine WE.callB (by k_is) rfl (by decide) ?_
      repeat walk_at "ws"
      refine WE.glo (by k_is) ?_
      repeat walk_at "ws"
      refine IsIn.ins (w := X'.w) (r := true) .tree (kit_name _) (by kit_is) _ _ _ rfl ?_
      repeat walk_at "ws"
      refine W1.attr .tree rfl rfl (by k_is) (by k_is) (by k_is) (by k_is) ?_
      exact ⟨rfl, rfl⟩
  refine WX.mid (σ1 := ⟨lc [("word", .str s), ("style", sv), ("prefix", pv), ("start", bv), ("head", .dct ks), ("value", .dct ks), ("first", .int f), ("shelf", .ptr i)], σ.mem⟩) ?_ ?_
  · rcases hs1 with ⟨rfl, rfl⟩ | rfl
    · repeat walk_at "ws"
      exact ⟨rfl, rfl⟩
    · repeat walk_at "ws"
      refine WT.plain ?_
      refine WE.callB (by k_is) rfl (by decide) ?_
      repeat walk_at "ws"
      refine WE.glo (by k_is) ?_
      repeat walk_at "ws"
      refine IsIn.ins (w := X'.w) (r := true) .tree (kit_name _) (by kit_is) _ _ _ rfl ?_
      repeat walk_at "ws"
      refine WE.gloV (t := .tup (strsV ["D", "R", "r", "A", "a", ""])) (by k_is) (styles_v _) ?_
      refine W2.notin_st ?_
      rw [styles_in hs]
      repeat walk_at "ws"
      exact ⟨rfl, rfl⟩
  refine WX.mid (σ1 := ⟨lc [("word", .str s), ("style", sv), ("prefix", pv), ("start", bv), ("head", .dct ks), ("value", .dct ks), ("first", .int f), ("shelf", .ptr i)], σ.mem⟩) ?_ ?_
  · rcases hp1 with ⟨rfl, rfl⟩ | rfl
    · repeat walk_at "ws"
      exact ⟨rfl, rfl⟩
    · repeat walk_at "ws"
      refine WT.plain ?_
      refine WE.callB (by k_is) rfl (by decide) ?_
      repeat walk_at "ws"
      refine WE.glo (by k_is) ?_
      repeat walk_at "ws"
      refine IsIn.ins (w := X'.w) (r := true) .tree (kit_string _) (by kit_is) _ _ _ rfl ?_
      repeat walk_at "ws"
      exact ⟨rfl, rfl⟩
  refine WX.mid (σ1 := ⟨lc [("number", .int b), ("word", .str s), ("style", sv), ("prefix", pv), ("start", bv), ("head", .dct ks), ("value", .dct ks), ("first", .int f), ("shelf", .ptr i)], σ.mem⟩) ?_ ?_
  · rcases hb1 with ⟨rfl, rfl⟩ | rfl
    · repeat walk_at "ws"
      exact ⟨rfl, rfl⟩
    · repeat walk_at "ws"
      exact ⟨rfl, rfl⟩
  repeat walk_at "ws"
  refine WT.plain ?_
  refine WE.callB (by k_is) rfl (by decide) ?_
  repeat walk_at "ws"
  refine WE.blt (by k_is) rfl (by decide) ?_
  repeat walk_at "ws"
  refine IsIn.kind (w := X'.w) (r := true) .int (by kit_is) _ _ _ rfl ?_
  repeat walk_at "ws"
  refine WT.plain ?_
  refine WE.callB (by k_is) rfl (by decide) ?_
  repeat walk_at "ws"
  refine WE.blt (by k_is) rfl (by decide) ?_
  repeat walk_at "ws"
  refine IsIn.kind (w := X'.w) (r := false) .int (by kit_is) _ _ _ rfl ?_
  repeat walk_at "ws"
  refine WE.tup ?_
  repeat walk_at "ws"
  rcases hp1 with ⟨rfl, rfl⟩ | rfl
  · repeat walk_at "ws"
    exact ⟨Nat.le_of_ble_eq_true rfl, .inl h⟩
  · repeat walk_at "ws"
    refine WE.callG (by k_is) (by k_is) ?_
    repeat walk_at "ws"
    refine W1.attr .tree rfl rfl (by k_is) (by k_is) (by k_is) (by k_is) ?_
    repeat walk_at "ws"
    refine w_ptext (by show 1 ≤ X'.lv; lia) hp ?_
    repeat walk_at "ws"
    exact ⟨Nat.le_of_ble_eq_true rfl, .inl h⟩
end
section
variable {c : Cx} {σ : St} {P : V → List M → Prop} {rs : List Rg}
end
noncomputable def WER (c : Cx) (e : Expr) (σ : St) (P : V → List M → Prop) (PR : List M → Prop) : Prop :=
  ∀ s fz ml Q E, Rel c σ fz ml s.heap → Post c σ.loc fz ml P Q s → PostRE c σ.loc fz ml PR E s → wpAny c.M c.A (eval e c.env) Q E s
noncomputable def WC (c : Cx) (fv : V) (vs : List V) (σ : St) (P : V → List M → Prop) (PR : List M → Prop) : Prop :=
  ∀ s fz ml uf us Q E, Rel c σ fz ml s.heap → c.v fz ml fv uf → c.l fz ml vs us → Post c σ.loc fz ml P Q s → PostRE c σ.loc fz ml PR E s → wpAny c.M c.A (call uf us) Q E s
section
variable {prog : Program} {w : World} {A A₀ : Around} {s : Shared} {K : Frag} {L : Addr} {h₀ base : Heap} {m mg mb : Str → Option Value} {news : List (Addr × Obj)} {p : Program} {loose : List Str} {mean : ExcName → Option Value}
theorem lam_code {env : Env} {outer : List Env} {R : Result → Shared → Prop} {name qual : Str} {params : Arguments} {body : Expr} {scope : Scope} {cl : List (Str × Addr)} {pm ctv : Value} {c' : Addr} {f : Addr} {args : Args} {binds : List (Str × Value)}
    (B : Below A₀ base outer h₀) (F : Fr h₀ L s.heap m) (X₀ : K.In h₀) (N : News h₀ L s.heap news) (T : Top p loose mean mg mb h₀) (hA : A.frames = some (env :: outer)) (hf : env.frame = some L) (hke : env.scope.kind = .function)
    (ho : s.heap.get? f = some (kla_obj name qual params body scope cl pm c' ctv)) (hcd : s.heap.CodeRec (.ref c') qual) (hroom : A.depth < recursionLimit)
    (hbind : bindArgs (kla_fn name qual params body scope cl pm (.ref c') ctv) args = pure binds) (hloc : ∀ y ∈ binds, scope.names.lookup y.1 = some .local)
    (h : ∀ g L' h₁, Fr h₀ L g m → Fr g L' h₁ (fun y => binds.reverse.lookup y) → News g L' h₁ news → Below A base (env :: outer) g → K.In g → Top p loose mean mg mb g →
      wpAny (model prog w) (A.deeper (envX qual scope L' f (.ref c') cl)) (eval body (envX qual scope L' f (.ref c') cl)) (fun v s' => LeaveK h₀ L m g R v s')
        (fun e s' => wpAny (model prog w) (A.deeper (envX qual scope L' f (.ref c') cl)) (leaving (envX qual scope L' f (.ref c') cl) e) (fun _ s'' => R (.error e) s'') (fun e' s'' => R (.error e') s'') s')
        { s with heap := h₁, toks := s.toks + binds.length })
    (hco : scope.isCoroutine = false) (hgen : scope.isGenerator = false) (hk : scope.kind = .function) (hcell : ∀ x ∈ scope.names, x.2 ≠ .cell) : codeAny (model prog w) A (.call (.ref f) args) R s := by
  refine oAAA (groundX (R := R) B F N hA hf hke) fun FG BG st lv => ?_
  refine kla_callFunE hroom ho rfl hco hgen rfl hcd ?_
  rw [hbind]
  refine wpAny_pure (wpAny_newFunctionEnv hcell hloc (fun h₁ hns hsb => ⟨((T.nolimit).keeps F.keep).fresh _ hsb, ?_⟩) hk)
  have up : ∀ b o, s.heap.get? b = some o → h₁.get? b = some o := fun b o e => hsb.extBut b o (Nat.ne_of_lt (Heap.lt_size e)) (Heap.get?_push_of_some _ e)
  refine kla_codeExpr (wpAny_mono (h _ s.heap.objs.size h₁ FG ⟨hns, fun b o e => up b o (of_hideAll _ e), Nat.le_of_eq (hideAll_size _ _)⟩ ?_ BG (X₀.keeps st) (T.keeps st)) (fun v s' hl => lv _ _ hl) fun _ _ y => y)
  exact fun q hq => ⟨up _ _ (N q hq).1, Nat.ne_of_lt (Heap.lt_size (N q hq).1), hideAll_none _ (List.mem_map_of_mem hq)⟩
end
section
variable {c : Cx} {σ : St} {ρl : List (Str × V)} {ρm : List M} {P : V → List M → Prop} {PR : List M → Prop} {PX : Fl → St → Prop} {e : Expr} {pos : Pos} {x : Str} {rest : List Expr} {qual : Str} {params : Arguments} {body : Expr} {scope : Scope} {cv : List (Str × Nat)} {vs : List V}
theorem WER.callG {v : Value} {xp : Pos} (e1 : nsIn (wrt.heap_1 c.X.w.params) mainGlobals x = some (some v)) (hkp : keepIn (wrt.heap_1 c.X.w.params) v = true) (h : WA c (e :: rest) ⟨ρl, ρm⟩ fun vs m => WR c (callV v) vs ⟨ρl, m⟩ P PR)
    (hx : c.sc.names.lookup x = some .globalImplicit := by rfl) (hd : (x == ("__debug__" : Str)) = false := by rfl)
    (he : starEach (e :: rest) c.env = (false, eval e c.env) :: starEach rest c.env := by rfl) (hp : (List.any (backTo pos (starEach rest c.env)) fun x => x.fst) = false := by rfl)
    (hc : eval (.Call (.Name x xp) (e :: rest) [] pos) c.env = (do callWith pos (← eval (.Name x xp) c.env) [] (backTo pos (starEach (e :: rest) c.env)) (backToKw pos (keywordEach [] c.env))) := by rfl) : WER c (.Call (.Name x xp) (e :: rest) [] pos) ⟨ρl, ρm⟩ P PR :=
  fun s fz ml Q E R k kr => Call_ (WE.glo (P := fun f m => f = .glob v ∧ m = ρm) e1 ⟨rfl, rfl⟩ hx hd s fz ml _ E R fun f m fz1 ml1 h1 tk1 u hf1 x1 R1 i1 => by
    obtain ⟨rfl, rfl⟩ := hf1
    obtain rfl := v_glob i1
    refine callWith_K R1.ok.kin hkp (h pos _ fz1 ml1 _ E R1 fun vs m' fz2 ml2 h2 tk2 us hvs x2 R2 i2 => ⟨R2.K, ?_⟩) he hp
    exact hvs _ fz2 ml2 us _ E R2 i2 (k.after (x1.trans x2)) (kr.after (x1.trans x2))) hc
theorem lam_core {dp' un' lv' : Nat} {gd' : Option (List Code)} (bv : List (Str × V)) (hd' : dp' + 1 + lv' < 900) (hu' : un' + 3 + 20 * lv' < 9000)
    (hb : ∀ pm c' ctv clos us fz ml, c.l fz ml vs us → ∃ bs, bindArgs (kla_fn "<lambda>" qual params body scope clos pm (.ref c') ctv) ⟨us, []⟩ = pure bs ∧ isF c.X.w c.X.Zb fz (adr ml) bv bs)
    (hloc : (bv.all fun y => decide (scope.names.lookup y.1 = some .local)) = true)
    (h : ∀ X' : Cb, X'.w = c.X.w → X'.lv = lv' → (∀ m ∈ ρm, oldM ρm.length m) → WER ⟨X', scope, cv, ρm.length⟩ body ⟨bv.reverse, ρm⟩ P PR)
    (hcell : ∀ x ∈ scope.names, x.2 ≠ .cell) (hk : scope.kind = .function) (hco : scope.isCoroutine = false) (hgen : scope.isGenerator = false) {s : Shared} {fz ml : Led} {uf : Value} {us : List Value} {Q E : Value → Shared → Prop} {RR : Result → Shared → Prop} (R : Rel c ⟨ρl, ρm⟩ fz ml s.heap)
    (hv : c.v fz ml (.lam qual params body scope cv) uf) (hu : c.l fz ml vs us) (k : Post c ρl fz ml P Q s) (kr : PostRE c ρl fz ml PR E s) (hQ : ∀ v s', Q v s' → RR (.ok (.ret v)) s') (hE : ∀ e s', E e s' → RR (.error e) s') :
    ∃ f, uf = .ref f ∧ codeAny c.M (ktrTop dp' un' gd' c.X.cn c.X.cs c.X.L c.X.a c.X.ccd c.X.cl c.X.outer) (.call (.ref f) ⟨us, []⟩) RR s := by
  obtain ⟨m, lf, F, LA, lo⟩ := R.fr
  refine hold fun _ hK9 => ?_
  obtain ⟨f, c', pm, ctv, clos, oc, ws, t, rfl, z1, z2, d1, d2, hclos⟩ := v_lam hv
  refine hK9 ?_
  refine oEA (hb pm c' ctv clos us fz ml hu) fun bs hbind hbs => ?_
  have hml : ml.length = ρm.length := R.mem.len
  refine ⟨f, rfl, ?_⟩
  have ho := R.zf z1
  have hrec : s.heap.CodeRec (.ref c') qual := ⟨c', oc, ws, t, rfl, R.zf z2, d1, d2⟩
  refine lam_code (env := envX c.X.cn c.X.cs c.X.L c.X.a c.X.ccd c.X.cl) (news := ml ++ fz ++ c.X.xs) R.ok.below F R.ok.kin R.news R.ok.top rfl rfl R.ok.kind ho hrec (room_of (l := lv') (show dp' + lv' < 900 by lia)) hbind
    (fun y hy => by
      have hy' : y.1 ∈ bv.map (·.1) := by rw [← isF_keys hbs]; exact List.mem_map_of_mem hy
      refine oEA (List.mem_map.mp hy') fun z hz e => ?_
      rw [← e]
      exact of_decide_eq_true (List.all_eq_true.mp hloc z hz)) ?_ hco hgen hk hcell
  intro g L' h₁ FG F' N' B' X' T'
  let X1 : Cb := Cb.mk c.X.w lv' c.X.p c.X.loose c.X.mean c.X.mg c.X.mb (dp' + 1) (un' + 3) gd' qual scope f (.ref c') clos (envX c.X.cn c.X.cs c.X.L c.X.a c.X.ccd c.X.cl :: c.X.outer) (ktrTop dp' un' gd' c.X.cn c.X.cs c.X.L c.X.a c.X.ccd c.X.cl c.X.outer) c.X.base g L' c.X.Zb c.X.xs (envX qual scope L' f (.ref c') clos) none
  have ok1 : Cx.Ok ⟨X1, scope, cv, ρm.length⟩ := by
    refine ⟨B', X', T', hk, hd', hu', fun a o z => FG.keep _ _ (R.ok.zb a o z), R.ok.kz, rfl, hk, rfl, rfl, ?_, ?_⟩
    · intro x pos u m f s Q E hx hd FF NN LAA hfx hq
      obtain rfl : f = m := LAA
      exact nameX_L FF hfx hq hk hx hd
    · intro x pos cc ob u s Q E hx hd hd2 hl hg hdat hq
      rcases hx with hx | hx
      · exact wpAny_Name (wpAny_loadName_cell hk hx hl ⟨ob, hg, hdat⟩ hq) hd
      · exact wpAny_Name (wpAny_loadName_free hk hx hl ⟨ob, hg, hdat⟩ hq hd2) hd
  have R1 : Rel ⟨X1, scope, cv, ρm.length⟩ ⟨bv.reverse, ρm⟩ fz ml h₁ := by
    refine ⟨ok1, ⟨_, _, F', rfl, fun x v hx => isF_look (isF_rev hbs) hx⟩, N', R.nd, ?_, hclos, (by show ρm.length ≤ ml.length; lia), R.hi⟩
    exact memIs.cx (c := ⟨X1, scope, cv, ρm.length⟩) (c' := c) rfl rfl R.mem
  refine h X1 rfl rfl R.oldmem _ fz ml _ _ R1 ?_ ?_
  · intro v mem' fz' ml' h' tk' u hp x1 R2 hv
    refine hold fun _ hK9 => ?_
    obtain ⟨m2, f2, F2, LA2, lo2⟩ := R2.fr
    refine hK9 ?_
    refine leaveK_ F2 R2.news fun FF NN => ?_
    exact hQ _ _ <| k _ _ fz' ml' h' tk' _ hp x1 (R.back (c' := ⟨X1, scope, cv, ρm.length⟩) rfl rfl rfl LA lo FF NN R2 x1) hv
  · intro mem' fz' ml' h' tk' u hp x1 RE
    refine hold fun _ hK9 => ?_
    obtain ⟨e, G, m2, f2, rfl, F2, LA2, lo2, RS, hsl⟩ := RE.fl
    refine hK9 ?_
    refine hold fun _ hK9 => ?_
    refine oEEAAA RS fun B a0 hB hBG hl hair => ?_
    refine hK9 ?_
    refine hair.leave (Around.frames_deeper B'.stack) rfl fun h2 x1' x2 => ?_
    have r1 : RaisedX c.X.base g (envX c.X.cn c.X.cs c.X.L c.X.a c.X.ccd c.X.cl :: c.X.outer) c.X.L e (.ref 59) (ml' ++ fz' ++ c.X.xs) h2 := ⟨B, a0, hB, fun b o q nm => hBG b o (F2.keep b o q) (fun hm => by
      rcases kts_memX hm with z | z
      · rw [z, kts_self F2] at q
        cases q
      · exact nm z), fun q hq => ⟨(hl q hq).1, kts_none F2.keep (hl q hq).2.1, (hl q hq).2.2⟩, .inr (.inr x1')⟩
    have r3 : g.UpToSlots h2 := (Heap.UpToSlots.of_keeps F2.keep).trans (hsl.trans x2)
    exact hE _ _ <| kr _ fz' ml' h2 tk' _ hp x1 (RelE.back (c' := ⟨X1, scope, cv, ρm.length⟩) R rfl rfl rfl LA lo FG RE r1 r3 x1)
end
theorem codeAmong_other {pos pos' : Pos} {v : Value} (hp : ¬ ((pos'.line, pos'.col) = (pos.line, pos.col))) (l : List Value) (h : TriplesOk l) (hn : codeAmong pos' l = none) : codeAmong pos' (l ++ [rawInt pos.line, rawInt pos.col, v]) = none := by
  fun_induction TriplesOk l with
  | case1 =>
    simp only [List.nil_append, codeAmong, rawInt]
    rw [if_neg]
    simp only [Bool.and_eq_true, beq_iff_eq]
    intro ⟨q1, q2⟩
    exact hp (by rw [Prod.mk.injEq]; lia)
  | case2 a t b u x rest ih =>
    simp only [List.cons_append, codeAmong] at hn ⊢
    split at hn
    · cases hn
    · rename_i hc; rw [if_neg hc]; exact ih h hn
  | case3 l h1 h2 => exact h.elim
section
variable {c : Cx} {σ : St} {ρl : List (Str × V)} {ρm : List M} {P : V → List M → Prop} {PR : List M → Prop} {PX : Fl → St → Prop} {e : Expr} {pos : Pos} {x : Str} {rest : List Expr} {qual : Str} {params : Arguments} {body : Expr} {scope : Scope} {cv : List (Str × Nat)} {vs : List V}
theorem WC.lam (bv : List (Str × V)) (hlv : 1 ≤ c.X.lv)
    (hb : ∀ pm c' ctv clos us fz ml, c.l fz ml vs us → ∃ bs, bindArgs (kla_fn "<lambda>" qual params body scope clos pm (.ref c') ctv) ⟨us, []⟩ = pure bs ∧ isF c.X.w c.X.Zb fz (adr ml) bv bs)
    (hloc : (bv.all fun y => decide (scope.names.lookup y.1 = some .local)) = true)
    (h : ∀ X' : Cb, X'.w = c.X.w → X'.lv = c.X.lv - 1 → (∀ m ∈ ρm, oldM ρm.length m) → WER ⟨X', scope, cv, ρm.length⟩ body ⟨bv.reverse, ρm⟩ P PR)
    (hcell : ∀ x ∈ scope.names, x.2 ≠ .cell) (hk : scope.kind = .function) (hco : scope.isCoroutine = false) (hgen : scope.isGenerator = false) : WC c (.lam qual params body scope cv) vs ⟨ρl, ρm⟩ P PR :=
  fun s fz ml uf us Q E R hv hu k kr => by
    obtain ⟨f, rfl, hc⟩ := lam_core (lv' := c.X.lv - 1) (dp' := c.X.dp) (un' := c.X.un) (gd' := c.X.gd) (RR := fun r s' => match r with | .ok (.ret v) => Q v s' | .ok _ => False | .error e => E e s') bv (by have := R.ok.dep; lia) (by have := R.ok.unt; lia) hb hloc h hcell hk hco hgen R hv hu k kr (fun _ _ q => q) fun _ _ q => q
    exact wpAny_call hc
theorem WE.lam {j : Nat} {cc Pt : Addr} {l : List (Nat × Nat)} (hf : c.IsFn) (hm : ρm[j]? = some (.tab j Pt l)) (hcc : c.X.ccd = .ref cc) (hC : c.Ok → CodeHd c.X.h₀ cc Pt) (hl : (pos.line, pos.col) ∉ l)
    (hfree : ∀ y ∈ scope.names, y.2 = .free → (c.cel.lookup y.1).isSome = true) (h : ∀ q, P (.lam q params body scope (celC scope c.cel)) (ρm.set j (.tab j Pt ((pos.line, pos.col) :: l)))) (hdef : defaultsOf params c.env = ([], []) := by rfl) : WE c (.Lambda params body scope pos) ⟨ρl, ρm⟩ P :=
  fun s fz ml Q E R k => by
    refine oEA (R.closure hfree) fun cl hclos hcl => ?_
    refine oEA (R.mem.get hm) fun p hp hi => ?_
    refine hold fun _ hK9 => ?_
    refine oAEAA hi fun had ps hps ht hno => ?_
    refine hK9 ?_
    obtain ⟨pa, po⟩ := p
    obtain rfl : pa = Pt := by rw [List.getElem?_map, hp] at had; exact Option.some.inj had
    dsimp only at hps
    subst hps
    refine hold fun _ hK9 => ?_
    obtain ⟨m, f, F, LA, lo⟩ := R.fr
    refine hK9 ?_
    refine oA (news_at R) fun N nd => ?_
    refine kla_eval hdef ?_
    have hclos' : closureFor scope (envX c.X.cn c.X.cs c.X.L c.X.a c.X.ccd c.X.cl) = pure cl := by rw [← hf.env]; exact hclos
    rw [Cx.env, hf.env]
    refine kla_nest F N R.ok.top (hC R.ok) hcc (updF_set hp nd) ht (hno pos hl) hclos' ?_
    intro fa c' oc vs t ctv h' tk' F' N' d1 d2 lt1 lt2
    have e0 : (ps ++ #[rawInt pos.line, rawInt pos.col, Value.ref c']).toList = ps.toList ++ [rawInt pos.line, rawInt pos.col, .ref c'] := by simp
    obtain ⟨R2, x2⟩ := R.put (m' := .tab j pa ((pos.line, pos.col) :: l)) (o' := tabObj (ps ++ #[rawInt pos.line, rawInt pos.col, .ref c'])) hp F' LA lo (by rw [List.append_assoc]; exact fun q hq => N' q (.tail _ (.tail _ hq)))
      ⟨had, _, rfl, by rw [e0]; exact TriplesOk_snoc _ _ _ _ ht, fun pos' hn => by
        rw [e0]
        exact codeAmong_other (fun q => hn (by rw [q]; exact .head _)) _ ht (hno pos' fun q => hn (.tail _ q))⟩
    have nf := N' _ (.head _)
    have nc := N' _ (.tail _ (.head _))
    have hmem : (pa, tabObj ps) ∈ ml ++ fz ++ c.X.xs := List.mem_append_left _ (List.mem_append_left _ (List.mem_of_getElem? hp))
    have low : ∀ q ∈ ml.set j (pa, tabObj (ps ++ #[rawInt pos.line, rawInt pos.col, .ref c'])) ++ fz ++ c.X.xs, q.1 < c' := fun q hq => by
      have hq' : q.1 ∈ (ml.set j (pa, tabObj (ps ++ #[rawInt pos.line, rawInt pos.col, .ref c'])) ++ fz ++ c.X.xs).map (·.1) := List.mem_map_of_mem hq
      have e3 : (ml.set j (pa, tabObj (ps ++ #[rawInt pos.line, rawInt pos.col, .ref c'])) ++ fz ++ c.X.xs).map (·.1) = (ml ++ fz ++ c.X.xs).map (·.1) := by
        rw [List.map_append, List.map_append, List.map_append, List.map_append]
        congr 2
        exact adr_set hp
      rw [e3] at hq'
      refine oEA (List.mem_map.mp hq') fun z hz e => ?_
      rw [← e]
      exact lt1 z (by rw [← List.append_assoc]; exact hz)
    have hsc : sysModules < c' := Nat.lt_trans (R.hi _ hmem) (lt1 _ (by rw [← List.append_assoc]; exact hmem))
    have R3 := R2.addfz nc.1 nc.2.1 nc.2.2 (fun q hq => Nat.ne_of_lt (low q hq)) hsc
    have R4 := R3.addfz nf.1 nf.2.1 nf.2.2 (fun q hq => by
      rw [List.append_assoc, List.cons_append] at hq
      rcases List.mem_append.mp hq with hq | hq
      · exact Nat.ne_of_lt (Nat.lt_trans (low q (List.mem_append_left _ (List.mem_append_left _ hq))) lt2)
      · rcases List.mem_cons.mp hq with rfl | hq
        · exact Nat.ne_of_lt lt2
        · exact Nat.ne_of_lt (Nat.lt_trans (low q (by rw [List.append_assoc]; exact List.mem_append_right _ hq)) lt2)) (Nat.lt_trans hsc lt2)
    refine k (.lam ((envX c.X.cn c.X.cs c.X.L c.X.a c.X.ccd c.X.cl).qual ++ "<lambda>") params body scope (celC scope c.cel)) _ _ _ h' tk' _ (h _) (x2.trans ⟨fun q hq => .tail _ (.tail _ hq), List.prefix_refl _⟩) R4 ?_
    refine ⟨fa, c', _, ctv, cl, oc, vs, t, rfl, .inr (.head _), .inr (.tail _ (.head _)), d1, d2, fun x i hx => ?_⟩
    refine oA (celC_get hx) fun q90 hci => ?_
    refine oEAA q90 fun y hy hyk e93 => ?_
    subst e93
    refine oEA (R.cels _ _ hci) fun a h1 h2 => ?_
    exact ⟨a, by rw [hcl y hy hyk]; exact h1, by rw [show adr (ml.set j _) = adr ml from adr_set hp]; exact h2⟩
end
section
variable {prog : Program} {w : World} {A : Around} {E : Value → Shared → Prop} {s : Shared} {K : Frag} {x C L : Addr} {h₀ : Heap} {m : Str → Option Value} {news : List (Addr × Obj)} {ox : Obj} {name : Str} {v : Value} {Q : Unit → Shared → Prop}
noncomputable def dictOn (d : Addr) (o : Obj) : Obj := { cls := o.cls, dict := some d, data := o.data, slots := o.slots }
structure TakesA (K : Frag) (C : Addr) : Prop where
  get : ∃ cd, clsIn K C = some cd ∧ cd.mro.isEmpty = false ∧ cd.mro.contains (.type "object") = true ∧ (∀ self, refuseLoop self "__setattr__" cd.mro = pure ()) ∧ cd.hasDict = true
  set : findIn K (.ref C) "__setattr__" = some (some (.builtin "object.__setattr__"))
theorem xo_open {R : Result → Shared → Prop} {od : Option Obj} {tk : Tok} (X : K.In s.heap) (I : InstAt s.heap x ox C od) (T : TakesA K C) (ht : takerIn K C name = some none)
    (h : ∀ b, wpAny (model prog w) A.in1 (Builtin.ObjectAttr.storeInOwnDict (.ref x) (.ref C) (.str name tk) name v b)
      (fun (fin : PySem.Fin) s' => match fin with | .done f => R (.ok f) s' | .again c' => c'.quiet = true ∧ codeAny (model prog w) A c' R s') (fun e s' => R (.error e) s') s) :
    codeAny (model prog w) A (.call (.builtin "object.__setattr__") ⟨[.ref x, .str name tk, v], []⟩) R s := by
  have SF := PySem.F.store_object
  refine hold fun _ hK9 => ?_
  refine oEAAAA T.get fun cd hc ne hob hpass _ => ?_
  refine hK9 ?_
  have sub : Looks (model prog w) s.heap (isInstance (.ref x) (.type "object")) true := I.type.andThen (looks_mroIn X (by unfold mroIn; rw [hc, Option.bind_some, if_neg (by rw [ne]; decide), hob]))
  refine codeAny_call_builtin SF.slot.plain SF.entry (@check_slot (model prog w) _ _ s "object.__setattr__" "object" "__setattr__" (.ref x) [.str name tk, v] [] _ SF.kind SF.split sub (SF.args (.ref x) (.str name tk) v) ?_)
  refine oEA (Option.bind_eq_some_iff.mp ht) fun attr ha hr => ?_
  have hm : Looks (model prog w) s.heap (mroOf (.ref C)) cd.mro := (looks_clsIn X hc).andThen .now
  have L3 : Looks (model prog w) s.heap (Builtin.ObjectAttr.storeTaker? attr) none := by
    cases attr with
    | none => exact .now
    | some a =>
      refine oEA (Option.map_eq_some_iff.mp hr) fun b hb e => ?_
      refine (looks_takesIn X hb).andThen ?_
      cases b <;> first | exact .now | cases e
  rw [osa_eq, refuse_eq]
  refine wpAny_bind (wpAny_bind (I.type.here (wpAny_bind (hm.here ?_))))
  rw [hpass]
  refine wpAny_pure (wpAny_bind (I.type.here (wpAny_bind ((looks_findIn X ha).here (wpAny_bind (L3.here ?_))))))
  exact h _
theorem set_dict1 {es es' : List DictEntry} {n n' : Nat} {dx : Addr} {news' : List (Addr × Obj)} (F : Fr h₀ L s.heap m) (X₀ : K.In h₀) (N : News h₀ L s.heap news) (I : InstAt s.heap x ox C (some (dictOf es n))) (hd : ox.dict = some dx) (T : TakesA K C) (ht : takerIn K C name = some none)
    (hl : (getL name es).isSome = true) (e : (putL name (PyData.keyHash w.params name) (.str name (s.toks + 1)) v es, putN name es n) = (es', n')) (U : Upd dx (dictOf es n) (dictOf es' n') news news') (hz : es'.length ≤ 1000)
    (h : ∀ h', Fr h₀ L h' m → News h₀ L h' news' → Q () { s with heap := h', toks := s.toks + 2 }) : wpAny (model prog w) A (setAttr (.ref x) name v) Q E s := by
  have X := X₀.keeps F.keep
  refine oA (Prod.mk.inj e) fun e1 e2 => ?_
  refine set_plain X I T.set (xo_open (s := { s with toks := s.toks + 1 }) X I T ht fun b => ?_)
  refine hold fun _ hK9 => ?_
  refine oEEAAA U.split fun pre post e92 e93 h1 h2 => ?_
  subst e92
  subst e93
  refine hK9 ?_
  refine hold fun _ hK9 => ?_
  refine oEAAAA T.get fun cd hc _ _ _ hd' => ?_
  refine hK9 ?_
  have ee : Obj.putName name (PyData.keyHash w.params name) (.str name (s.toks + 1)) v (dictOf es n) = dictOf es' n' := by rw [putName_dict, e1, e2]
  refine oA (news_upd (f := Obj.putName name (PyData.keyHash w.params name) (.str name (s.toks + 1)) v) F N h1 h2 ee rfl) fun U1 U2 => ?_
  have D := (N (dx, dictOf es n) (by simp)).1
  have D' := (U2 (dx, dictOf es' n') (by simp)).1
  obtain ⟨hx, hcl, hn, -⟩ := I
  obtain ⟨oc, odi, oda, osl⟩ := ox
  dsimp only at hcl hd
  subst hcl hd
  refine wpAny_bind (wpAny_pure (wpAny_bind (wpAny_bind (wpAny_loadPart hx (wpAny_bind (Looks.here (s := { s with toks := s.toks + 1 }) (looks_clsIn X hc) ?_))))))
  rw [hd']
  refine wpAny_pure (a := some dx) (wpAny_bind (wpAny_pure (wpAny_bind ?_)))
  unfold nsSet
  refine wpAny_bind (wpAny_bind (wpAny_askSetting (wpAny_pure (wpAny_bind (wpAny_mkText (wpAny_bind (wpAny_loadPart D ?_)))))))
  dsimp only
  have hc2 : (!es.toArray.any (·.key.isStr name) && es.toArray.any (·.refKey)) = false := by
    unfold getL at hl
    rw [← Array.any_toList, ← Array.any_toList]
    split at hl
    · rename_i en he
      rw [List.any_eq_true.mpr ⟨en, List.mem_of_find?_eq_some he, List.find?_some he⟩]; rfl
    · split at hl
      · cases hl
      · rename_i z; rw [Bool.not_eq_true] at z; rw [z, Bool.and_false]
  rw [aRefKeyMayBeTheName_at, hc2]
  refine wpAny_updatePart D ?_
  refine wpAny_bind (wpAny_lookBehind D' (pastItsLine_dict (by rw [List.size_toArray, sizeLine_eq]; lia)) ?_)
  exact wpAny_pure (h _ U1 U2)
theorem set_dict0 (X : K.In s.heap) (hx : s.heap.get? x = some ox) (hcl : ox.cls = .ref C) (hn : notCls ox = true) (hd0 : ox.dict = none) (T : TakesA K C) (ht : takerIn K C name = some none)
    (h : Q () { s with heap := ((s.heap.push (dictOf [] 0)).update x (dictOn s.heap.objs.size)).update s.heap.objs.size (Obj.putName name (PyData.keyHash w.params name) (.str name (s.toks + 1)) v), toks := s.toks + 2 }) :
    wpAny (model prog w) A (setAttr (.ref x) name v) Q E s := by
  have I : InstAt s.heap x ox C none := ⟨hx, hcl, hn, by rw [hd0]; trivial⟩
  refine set_plain X I T.set (xo_open (s := { s with toks := s.toks + 1 }) X I T ht fun b => ?_)
  refine hold fun _ hK9 => ?_
  refine oEAAAA T.get fun cd hc _ _ _ hd' => ?_
  refine hK9 ?_
  obtain ⟨oc, odi, oda, osl⟩ := ox
  dsimp only at hcl hd0
  subst hcl hd0
  refine wpAny_bind (wpAny_pure (wpAny_bind (wpAny_bind (wpAny_loadPart hx (wpAny_bind (Looks.here (s := { s with toks := s.toks + 1 }) (looks_clsIn X hc) ?_))))))
  rw [hd']
  have hnc : ∀ c, oda ≠ .cls c := fun c e => by subst e; simp [notCls] at hn
  simp only [Bool.not_true, Bool.false_eq_true, if_false, Bool.or_self, Bool.false_or]
  rw [if_neg (by simp [typeHasDict])]
  have hx₁ : (s.heap.push (dictOf [] 0)).get? x = some { cls := .ref C, dict := none, data := oda, slots := osl } := Heap.get?_push_of_some _ hx
  have hxs : x ≠ s.heap.objs.size := Nat.ne_of_lt (Heap.lt_size hx)
  have D1 : ((s.heap.push (dictOf [] 0)).update x (dictOn s.heap.objs.size)).get? s.heap.objs.size = some (dictOf [] 0) := (Heap.get?_update_ne _ _ _ _ hxs.symm).trans (Heap.get?_push_size _ rfl)
  refine wpAny_bind (wpAny_alloc' ?_)
  refine wpAny_bind (wpAny_update' hx₁ ?_)
  refine wpAny_bind (wpAny_pure (wpAny_pure ?_))
  show wpAny _ _ (Builtin.ObjectAttr.storeInDict s.heap.objs.size (.str name s.toks) name v) _ _ { s with heap := (s.heap.push (dictOf [] 0)).update x (dictOn s.heap.objs.size), toks := s.toks + 1 }
  unfold Builtin.ObjectAttr.storeInDict
  refine wpAny_bind (wpAny_pure (wpAny_bind ?_))
  unfold nsSet
  refine wpAny_bind (wpAny_bind (wpAny_askSetting (wpAny_pure (wpAny_bind (wpAny_mkText (wpAny_bind (wpAny_loadPart D1 ?_)))))))
  dsimp only
  rw [aRefKeyMayBeTheName_at, show ((!(([] : List DictEntry).toArray).any fun x => x.key.isStr name) && ([] : List DictEntry).toArray.any fun x => x.refKey) = false from by simp]
  refine wpAny_updatePart D1 ?_
  have D2 : (((s.heap.push (dictOf [] 0)).update x (dictOn s.heap.objs.size)).update s.heap.objs.size (Obj.putName name (PyData.keyHash w.params name) (.str name (s.toks + 1)) v)).get? s.heap.objs.size = some (dictOf (putL name (PyData.keyHash w.params name) (.str name (s.toks + 1)) v []) (putN name [] 0)) := by
    rw [← putName_dict]
    exact Heap.get?_update_self _ D1 (by rw [putName_dict]; rfl)
  refine wpAny_bind (wpAny_lookBehind D2 (pastItsLine_dict (by simp [putL, sizeLine_eq])) ?_)
  exact wpAny_pure h
end
theorem set_same' {m : List M} {k : Nat} {x : M} (h : m[k]? = some x) : m.set k x = m := by
  apply List.ext_getElem?
  intro j
  rw [List.getElem?_set]
  split
  · rename_i e
    subst e
    rw [if_pos (get_lt h), h]
  · rfl
section
variable {c : Cx} {σ : St} {P : V → List M → Prop} {PX : Fl → St → Prop} {name : Str} {v : V} {i j : Nat}
theorem WSA.exc0 (hi : σ.mem[i]? = some (.exc none)) (T : TakesA (wrt.heap_1 c.X.w.params) 59) (ht : takerIn (wrt.heap_1 c.X.w.params) 59 name = some none)
    {P : St → Prop} (h : P ⟨σ.loc, σ.mem.set i (.exc (some σ.mem.length)) ++ [.nsd [(name, v)]]⟩) : WSA c (.ptr i) name v σ P :=
  fun s fz ml uo u Q E R ho hv kq => by
    obtain ⟨x, o, rfl, hmem, hget, hg, vs, sl, dd, rfl, h1, h2, rfl⟩ := R.at hi ho
    refine set_dict0 R.K hg rfl rfl rfl T ht ?_
    refine oA (R.newml (o := dictOf [] 0) (m' := .nsd []) (Heap.get?_push_size _ rfl) ⟨[], 0, rfl, by rfl⟩) fun R1 x1 => ?_
    have hml : ml.length = σ.mem.length := R.mem.len
    have hx1 : (s.heap.push (dictOf [] 0)).get? x = some _ := Heap.get?_push_of_some _ hg
    have had : (adr (ml ++ [(s.heap.objs.size, dictOf [] 0)]))[σ.mem.length]? = some s.heap.objs.size := by
      rw [List.getElem?_map, ← hml, List.getElem?_append_right (Nat.le_refl _), Nat.sub_self]; rfl
    have hlt : i < ml.length := get_lt hget
    obtain ⟨R2, x2⟩ := R1.putBut (a := x) (i := i) (m' := .exc (some σ.mem.length)) (h' := (s.heap.push (dictOf [] 0)).update x (dictOn s.heap.objs.size)) (by rw [List.getElem?_append_left hlt]; exact hget) (Heap.SameBut.update _ _ _) (Heap.get?_update_self _ hx1 rfl)
      ⟨vs, sl, _, rfl, h1, h2, _, rfl, had⟩
    have hne : x ≠ s.heap.objs.size := Nat.ne_of_lt (Heap.lt_size hg)
    have hd1 : ((s.heap.push (dictOf [] 0)).update x (dictOn s.heap.objs.size)).get? s.heap.objs.size = some (dictOf [] 0) := (Heap.get?_update_ne _ _ _ _ hne.symm).trans (Heap.get?_push_size _ rfl)
    obtain ⟨R3, x3⟩ := R2.putBut (a := s.heap.objs.size) (i := σ.mem.length) (m' := .nsd [(name, v)]) (h' := ((s.heap.push (dictOf [] 0)).update x (dictOn s.heap.objs.size)).update s.heap.objs.size (Obj.putName name (PyData.keyHash c.X.w.params name) (.str name (s.toks + 1)) u))
      (o' := dictOf (putL name (PyData.keyHash c.X.w.params name) (.str name (s.toks + 1)) u []) (putN name [] 0)) (o := dictOf [] 0) (by
        rw [List.getElem?_set_ne (by lia), ← hml, List.getElem?_append_right (Nat.le_refl _), Nat.sub_self]; rfl) (Heap.SameBut.update _ _ _)
      (by rw [← putName_dict]; exact Heap.get?_update_self _ hd1 (by rw [putName_dict]; rfl)) ⟨_, _, rfl, by unfold putL isE; exact ⟨_, _, _, _, rfl, isVmono (c := c) (x1.trans x2) hv, by rfl⟩⟩
    refine kq ⟨σ.loc, ((σ.mem ++ [M.nsd []]).set i (.exc (some σ.mem.length))).set σ.mem.length (.nsd [(name, v)])⟩ _ _ _ _ ?_ rfl ((x1.trans x2).trans x3) R3
    have e : ((σ.mem ++ [M.nsd []]).set i (.exc (some σ.mem.length))).set σ.mem.length (.nsd [(name, v)]) = σ.mem.set i (.exc (some σ.mem.length)) ++ [.nsd [(name, v)]] := by
      rw [List.set_append_left _ _ (by lia), List.set_append_right _ _ (by rw [List.length_set]; exact Nat.le_refl _), List.length_set, Nat.sub_self]; rfl
    rw [e]
    exact h
theorem WSA.exc1 {fs : List (Str × V)} (hi : σ.mem[i]? = some (.exc (some j))) (hj : σ.mem[j]? = some (.nsd fs)) (hl : fs.length ≤ 100) (T : TakesA (wrt.heap_1 c.X.w.params) 59) (ht : takerIn (wrt.heap_1 c.X.w.params) 59 name = some none)
    {P : St → Prop} (h : P ⟨σ.loc, σ.mem.set j (.nsd (stA fs name v))⟩) : WSA c (.ptr i) name v σ P :=
  fun s fz ml uo u Q E R ho hv kq => by
    obtain ⟨x, o, rfl, _, _, hg, vs, sl, dd, rfl, h1, h2, dx, rfl, e⟩ := R.at hi ho
    obtain ⟨dx', o', e', hml, hget, hg', es, n, rfl, l⟩ := R.at hj (u := .ref dx) (by exact ⟨dx, rfl, e⟩)
    cases e'
    obtain ⟨m, f, F, LA, lo⟩ := R.fr
    refine oA (news_at R) fun N nd => ?_
    have hsome : (getL name es).isSome = true := by
      cases q : fs.lookup name with
      | none => rw [(isE_get l).2 q]; rfl
      | some v => obtain ⟨u', hu', _⟩ := (isE_get l).1 v q; rw [hu']; rfl
    have hl2 : (putL name (PyData.keyHash c.X.w.params name) (.str name (s.toks + 1)) u es).length ≤ es.length + 1 := by
      clear hsome hget hg' hml l
      induction es with
      | nil => unfold putL; simp
      | cons e es ih => unfold putL; split <;> simp <;> lia
    refine set_dict1 F R.ok.kin N ⟨hg, rfl, rfl, hg'⟩ rfl T ht hsome rfl (upd_set hget nd) (by rw [isE_len l] at hl2; lia) fun h' F' N' => ?_
    obtain ⟨R2, x2⟩ := R.put (m' := .nsd (stA fs name v)) hget F' LA lo (by rw [List.append_assoc]; exact N') ⟨_, _, rfl, isE_put hv l⟩
    exact kq _ _ _ h' _ h rfl x2 R2
theorem WE.excI {e : Expr} {rest : List Expr} {p1 ap pos : Pos} {oj : Option Nat} (e1 : nsIn (wrt.heap_1 c.X.w.params) mainGlobals "Exception" = some Option.none) (e2 : findCls (wrt.heap_1 c.X.w.params) (.type "Exception") (.type "type") "__init__" = some (.val (.builtin "Exception.__init__")))
    (e3 : ∃ nm q N bs hdct sn sub ab col dd k0 k1 k2 k3 k5 n2, (wrt.heap_1 c.X.w.params).lookup 59 = some (excClassObj nm q 59 N bs [.ref 46, .type "Exception", .type "BaseException", .type "object"] hdct sn sub ab col dd k0 k1 k2 k3 k5 n2))
    (h : WA c (e :: rest) σ fun vs m => ∃ v, vs = [.ptr i, v] ∧ m[i]? = some (.exc oj) ∧ P .none m)
    (hx : c.sc.names.lookup ("Exception" : Str) = some .globalImplicit := by rfl)
    {pl : Sem Bool} (he : starEach (e :: rest) c.env = (false, eval e c.env) :: starEach rest c.env := by rfl) (hp : (List.any (backTo pos (starEach rest c.env)) fun x => x.fst) = false := by rfl)
    (hc : eval (.Call (.Attribute (.Name "Exception" p1) "__init__" ap) (e :: rest) [] pos) c.env = (do let ov ← eval (.Name "Exception" p1) c.env; standAt ap.atName; let (f, first) ← holding [ov] (getMethod ov "__init__" pl); callWith pos f first (backTo pos (starEach (e :: rest) c.env)) (backToKw pos (keywordEach [] c.env))) := by rfl) :
    WE c (.Call (.Attribute (.Name "Exception" p1) "__init__" ap) (e :: rest) [] pos) σ P :=
  fun s fz ml Q E R k => MethodCall_ (pl := pl) (WE.blt (P := fun f m => f = .glob (.type "Exception") ∧ m = σ.mem) e1 rfl (by decide) ⟨rfl, rfl⟩ hx rfl s fz ml _ E R fun ov m fz1 ml1 h1 tk1 u hov x1 R1 i1 => by
    refine oA hov fun e90 e91 => ?_
    subst e90
    subst e91
    obtain rfl := v_glob i1
    refine hold fun _ hK9 => ?_
    obtain ⟨mm, f, F, LA, lo⟩ := R1.fr
    refine hK9 ?_
    refine method_type F R1.ok.kin (by kernel_rfl) (by decide +kernel) e2 rfl ?_
    refine PyProof.Rows.callWith_method1 (h pos _ fz1 ml1 _ E (R1.grow (fun _ _ e => e) F LA lo) fun vs m' fz2 ml2 h2 tk2 us hvs x2 R2 i2 => ?_) he hp
    refine oEAA hvs fun v e91 hm hP => ?_
    subst e91
    refine oEEAA (l_cons i2) fun u1 _ e92 iu1 hu => ?_
    subst e92
    obtain ⟨u2, _, rfl, iu2, hu⟩ := l_cons hu
    obtain rfl := l_nil hu
    refine hold fun _ hK9 => ?_
    obtain ⟨a, o, rfl, hmem, hget, hg, vs, sl, dd, rfl, h1', h2', h3'⟩ := R2.at hm iu1
    refine hK9 ?_
    refine hold fun _ hK9 => ?_
    refine oEEEEEEEEEEEEEEEE e3 fun nm q N bs hdct sn sub ab col ddc k0 k1 k2 k3 k5 n2 hC => ?_
    refine hK9 ?_
    refine xc_init (rest := [u2]) PySem.F.excBase_Exception (by decide) (R2.K _ _ hC) hg h1' (by simp [sizeLine_eq]) ?_
    have hne : a ≠ h2.objs.size := Nat.ne_of_lt (Heap.lt_size hg)
    obtain ⟨R3, x3⟩ := (R2.pushed { cls := .type "tuple", data := .seq [u2].toArray }).putBut (a := a) (i := i) (m' := .exc oj) (h' := (h2.push { cls := .type "tuple", data := .seq [u2].toArray }).update a (Obj.mapFields (·.setIfInBounds 0 (.ref h2.objs.size)))) hget (Heap.SameBut.update _ _ _)
      (Heap.get?_update_self _ (Heap.get?_push_of_some _ hg) rfl) ⟨vs.setIfInBounds 0 (.ref h2.objs.size), sl, dd, rfl, by rw [Array.size_setIfInBounds]; exact h1', by rw [Array.getElem?_setIfInBounds_ne (by decide)]; exact h2', h3'⟩
    refine k .none m' fz2 _ _ tk2 _ hP ((x1.trans x2).trans x3) ?_ mk_none
    rw [show m' = m'.set i (.exc oj) from (set_same' hm).symm]
    exact R3) hc
end
theorem tf_cls (w : World) : ∃ nm q N bs hdct sn sub ab col dd k0 k1 k2 k3 k5, (wrt.heap_1 w.params).lookup 59 = some (excClassObj nm q 59 N bs [.ref 46, .type "Exception", .type "BaseException", .type "object"] hdct sn sub ab col dd k0 k1 k2 k3 k5 "Exception.__new__") :=
  ⟨_, _, _, _, _, _, _, _, _, _, _, _, _, _, _, by k_is⟩
theorem tf_takes (w : World) : TakesA (wrt.heap_1 w.params) 59 where
  get := ⟨_, by k_is, rfl, by decide, fun self => by
    show refuseLoop self "__setattr__" [.ref 59, .ref 46, .type "Exception", .type "BaseException", .type "object"] = _
    rw [refuseLoop_ref, refuseLoop_ref]
    exact PySem.F.store_Exception.passes self, rfl⟩
  set := by k_is
theorem set_at' {m l : List M} {k : Nat} {x : M} : (m ++ l).set (m.length + k) x = m ++ l.set k x := by
  rw [List.set_append_right _ _ (Nat.le_add_right _ _), Nat.add_sub_cancel_left]
theorem set_at0' {m l : List M} {x : M} : (m ++ l).set m.length x = m ++ l.set 0 x := set_at' (k := 0)
section
variable {c : Cx} {σ : St} {P : V → List M → Prop} {x : Str}
theorem w_TF (hl : 2 ≤ c.X.lv) (h : P (.ptr σ.mem.length) (σ.mem ++ [.exc (some (σ.mem.length + 1)), .nsd (lc [("what", .str x), ("at", .int (-1))])])) : WL c (callV (.ref 59)) [.str x] σ P := by
    unfold WL
    intro s fz ml us Q E R hu kq
    refine oEEAA (l_cons hu) fun u1 _ e92 iu1 hu' => ?_
    subst e92
    obtain rfl := l_nil hu'
    refine oEEEEEEEEEEEEEEE (tf_cls c.X.w) fun nm q N bs hdct sn sub ab col dd k0 k1 k2 k3 k5 hC => ?_
    refine oE (⟨_, by k_is, rfl⟩ : ∃ o36, (wrt.heap_1 c.X.w.params).lookup 36 = some o36 ∧ o36.cls = .type "function") fun o36 h36 => ?_
    refine xc_call (rest := [u1]) PySem.F.excBase_Exception (by decide) (by decide) (by decide) (R.K _ _ hC) (by simp [sizeLine_eq]) (fun h' up => looks_findIn (R.K.keeps up) (by k_is : findIn (wrt.heap_1 c.X.w.params) (.ref 59) "__init__" = some (some (.ref 36)))) (R.K _ _ h36.1) h36.2 ?_
    have R1 := R.pushed { cls := .type "tuple", data := .seq [u1].toArray }
    have hsz : (s.heap.push { cls := .type "tuple", data := .seq [u1].toArray }).objs.size = s.heap.objs.size + 1 := by rw [Heap.size_push]
    refine oA (R1.newml (o := { cls := .ref 59, data := .fields #[.ref s.heap.objs.size, .none, .none, .none, .bool false, .none] }) (m' := .exc none) (Heap.get?_push_size _ rfl) ⟨_, _, _, rfl, rfl, rfl, rfl⟩) fun R2 x2 => ?_
    have ip : c.v fz (ml ++ [((s.heap.push { cls := .type "tuple", data := .seq [u1].toArray }).objs.size, { cls := .ref 59, data := .fields #[.ref s.heap.objs.size, .none, .none, .none, .bool false, .none] })]) (.ptr σ.mem.length) (.ref (s.heap.objs.size + 1)) := by
      have := ptr_new (c := c) (fz := fz) (ml := ml) (a := (s.heap.push { cls := .type "tuple", data := .seq [u1].toArray }).objs.size) (o := { cls := .ref 59, data := .fields #[.ref s.heap.objs.size, .none, .none, .none, .bool false, .none] })
      rw [R.mem.len] at this
      rw [← hsz]
      exact this
    have hdep : ((c.A.under (.builtin "type.__call__" ⟨[.ref 59, u1], []⟩)).depth) = c.X.dp + 1 := depth_under_make c.A 59 [u1]
    have hlen2 : (σ.mem ++ [M.exc none]).length = σ.mem.length + 1 := by simp
    have hd := R.ok.dep
    have hun := R.ok.unt
    refine wpAny_call (def_core (c := c) (σ := ⟨σ.loc, σ.mem ++ [.exc none]⟩) (vs := [.ptr σ.mem.length, .str x]) (P := fun r m => r = .none ∧ P (.ptr σ.mem.length) m) (PR := fun _ => False) (lv' := c.X.lv - 2)
      (dp' := (c.A.under (.builtin "type.__call__" ⟨[.ref 59, u1], []⟩)).depth) (un' := (c.A.under (.builtin "type.__call__" ⟨[.ref 59, u1], []⟩)).units) (gd' := (c.A.under (.builtin "type.__call__" ⟨[.ref 59, u1], []⟩)).guards)
      (Q := fun v s' => v = .none ∧ Q (.ref (s.heap.objs.size + 1)) s') (E := E) (lc [("self", .ptr σ.mem.length), ("what", .str x), ("at", .int (-1))]) (by rw [hdep]; lia) (by show c.X.un + 1 + 3 + 20 * (c.X.lv - 2) < 9000; lia) (by k_is) (by k_is) (fun s fz ml us X hu => ?_) rfl ?_ (by decide) rfl rfl rfl R2 (mk_cons ip (isLmono x2 hu)) ?_ ?_ ?_ ?_)
    · obtain ⟨u1, _, rfl, i1, hu⟩ := l_cons hu
      obtain ⟨u2, _, rfl, i2, hu⟩ := l_cons hu
      obtain rfl := l_nil hu
      refine ⟨_, BindsTo.of_defaults (T := 29) rfl (X _ _ (by k_is)) rfl rfl rfl, ?_⟩
      refine ⟨_, _, rfl, i1, ?_⟩
      refine ⟨_, _, rfl, i2, ?_⟩
      refine ⟨_, _, rfl, mk_int (c := c), ?_⟩
      rfl
    · intro X' hw hlv' _ _ hf
      rw [hlen2] at hf ⊢
      repeat walk_at "ws"
      refine WE.excI (i := σ.mem.length) (oj := none) (by k_is) (by k_is) (by obtain ⟨nm, q, N, bs, hdct, sn, sub, ab, col, dd, k0, k1, k2, k3, k5, hC⟩ := tf_cls X'.w; exact ⟨_, _, _, _, _, _, _, _, _, _, _, _, _, _, _, _, hC⟩) ?_
      repeat walk_at "ws"
      refine ⟨_, rfl, mem_at (k := 0) rfl, ?_⟩
      repeat walk_at "ws"
      refine W0.setAttr ?_
      repeat walk_at "ws"
      refine WSA.exc0 (mem_at (k := 0) rfl) (tf_takes _) (by k_is) ?_
      try dsimp only
      rw [set_at0', hlen2, List.append_assoc]
      repeat walk_at "ws"
      refine W0.setAttr ?_
      repeat walk_at "ws"
      refine WSA.exc1 (mem_at (k := 0) rfl) (mem_at (k := 1) rfl) (Nat.le_of_ble_eq_true rfl) (tf_takes _) (by k_is) ?_
      try dsimp only
      rw [set_at']
      repeat walk_at "ws"
      exact .inl ⟨rfl, h⟩
    · intro v m3 fz3 ml3 h3 tk3 u3 q87 x3 R3 i3
      refine oA q87 fun e90 hp => ?_
      subst e90
      refine ⟨v_none i3, ?_⟩
      exact kq _ _ fz3 ml3 h3 tk3 _ hp (x2.trans x3) R3 (isVmono x3 ip)
    · intro _ _ _ _ _ _ hp; exact hp.elim
    · rintro v s' ⟨rfl, hq⟩; exact ⟨rfl, hq⟩
    · intro e s' he; exact he
end
section
variable {c : Cx} {σ : St} {P : V → List M → Prop} {PX : Fl → St → Prop} {e : Expr} {pos : Pos} {oj : Option Nat} {l : List M}
theorem Rel.raised {fz ml fz1 ml1 : Led} {h h1 : Heap} (s0 : Shared) {u : Value} (R : Rel c σ fz ml h) (R1 : Rel c ⟨σ.loc, σ.mem ++ .exc oj :: l⟩ fz1 ml1 h1) (x1 : Ext fz ml fz1 ml1) (i1 : c.v fz1 ml1 (.ptr σ.mem.length) u) :
    ExtN c fz ml fz1 (ml1.take σ.mem.length) ∧ RelE c σ fz1 (ml1.take σ.mem.length) h1 u := by
  have hml : ml.length = σ.mem.length := R.mem.len
  have hal : (adr ml).length = σ.mem.length := by rw [List.length_map]; exact hml
  have ead : adr (ml1.take σ.mem.length) = adr ml := by
    rw [adr_take]
    refine oE x1.2 fun t ht => ?_
    rw [← ht, ← hal, List.take_left]
  obtain ⟨e, oe, rfl, hmem, hget, hg, vs, sl, dd, rfl, w1, w2, w3⟩ := R1.at (i := σ.mem.length) (m := .exc oj) (by rw [List.getElem?_append_right (Nat.le_refl _), Nat.sub_self]; rfl) i1
  obtain ⟨m1, f1, F1, LA1, lo1⟩ := R1.fr
  refine oAAA (groundX (A := c.A) (env := envX c.X.cn c.X.cs c.X.L c.X.a c.X.ccd c.X.cl) (R := fun _ _ => True) (s := { s0 with heap := h1 }) R.ok.below F1 R1.news rfl rfl R.ok.kind) fun FG BG st lv => ?_
  have hmem' : (e, ({ cls := .ref 59, dict := dd, data := .fields vs, slots := sl } : Obj)) ∈ ml1 ++ fz1 ++ c.X.xs := List.mem_append_left _ (List.mem_append_left _ hmem)
  have ne := R1.news _ hmem'
  have sub : ∀ q, q ∈ ml1.take σ.mem.length ++ fz1 ++ c.X.xs → q ∈ ml1 ++ fz1 ++ c.X.xs := fun q hq => by
    simp only [List.mem_append] at hq ⊢
    rcases hq with (hq | hq) | hq
    · exact .inl (.inl (List.mem_of_mem_take hq))
    · exact .inl (.inr hq)
    · exact .inr hq
  have hoff : ∀ q ∈ ml1.take σ.mem.length ++ fz1 ++ c.X.xs, q.1 ≠ e := fun q hq he => by
    have hd : (e, ({ cls := .ref 59, dict := dd, data := .fields vs, slots := sl } : Obj)) ∈ ml1.drop σ.mem.length := get_drop_mem (Nat.le_refl _) hget
    have hn := R1.nd
    rw [← List.take_append_drop σ.mem.length ml1, List.append_assoc, List.append_assoc, List.map_append, List.nodup_append] at hn
    refine oAA hn fun _ hn2 hn3 => ?_
    rw [List.map_append, List.nodup_append] at hn2
    have he1 : e ∈ (ml1.drop σ.mem.length).map (·.1) := List.mem_map_of_mem (f := (·.1)) hd
    rw [List.append_assoc] at hq
    rcases List.mem_append.mp hq with hq | hq
    · exact hn3 q.1 (List.mem_map_of_mem hq) e (by rw [List.map_append]; exact List.mem_append_left _ he1) he
    · exact hn2.2.2 e he1 q.1 (List.mem_map_of_mem hq) he.symm
  have hfr : ∀ b, b ∈ (envX c.X.cn c.X.cs c.X.L c.X.a c.X.ccd c.X.cl :: c.X.outer).filterMap (·.frame) → b = c.X.L ∨ ∃ o, c.X.h₀.get? b = some o := fun b hm => by
    rcases kts_memX hm with z | z
    · exact .inl z
    · refine oEA ((R.ok.below.frames.mem z).2) fun o ho _ => ?_
      exact .inr ⟨o, ho⟩
  refine ⟨⟨x1.1, by rw [ead]; exact List.take_prefix _ _⟩, R.ok, ⟨e, hideAll h1 ((ml1 ++ fz1 ++ c.X.xs).map (·.1)), m1, f1, rfl, FG, LA1, fun x v hx => ?_,
    ⟨hideAll h1 (e :: (envX c.X.cn c.X.cs c.X.L c.X.a c.X.ccd c.X.cl :: c.X.outer).filterMap (·.frame)), vs[0], fun b o q => ?_, fun b o q nm => ?_, fun q hq => ⟨?_, ?_, ?_⟩, .inl ⟨fun b o q => of_hideAll _ q, hideAll_none _ (.head _), ?_, _, vs, hg, rfl, rfl, Array.getElem?_eq_getElem (by lia), w2⟩⟩,
    Heap.UpToSlots.of_keeps fun b o q => of_hideAll _ q⟩, ?_, ?_, fun y i hy => ?_, ?_, fun q hq => R1.hi q (sub q hq)⟩
  · refine oEA (lo1 x v hx) fun u hu hv => ?_
    refine hold fun _ hK9 => ?_
    obtain ⟨_, _, _, _, lo⟩ := R.fr
    refine hK9 ?_
    refine oEA (lo x v hx) fun u0 _ hv0 => ?_
    have ho := isV.old v u0 hv0
    rw [hal] at ho
    exact ⟨u, hu, isV.keep (fun _ h => h) (by rw [adr_take]; exact List.prefix_refl _) v u ho hv⟩
  · have q0 := R.ok.below.stays b o q
    refine hideAll_get _ (F1.keep b o q0) fun hm => ?_
    rcases List.mem_cons.mp hm with rfl | hm
    · rw [ne.2.2] at q0; cases q0
    · rw [(BG.frames.mem hm).1] at q; cases q
  · refine hideAll_get _ (of_hideAll _ q) fun hm => ?_
    rcases List.mem_cons.mp hm with rfl | hm
    · rw [hideAll_none _ (List.mem_map_of_mem (f := (·.1)) hmem')] at q; cases q
    · exact nm hm
  · refine hideAll_get _ (R1.news q (sub q hq)).1 fun hm => ?_
    rcases List.mem_cons.mp hm with hm | hm
    · exact hoff q hq hm
    · rcases hfr _ hm with z | ⟨o, z⟩
      · exact (R1.news q (sub q hq)).2.1 z
      · rw [(R1.news q (sub q hq)).2.2] at z; cases z
  · exact hideAll_none _ (List.mem_map_of_mem (sub q hq))
  · exact fresh_of_stays R.ok.below.stays (R1.news q (sub q hq)).2.2
  · refine funFrames_hide (BG.frames.of_keeps fun b o q _ => ⟨o, of_hideAll _ q, rfl⟩) fun env he b hb => ?_
    exact .tail _ (List.mem_filterMap.mpr ⟨env, he, hb⟩)
  · have hs : List.Sublist (ml1.take σ.mem.length ++ fz1 ++ c.X.xs) (ml1 ++ fz1 ++ c.X.xs) := List.Sublist.append_right (List.Sublist.append_right (List.take_sublist _ _) _) _
    exact R1.nd.sublist (hs.map _)
  · have := memIs.cut (n := σ.mem.length) (fz := fz1) (fz' := fz1) (ad := adr ml1) (ad' := adr (ml1.take σ.mem.length)) (fun _ h => h) (by rw [adr_take]; exact List.prefix_refl _) (k := σ.mem.length) R1.mem (by rw [List.take_left]; exact R.oldmem)
    rw [List.take_left] at this
    exact this
  · refine oEA (R.cels y i hy) fun a h1 h2 => ?_
    exact ⟨a, h1, by rw [ead]; exact h2⟩
  · have := x1.2.length_le
    rw [List.length_map, List.length_map] at this
    rw [List.length_take]
    have := R.n0
    lia
theorem W0.raise (hC : ∃ nm q N bs hdct sn sub ab col dd k0 k1 k2 k3 k5 n2, (wrt.heap_1 c.X.w.params).lookup 59 = some (excClassObj nm q 59 N bs [.ref 46, .type "Exception", .type "BaseException", .type "object"] hdct sn sub ab col dd k0 k1 k2 k3 k5 n2))
    (h : WE c e σ fun v m => v = .ptr σ.mem.length ∧ ∃ oj l, m = σ.mem ++ .exc oj :: l) (hp : PX .rai σ) : W0 c (.Raise (some e) none pos) σ PX := by
  intro hf s fz ml Q E R k kr
  refine hold fun _ hK9 => ?_
  refine oEEEEEEEEEEEEEEEE hC fun nm q N bs hdct sn sub ab col dd k0 k1 k2 k3 k5 n2 hC => ?_
  refine hK9 ?_
  rw [arm_exec_Raise]
  refine wpAny_bind (wpAny_standAt ?_)
  simp only [evalOpt, Option.map]
  refine xc_raise (C := 59) (nm := nm) (q := q) (N := N) (bs := bs) (bm := [.ref 46, .type "Exception", .type "BaseException", .type "object"]) (hdct := hdct) (sn := sn) (sub := sub) (ab := ab) (col := col) (dd := dd) (k0 := k0) (k1 := k1) (k2 := k2) (k3 := k3) (k5 := k5) (newId := n2) (by decide) rfl (wpAny_bind (h s fz ml _ E R ?_))
  intro v m fz1 ml1 h1 tk1 u q87 x1 R1 i1
  refine oAEE q87 fun e90 oj l e93 => ?_
  subst e90
  subst e93
  refine wpAny_bind (wpAny_standAt (wpAny_pure ?_))
  refine oA (R.raised s R1 x1 i1) fun xx RE => ?_
  obtain ⟨e, oe, rfl, hmem, hget, hg, vs, sl, dd', rfl, w1, w2, w3⟩ := R1.at (i := σ.mem.length) (m := .exc oj) (by rw [List.getElem?_append_right (Nat.le_refl _), Nat.sub_self]; rfl) i1
  exact ⟨e, dd', vs, sl, rfl, R1.K _ _ hC, hg, w2, kr σ fz1 _ h1 _ _ hp xx RE⟩
end
noncomputable def Good (rs : List Rg) : Prop := ∀ g ∈ rs, 1 ≤ g.start ∧ g.start ≤ 1000000
section
variable {c : Cx} {σ : St} {P : V → List M → Prop} {PR : List M → Prop} {rs : List Rg}
theorem w_checkR (hl : 4 ≤ c.X.lv) (hS : ∀ g ∈ rs, g.style ∈ styleList ∧ 0 ≤ g.first) (hU : UpG rs) (h : Good rs → P .none σ.mem) (hr : ¬ Good rs → PR σ.mem) : WR c (callV (.ref 553)) [.lst (rs.map rgV)] σ P PR := by
  refine WR.def_ (lc [("ranges", .lst (rs.map rgV))]) (by lia) (by k_is) (by k_is) (hb1 fun _ _ => BindsTo.of_eq rfl) rfl (fun X' hw hlv hm hv hf => ?_) (by decide) rfl rfl rfl
  repeat walk_at "ws"
  refine W0.forL (fun items loc m => ∃ pre post last, rs = pre ++ post ∧ items = post.map rgV ∧ m = σ.mem ∧ Good pre ∧ (∀ g ∈ post, last < g.first) ∧ loc = lc [("last", .int last)]) ?_ ?_ ?_
  · repeat walk_at "ws"
    exact ⟨_, .lst, oldL_rgs, lc [("last", _)], .cons rfl .nil, [], rs, -1, rfl, rfl, rfl, (fun g hg => nomatch hg), fun g hg => by have := (hS g hg).2; lia, rfl⟩
  · intro X2 hw2 hl2 x rest loc m q87
    obtain ⟨pre, post, last, e1, e2, rfl, hG, hlast, rfl⟩ := q87
    cases post with
    | nil => cases e2
    | cons g post =>
      refine oA (List.cons.inj e2) fun e90 e91 => ?_
      subst e90
      subst e91
      obtain ⟨o1, o5⟩ := hS g (by rw [e1]; simp)
      have hlt := hlast g (.head _)
      subst e1
      have hUp := UpG.split hU
      have hl2 : X2.lv = X'.lv := hl2
      have fault : ¬ (1 ≤ g.start ∧ g.start ≤ 1000000) → ∀ lo : List (Str × V), OutR σ.mem.length P PR .rai ⟨lo, σ.mem⟩ := fun hn lo => hr fun q => hn (q g (by simp))
      refine ⟨_, TgtB.tupA (xs := ["first", "style", "prefix", "start"]) rfl rfl rfl, ?_⟩
      repeat walk_at "ws"
      rw [show decide (g.first ≤ last) = false from decide_eq_false (by lia)]
      repeat walk_at "ws"
      refine WE.gloV (t := .tup (strsV ["D", "R", "r", "A", "a", ""])) (by k_is) (styles_v _) ?_
      refine W2.notin_st ?_
      rw [styles_in o1]
      repeat walk_at "ws"
      by_cases h1 : 1 ≤ g.start
      · rw [show decide (1 ≤ g.start) = true from decide_eq_true h1]
        repeat walk_at "ws"
        refine WE.gloV (t := .int 1000000) (by k_is) (fun _ _ _ => mk_int) ?_
        repeat walk_at "ws"
        by_cases h2 : g.start ≤ 1000000
        · rw [show decide (g.start ≤ 1000000) = true from decide_eq_true h2]
          repeat walk_at "ws"
          exact ⟨lc [("last", _)], .cons rfl .nil, pre ++ [g], post, g.first, by simp, rfl, rfl, fun z hz => by rcases List.mem_append.mp hz with hz | hz; exact hG z hz; rw [List.mem_singleton.mp hz]; exact ⟨h1, h2⟩, hUp, rfl⟩
        · rw [show decide (g.start ≤ 1000000) = false from decide_eq_false h2]
          repeat walk_at "ws"
          refine W0.raise (by obtain ⟨nm, q, N, bs, hdct, sn, sub, ab, col, dd, k0, k1, k2, k3, k5, hC⟩ := tf_cls X2.w; exact ⟨_, _, _, _, _, _, _, _, _, _, _, _, _, _, _, _, hC⟩) ?_ (fault (fun q => h2 q.2) _)
          refine WE.callG (by k_is) (by k_is) ?_
          repeat walk_at "ws"
          exact w_TF (by show 2 ≤ X2.lv; lia) ⟨rfl, _, _, rfl⟩
      · rw [show decide (1 ≤ g.start) = false from decide_eq_false h1]
        repeat walk_at "ws"
        refine W0.raise (by obtain ⟨nm, q, N, bs, hdct, sn, sub, ab, col, dd, k0, k1, k2, k3, k5, hC⟩ := tf_cls X2.w; exact ⟨_, _, _, _, _, _, _, _, _, _, _, _, _, _, _, _, hC⟩) ?_ (fault (fun q => h1 q.1) _)
        refine WE.callG (by k_is) (by k_is) ?_
        repeat walk_at "ws"
        exact w_TF (by show 2 ≤ X2.lv; lia) ⟨rfl, _, _, rfl⟩
  · intro loc' loc m H q84
    obtain ⟨pre, post, last, e1, e2, rfl, hG, hlast, rfl⟩ := q84
    refine WX.loc H ?_
    repeat walk_at "ws"
    have : post = [] := by cases post with | nil => rfl | cons g post => cases e2
    subst this
    rw [List.append_nil] at e1
    subst e1
    exact .inl (h hG)
end
section
variable {c : Cx} {σ : St} {P : V → List M → Prop} {v : V}
theorem w_keyobj (hl : 1 ≤ c.X.lv) (h : P v σ.mem) : WL c (callV (.ref 379)) [.str "Nums", v] σ P := by
  refine WL.def_ (lc [("word", .str "Nums"), ("key", v)]) (by lia) (by k_is) (by k_is) (hb2 fun _ _ _ => BindsTo.of_eq rfl) rfl (fun X' hw hlv hm hv hf => ?_) (by decide) rfl rfl rfl
  repeat walk_at "ws"
  exact .inl h
theorem w_even {vs : List V} (hl : 1 ≤ c.X.lv) (h1 : 1 ≤ vs.length) (h2 : vs.length ≤ 16) (h : P (.lst [.lst vs]) σ.mem) : WL c (callV (.ref 424)) [.lst vs, .int 16] σ P := by
  refine WL.def_ (lc [("items", .lst vs), ("width", .int 16)]) (by lia) (by k_is) (by k_is) (hb2 fun _ _ _ => BindsTo.of_eq rfl) rfl (fun X' hw hlv hm hv hf => ?_) (by decide) rfl rfl rfl
  have hov : oldL σ.mem.length vs := by have := hv; unfold oldL at this; have := this.1; unfold old at this; exact this
  repeat walk_at "ws"
  refine WE.callB (by k_is) rfl (by decide) ?_
  repeat walk_at "ws"
  refine WL.len .tree (by lia) ?_
  repeat walk_at "ws"
  refine W2.div_ii (by decide) (by decide) ?_
  rw [show ((vs.length : Int) + 16 - 1).fdiv 16 = 1 by rw [Int.fdiv_eq_ediv_of_nonneg _ (by decide)]; lia]
  repeat walk_at "ws"
  refine WE.lstE ?_
  repeat walk_at "ws"
  refine ⟨by decide, σ.mem.length, σ.mem ++ [M.lst []], rfl, rfl, ?_⟩
  repeat walk_at "ws"
  refine W0.forL (fun items loc m => (items = [.int 0] ∧ m = σ.mem ++ [M.lst []] ∧ loc = lc [("begun", .int 0), ("rows", .ptr σ.mem.length), ("count", .int 1), ("items", .lst vs)]) ∨ (items = [] ∧ m = σ.mem ++ [M.lst [.lst vs]] ∧ loc = lc [("rows", .ptr σ.mem.length)])) ?_ ?_ ?_
  · refine WE.callT (by k_is) rfl (by decide) ?_
    repeat walk_at "ws"
    refine WL.range1 ?_
    exact ⟨_, rng_src (n := 1) (by decide), oldL_ints (f := fun i : Nat => (i : Int)), lc [("begun", _), ("rows", _), ("count", _), ("items", _)], .cons rfl (.cons rfl (.cons rfl (.cons rfl .nil))), .inl ⟨rfl, rfl, rfl⟩⟩
  · rintro X2 hw2 hl2 x rest loc m (⟨e1, rfl, rfl⟩ | ⟨e1, _, _⟩)
    · obtain ⟨rfl, rfl⟩ := List.cons.inj e1
      refine ⟨_, .name rfl, ?_⟩
      repeat walk_at "ws"
      refine WE.callB (by k_is) rfl (by decide) ?_
      repeat walk_at "ws"
      refine WL.len .tree (by lia) ?_
      repeat walk_at "ws"
      refine W2.div_ii (by decide) (by decide) ?_
      repeat walk_at "ws"
      refine WE.callB (by k_is) rfl (by decide) ?_
      repeat walk_at "ws"
      refine WL.len .tree (by lia) ?_
      repeat walk_at "ws"
      refine W2.mod_ii (by decide) ?_
      repeat walk_at "ws"
      rw [show ((vs.length : Int).fdiv 1) = (vs.length : Int) by rw [Int.fdiv_eq_ediv_of_nonneg _ (by decide)]; lia, show ((vs.length : Int).fmod 1) = 0 by rw [Int.fmod_eq_emod_of_nonneg _ (by decide)]; lia]
      repeat walk_at "ws"
      rw [show (0 : Int) + (vs.length : Int) + 0 = (vs.length : Int) by lia]
      refine WE.methB (id := "list.append") ?_
      repeat walk_at "ws"
      refine ⟨Meth.lst (.cell (mem_at (k := 0) rfl)) PySem.F.slot_list_append PySem.F.type_list_append, ?_⟩
      repeat walk_at "ws"
      refine WE.slcB ?_
      repeat walk_at "ws"
      refine ⟨_, rfl, ?_⟩
      repeat walk_at "ws"
      refine ⟨_, rfl, ?_⟩
      refine W2.slc_l (m := 0) (n := vs.length) .tree (by lia) (Nat.zero_le _) (Nat.le_refl _) ?_
      rw [List.drop_zero, Nat.sub_zero, List.take_length]
      repeat walk_at "ws"
      refine WL.append (mem_at (k := 0) rfl) (by decide) ?_
      rw [set_at0]
      repeat walk_at "ws"
      exact ⟨lc [("rows", _)], .cons rfl .nil, .inr ⟨rfl, rfl, rfl⟩⟩
    · cases e1
  · rintro loc' loc m H (⟨e1, rfl, rfl⟩ | ⟨e1, rfl, rfl⟩)
    · cases e1
    · refine WX.loc H ?_
      repeat walk_at "ws"
      exact out_frz (.lst (Nat.le_refl _) (mem_at (k := 0) rfl) (.cons (.same (hov)) .nil)) hm h
end
noncomputable def relK (sc : Scope) (p : Str × NameKind) : Str × NameKind := if (p.2 == .free && sc.kind == .function && sc.names.lookup p.1 == some .cell) then (p.1, NameKind.cell) else (p.1, p.2)
theorem relK_fst {sc : Scope} {p : Str × NameKind} : (relK sc p).1 = p.1 := by unfold relK; split <;> rfl
theorem relK_find {sc : Scope} {d : Str} {k : NameKind} : ∀ {names : List (Str × NameKind)}, names.lookup d = some k → (names.map (relK sc)).lookup d = some (relK sc (d, k)).2
  | [], h => by cases h
  | (n, k') :: r, h => by
    rw [List.lookup_cons] at h
    rw [List.map_cons]
    refine oE (⟨(relK sc (n, k')).2, Prod.ext relK_fst rfl⟩ : ∃ q2, relK sc (n, k') = (n, q2)) fun q1 q2 => ?_
    rw [q2, List.lookup_cons]
    by_cases e : d = n
    · subst e
      rw [beq_self_eq_true] at h ⊢
      cases h
      rw [q2]
    · rw [beq_false_of_ne e] at h ⊢
      exact relK_find h
theorem rel_names (scope sc : Scope) : (relabelS scope sc).names = scope.names.map (relK sc) := rfl
noncomputable def neqS (t : Str) : Value → Bool
  | .str y _ => y != t
  | _ => true
section
variable {prog : Program} {w : World} {K : Type} [DecidableEq K] {knd : KeyKind prog w K} {A : Around} {E : Value → Shared → Prop} {env : Env}
theorem comp_blockD {kx vx iter : Expr} {x : Str} {px : Pos} {ifs : List Expr} {scope : Scope} {cl : List (Str × Addr)} {pos : Pos} {s₂ : Shared} {I : Addr} {fp wr : List Addr} {n : Nat} {P : Nat → Value → Prop}
    {St : Nat → Heap → Prop} (W : Walks prog w A I fp wr n P St) (hsz : n ≤ sizeLine) (p : Value → Bool) (FK : Value → K → Prop) (FV : Value → Value → Prop) {RR : Value → Addr → Result → Shared → Prop}
    (hcell : ∀ y ∈ scope.names, y.2 ≠ .cell) (hkind : scope.kind = .function) (hx : scope.names.lookup x = some .local) (hst : St 0 s₂.heap) (hfp : ∀ b ∈ fp, b < s₂.heap.objs.size)
    (hq : QuietOnCD knd A env scope cl x ifs kx vx wr P p FK FV s₂)
    (hRR : ∀ C h' tk m' kvs (vs : List Value), s₂.heap.get? C = none → s₂.heap.objs.size ≠ C → h'.Ns C m' → h'.DictOf knd s₂.heap.objs.size kvs → vs.length = n → (∀ j v, vs[j]? = some v → P j v) → StoredAll FK FV (vs.filter p) kvs →
      (∀ b o, b ∉ wr → s₂.heap.get? b = some o → h'.get? b = some o) → RR (.ref s₂.heap.objs.size) C (.ok .next) { s₂ with heap := h', toks := tk }) :
    wpAny (model prog w) A newDict (fun acc s₃ => wpAny (model prog w) A (newFunctionEnv scope env.globals cl [] env.qual none .none (some env)) (fun cenv s₄ =>
      codeAny (model prog w) A (.compStart (.DictComp kx vx [⟨.Name x px, iter, ifs, 0⟩] scope pos) 0 (.ref I) acc { cenv with scope := relabel scope env }) (RR acc cenv.locals) s₄) E s₃) E s₂ := by
  refine wpAny_newObj_type (wpAny_newFunctionEnv hcell (by intro y hy; simp at hy) (fun h₁ hns₁ hsb₁ => ?_) hkind)
  dsimp only at hns₁ hsb₁ ⊢
  have hnew : (s₂.heap.push { cls := .type "dict", dict := none, data := .dict #[] }).DictOf knd s₂.heap.objs.size [] := Heap.DictOf.new s₂.heap
  generalize hH2 : s₂.heap.push { cls := .type "dict", dict := none, data := .dict #[] } = H2 at hns₁ hsb₁ hnew ⊢
  have hC : H2.objs.size = s₂.heap.objs.size + 1 := by rw [← hH2, Heap.size_push]
  have hDC : s₂.heap.objs.size ≠ H2.objs.size := by rw [hC]; exact Nat.ne_of_lt (Nat.lt_succ_self _)
  have below : ∀ b, b < s₂.heap.objs.size → b ≠ H2.objs.size ∧ b ≠ s₂.heap.objs.size := fun b hb => ⟨by rw [hC]; exact Nat.ne_of_lt (Nat.lt_succ_of_lt hb), Nat.ne_of_lt hb⟩
  have old : ∀ b o, s₂.heap.get? b = some o → h₁.get? b = some o := fun b o e => hsb₁.extBut b o (below b (Heap.lt_size e)).1 (Heap.get?_push_of_some _ (hH2 ▸ Heap.get?_push_of_some _ e))
  have hst₁ : St 0 h₁ := W.frame _ _ _ hst fun b _ o e => old b o e
  have hCn : s₂.heap.get? H2.objs.size = none := by
    cases e : s₂.heap.get? H2.objs.size with
    | none => rfl
    | some o' => have := Heap.lt_size e; rw [hC] at this; exact absurd (Nat.lt_of_succ_lt this) (Nat.lt_irrefl _)
  have low : ∀ {b o}, s₂.heap.get? b = some o → b ≠ H2.objs.size ∧ b ≠ s₂.heap.objs.size := fun e => below _ (Heap.lt_size e)
  have loop : codeAny (model prog w) A (.compLoop (.DictComp kx vx [⟨.Name x px, iter, ifs, 0⟩] scope pos) 0 (.ref I) (.ref s₂.heap.objs.size) (compEnvC scope cl H2.objs.size env)) (RR (.ref s₂.heap.objs.size) H2.objs.size) { s₂ with heap := h₁, toks := s₂.toks + ([] : List (Str × Value)).length } := by
    refine codeAny_compLoop_walkD (hsz := hsz) (knd := knd) (cenv := compEnvC scope cl H2.objs.size env) W p FK FV (lookup_relabel_local hx) (by simp [compEnvC, relabel, hkind]) hDC (fun hm => Nat.lt_irrefl _ (hfp _ hm)) (fun hm => by have := hfp _ hm; rw [show (compEnvC scope cl H2.objs.size env).locals = H2.objs.size from rfl, hC] at this; exact Nat.lt_irrefl _ (Nat.lt_of_succ_lt this)) hst₁
      (hnew.at fun o e => hsb₁.extBut _ _ hDC (Heap.get?_push_of_some _ e)) hns₁ ?_ ?_ ?_ ?_
    · exact fun i v s₃ m₃ hv hn hm hk => hq.tests _ i v s₃ m₃ _ hv hn hm fun b o hbf e => hk b o (low e).1 hbf (low e).2 (old b o e)
    · exact fun i v s₃ m₃ hv hpv hn hm hk => hq.key _ i v s₃ m₃ _ hv hpv hn hm fun b o hbf e => hk b o (low e).1 hbf (low e).2 (old b o e)
    · exact fun i v s₃ m₃ hv hpv hn hm hk => hq.val _ i v s₃ m₃ _ hv hpv hn hm fun b o hbf e => hk b o (low e).1 hbf (low e).2 (old b o e)
    · exact fun h' tk m' kvs vs hn ha hlen hP hF hk => hRR _ h' tk m' kvs vs hCn hDC hn ha hlen hP hF fun b o hbf e => hk b o (low e).1 hbf (low e).2 (old b o e)
  exact codeAny_compStart_dict loop (W.self 0 _ _ _ hst₁ loop)
end
section
variable {c : Cx} {σ : St} {ρl : List (Str × V)} {ρm : List M} {P : V → List M → Prop} {x d t : Str} {ks : List (Str × V)} {i : Nat}
theorem dc_two {α : Type} {vs : List α} (h : vs.length = 2) : ∃ v0 v1, vs = [v0, v1] := by
  cases vs with
  | nil => cases h
  | cons a r => cases r with
    | nil => cases h
    | cons b r => cases r with
      | nil => exact ⟨a, b, rfl⟩
      | cons e r => cases h
theorem dc_nil {FK : Value → Str → Prop} {FV : Value → Value → Prop} {L : List Value} {kvs : List (Str × Value)} (h : StoredAll FK FV L kvs) (e : L = []) : kvs = [] := by
  cases h with
  | nil => rfl
  | @snoc l _ _ _ _ _ _ _ => cases l <;> cases e
theorem dc_one {d' : Str} {t1 : Tok} {FV : Value → Value → Prop} {L : List Value} {kvs : List (Str × Value)} (h : StoredAll (fun v kk => ∃ tk, v = .str kk tk) FV L kvs) (e : L = [Value.str d' t1]) : ∃ y, kvs = [(d', y)] ∧ FV (Value.str d' t1) y := by
  cases h with
  | nil => cases e
  | @snoc l0 kv0 v0 kk0 y0 hF0 hk0 hv0 =>
    cases l0 with
    | cons p r => cases r <;> cases e
    | nil =>
      cases e
      obtain ⟨tk0, e0⟩ := hk0
      cases e0
      cases dc_nil hF0 rfl
      exact ⟨y0, rfl, hv0⟩
theorem dc_at {t d' : Str} {a b wv : V} {j : Nat} {kk : Str} (hne : d' ≠ t) (h : [(t, a), (d', b)][j]? = some (kk, wv)) : ∃ wl, [(t, a), (d', b)].lookup kk = some wl := by
  rcases j with _ | _ | j
  · cases h; exact ⟨a, by rw [List.lookup_cons, beq_self_eq_true]⟩
  · cases h; exact ⟨b, by rw [List.lookup_cons, beq_false_of_ne hne, List.lookup_cons, beq_self_eq_true]⟩
  · cases h
theorem dc_look {t d' : Str} {a b : V} (hne : d' ≠ t) {w : V} (h : [(t, a), (d', b)].lookup d' = some w) : w = b := by
  rw [List.lookup_cons, beq_false_of_ne hne, List.lookup_cons, beq_self_eq_true] at h
  exact (Option.some.inj h).symm
theorem dc_fil {t d' : Str} {t0 t1 : Tok} (hne : d' ≠ t) : ([Value.str t t0, Value.str d' t1]).filter (neqS t) = [Value.str d' t1] := by
  rw [List.filter_cons, if_neg (by simp [neqS]), List.filter_cons, if_pos (by simp [neqS, hne])]; rfl
theorem dc_rel {fz ml : Led} {h1 h' : Heap} {ob oD : Obj} (R : Rel c σ fz ml h1) (ext : ∀ b o, h1.get? b = some o → h'.get? b = some o) (hD : h'.get? (h1.push ob).objs.size = some oD) : Rel c σ (((h1.push ob).objs.size, oD) :: fz) ml h' := by
  have hsz : (h1.push ob).objs.size = h1.objs.size + 1 := Heap.size_push _ _
  obtain ⟨mm, f, F, LA, lo⟩ := R.fr
  have low : ∀ b o, h1.get? b = some o → b ≠ (h1.push ob).objs.size := fun b o e => by rw [hsz]; exact Nat.ne_of_lt (Nat.lt_succ_of_lt (Heap.lt_size e))
  refine (R.grow ext ⟨F.ns.at' fun o e => ext _ o e, fun b o e => ext b o (F.keep b o e), F.above⟩ LA lo).addfz hD (by rw [hsz]; exact Nat.ne_of_gt (Nat.lt_succ_of_lt F.ns.lt)) ?_ (fun q hq => low _ _ (R.news q hq).1) (by rw [hsz]; exact Nat.lt_succ_of_lt R.modules)
  cases e : c.X.h₀.get? (h1.push ob).objs.size with
  | none => rfl
  | some o => exact absurd rfl (low _ _ (F.keep _ _ e))
theorem WE.dcomp1 {p1 p2 p3 p4 p5 p6 p7 p8 px pos : Pos} {k1 : Nat} {scope : Scope} {a b : V} {d' : Str} (hks : ks = [(t, a), (d', b)]) (hne : d' ≠ t) (hc : c.cel.lookup d = some i) (hm : σ.mem[i]? = some (.cel (some (.dct ks)))) (hd : c.sc.names.lookup d = some .cell) (hck : c.sc.kind = .function)
    (hx : scope.names.lookup x = some .local) (hd2 : scope.names.lookup d = some .free) (hdm : (d, NameKind.free) ∈ scope.names) (hxd : (x == ("__debug__" : Str)) = false) (hdd : (d == ("__debug__" : Str)) = false) (hdc : (d == ("__classdict__" : Str)) = false)
    (hfree : ∀ y ∈ scope.names, y.2 = .free → (c.cel.lookup y.1).isSome = true) (hcell : ∀ y ∈ scope.names, y.2 ≠ .cell) (hkind : scope.kind = .function) (hnames : ∀ y ∈ scope.names, y.2 = .local → scope.names.lookup y.1 = some .local)
    (h : P (.dct [(d', b)]) σ.mem) : WE c (.DictComp (.Name x p1) (.Subscript (.Name d p2) (.Name x p3) p4) [⟨.Name x px, .Name d p5, [.Compare (.Name x p6) [.NotEq] [.Constant (.str t) k1 p7] p8], 0⟩] scope pos) σ P := by
  intro s fz ml Q E R k
  refine oEA (R.closure hfree) fun cl hclos hcl => ?_
  rw [arm_eval_DictComp]
  refine wpAny_comprehension_free (e := .DictComp (.Name x p1) (.Subscript (.Name d p2) (.Name x p3) p4) [⟨.Name x px, .Name d p5, [.Compare (.Name x p6) [.NotEq] [.Constant (.str t) k1 p7] p8], 0⟩] scope pos) (env := c.env) (g := ⟨.Name x px, .Name d p5, [.Compare (.Name x p6) [.NotEq] [.Constant (.str t) k1 p7] p8], 0⟩) (gs := []) (use := Option.none) rfl (fun _ => rfl) hclos hkind hnames ?_
  refine WE.cel (P := fun v m => v = .dct ks ∧ m = σ.mem) hc hm ⟨rfl, rfl⟩ (.inl hd) hdd hdc s fz ml _ E R ?_
  intro v m fz1 ml1 h1 tk1 u q87 x1 R1 i1
  refine oA q87 fun e90 e91 => ?_
  subst e90
  subst e91
  refine hold fun _ hK9 => ?_
  obtain ⟨ad, o, kws, rfl, z, e1, dd, l⟩ := v_dct i1
  refine hK9 ?_
  refine oEE (id dd) fun es ep hdd' => ?_
  have hA : (shr s h1 tk1).heap.DictAt (strKind thePr c.X.w) ad kws ep := ⟨o, es, R1.zf z, hdd'⟩
  have hne1 : ad ≠ h1.objs.size := Nat.ne_of_lt (Heap.lt_size (R1.zf z))
  refine oAA R1.fresh fun f1 f2 f3 => ?_
  have hsys := R1.modules
  refine oEA (R1.cels d i hc) fun ca hca hcad => ?_
  obtain ⟨ca', oca, ec, hcm, _, hcg, uu, hcd, uu', euu, iuu⟩ := R1.at (i := i) (by exact hm) (u := .ref ca) (by exact ⟨ca, rfl, hcad⟩)
  cases ec
  subst euu
  refine hold fun _ hK9 => ?_
  obtain ⟨ad2, o2, kws2, rfl, z2, e2, dd2, l2⟩ := v_dct iuu
  refine hK9 ?_
  subst hks
  have rsc : relabel scope c.env = relabelS scope c.sc := relabel_eq R1.ok scope
  have ek : (relabel scope c.env).kind = .function := by rw [rsc]; exact hkind
  have exn : (relabel scope c.env).names.lookup x = some .local := by
    rw [rsc, rel_names, relK_find hx]; rfl
  have edn : (relabel scope c.env).names.lookup d = some .cell := by
    rw [rsc, rel_names, relK_find hd2]; unfold relK; rw [hck, hd]; rfl
  have hcl2 : cl.lookup d = some ca := by rw [hcl (d, .free) hdm rfl]; exact hca
  refine wpAny_pyIter_dict (by simpa using e1) hA ?_
  refine comp_blockD (s₂ := shr s (h1.push { cls := .type "dict_keyiterator", data := .fields #[.ref ad, .int 0 0, .int kws.length 0, .int ep 0] }) tk1) (knd := strKind thePr c.X.w) (RR := fun acc C => compPost c.M c.A E Option.none Q acc C) (Walks.dictKeys (prog := thePr) (w := c.X.w) rfl h1.objs.size ad hne1 kws ep) (by rw [isF_length l]; simp [sizeLine_eq]) (neqS t) (fun v kk => ∃ tk, v = .str kk tk)
    (fun v y => ∃ kk tk w, v = .str kk tk ∧ [(t, a), (d', b)].lookup kk = some w ∧ c.v fz1 ml1 w y) hcell hkind hx ⟨⟨_, Heap.get?_push_size _ rfl, rfl, rfl⟩, hA.push _⟩ ?_ ⟨?_, ?_, ?_⟩ ?_
  · intro b hb
    rcases List.mem_cons.mp hb with rfl | hb
    · show h1.objs.size < (h1.push _).objs.size; rw [Heap.size_push]; exact Nat.lt_succ_self _
    · rw [List.mem_singleton.mp hb]; show ad < (h1.push _).objs.size; rw [Heap.size_push]; exact Nat.lt_succ_of_lt (Heap.lt_size (R1.zf z))
  · intro C i v s₃ m₃ E' q86 hns hm hkeep
    refine oEEA q86 fun kk u hk hkv => ?_
    refine oE (key_str hkv) fun tk e91 => ?_
    subst e91
    refine wpAny_tests_one (wpAny_isTrue_Compare1 (wpAny_Name (wpAny_loadName_local ek exn hns hm (Constant_str (ne_str (wpAny_truthy_bool ⟨rfl, _, _, rfl, fun _ _ e => e⟩)))) hxd))
  · intro C i v s₃ m₃ E' q86 hpv hns hm hkeep
    refine oEEA q86 fun kk u hk hkv => ?_
    refine oE (key_str hkv) fun tk e91 => ?_
    subst e91
    exact wpAny_Name (wpAny_loadName_local ek exn hns hm ⟨⟨kk, hkv, tk, rfl⟩, _, _, rfl, fun _ _ e => e⟩) hxd
  · intro C i v s₃ m₃ E' q86 hpv hns hm hkeep
    refine oEEA q86 fun kk u hk hkv => ?_
    refine oE (key_str hkv) fun tk e91 => ?_
    subst e91
    have ext : ∀ b o, h1.get? b = some o → s₃.heap.get? b = some o := fun b o e => hkeep b o (by simp; exact Nat.ne_of_lt (Heap.lt_size e)) (Heap.get?_push_of_some _ e)
    refine Subscript_ (wpAny_Name (wpAny_loadName_cell ek edn hcl2 ⟨_, ext _ _ hcg, hcd⟩ (wpAny_Name (wpAny_loadName_local ek exn hns hm ?_) hxd)) hdd)
    have hd3 : s₃.heap.DictOf (strKind thePr c.X.w) ad2 kws2 := Heap.dictOf_iff.mpr ⟨o2, ext _ _ (R1.zf z2), dd2⟩
    refine oE (isF_at l hk) fun wv hwv => ?_
    refine oE (dc_at hne hwv) fun wl hwl => ?_
    refine oEA ((isF_val l2).1 wl hwl) fun y hy iy => ?_
    exact tail_any hd3.typeIs slot_dict_getitem.lookup (wpAny_getItem_of (strKey _ _ _ _) hd3.mapOf hy ⟨⟨kk, tk, wl, rfl, hwl, iy⟩, _, _, rfl, fun _ _ e => e⟩) rfl
  · intro C h' tk m' kvs vs hCn hDC hn hl hlen hP hF hk
    refine ⟨m', hn, fun h'' hs'' => ?_⟩
    rw [isF_length l] at hlen
    refine oEE (dc_two hlen) fun v0 v1 e92 => ?_
    subst e92
    refine oEEA (hP 0 v0 rfl) fun k0 u0 g0 g0' => ?_
    refine oEEA (hP 1 v1 rfl) fun k1' u1 g1 g1' => ?_
    refine oE (isF_at l g0) fun w0 hw0 => ?_
    refine oE (isF_at l g1) fun w1 hw1 => ?_
    cases hw0
    cases hw1
    refine oE (key_str g0') fun t0 e91 => ?_
    subst e91
    refine oE (key_str g1') fun t1 e91 => ?_
    subst e91
    rw [dc_fil hne] at hF
    refine oEAEEEAA (dc_one hF rfl) fun y e91 kk1 tk1' w' e1' hw' iw' => ?_
    subst e91
    cases e1'
    cases dc_look hne hw'
    have ext : ∀ b o, h1.get? b = some o → h''.get? b = some o := fun b o e => hs''.extBut b o (fun q => by
      have e2 : (h1.push { cls := .type "dict_keyiterator", data := .fields #[.ref ad, .int 0 0, .int kws.length 0, .int ep 0] }).get? b = some o := Heap.get?_push_of_some _ e
      rw [q] at e2
      rw [show (shr s (h1.push { cls := .type "dict_keyiterator", data := .fields #[.ref ad, .int 0 0, .int kws.length 0, .int ep 0] }) tk1).heap.get? C = _ from hCn] at e2
      cases e2) (hk b o (by simp; exact Nat.ne_of_lt (Heap.lt_size e)) (Heap.get?_push_of_some _ e))
    refine oEA (Heap.dictOf_iff.mp (hl.extBut hs''.extBut hDC)) fun oD hoD hdD => ?_
    have R3 := dc_rel R1 ext hoD
    refine k (.dct [(d', b)]) _ _ _ h'' tk _ h (x1.trans ⟨fun q hq => List.mem_cons_of_mem _ hq, List.prefix_refl _⟩) R3 ?_
    refine ⟨_, oD, [(d', y)], rfl, .inr (.head _), fun q => ?_, hdD, ?_⟩
    · exact absurd (Nat.lt_succ_of_lt hsys) (by rw [show sysModules = h1.objs.size + 1 from q.symm.trans (Heap.size_push _ _)]; exact Nat.lt_irrefl _)
    · exact ⟨y, [], rfl, isV.mono (fun q hq => List.mem_cons_of_mem _ hq) (List.prefix_refl _) b y iw', by rfl⟩
end
theorem inj_of_pairwise {l : List (Int × Value)} (h : l.Pairwise fun p q => p.1 < q.1) {a b : Int × Value} (ha : a ∈ l) (hb : b ∈ l) (e : a.1 = b.1) : a = b := by
  obtain ⟨i, hi, rfl⟩ := List.getElem_of_mem ha
  obtain ⟨j, hj, rfl⟩ := List.getElem_of_mem hb
  rcases Nat.lt_trichotomy i j with q | q | q
  · have := List.pairwise_iff_getElem.mp h i j hi hj q; lia
  · subst q; rfl
  · have := List.pairwise_iff_getElem.mp h j i hj hi q; lia
theorem sorted_same : ∀ {kz : List Int} {vs : List Value}, kz.length = vs.length → kz.Pairwise (· < ·) → ∀ {out : List Value}, KskOut false kz vs out → out = vs := by
  intro kz vs hl hp out ⟨ps, hperm, ho, hs⟩
  have h2 : (kz.zip vs).Pairwise fun p q => p.1 < q.1 := by
    have : ((kz.zip vs).map Prod.fst).Pairwise (· < ·) := by rw [List.map_fst_zip (by lia)]; exact hp
    exact List.pairwise_map.mp this
  have h3 : ps = kz.zip vs := by
    refine hperm.eq_of_pairwise (le := fun p q : Int × Value => p.1 ≤ q.1) (fun a b ha hb h1 h2' => ?_) (by simpa using hs) (h2.imp fun h => Int.le_of_lt h)
    exact inj_of_pairwise h2 (hperm.mem_iff.mp ha) hb (by lia)
  rw [ho, h3, List.map_snd_zip (by lia)]
section
variable {c : Cx} {σ : St} {ρl : List (Str × V)} {ρm : List M} {P : V → List M → Prop} {e lam : Expr} {pos xp kpos lpos q1 q2 q3 : Pos} {y : Str} {kk : Nat} {params : Arguments} {scope : Scope}
noncomputable def pairsV (ps : List (Int × List V)) : List V := ps.map fun p => .tup (.int p.1 :: p.2)
theorem WE.sortedK (e1 : nsIn (wrt.heap_1 c.X.w.params) mainGlobals "sorted" = some Option.none) (hlv : 1 ≤ c.X.lv) (hne : ρm ≠ [])
    (h : WE c e ⟨ρl, ρm⟩ fun v m => ∃ ps : List (Int × List V), v = .lst (pairsV ps) ∧ ps.length < 64 ∧ ps.Pairwise (fun a b => a.1 < b.1) ∧ WE c (.Lambda params (.Subscript (.Name y q1) (.Constant (.int 0) kk q2) q3) scope lpos) ⟨ρl, m⟩ fun fv m' => (∃ q cv, fv = .lam q params (.Subscript (.Name y q1) (.Constant (.int 0) kk q2) q3) scope cv) ∧ P v m')
    (hb : ∀ q clos pm c' ctv u, bindArgs (kla_fn "<lambda>" q params (.Subscript (.Name y q1) (.Constant (.int 0) kk q2) q3) scope clos pm (.ref c') ctv) ⟨[u], []⟩ = pure [(y, u)]) (hy : scope.names.lookup y = some .local) (hyd : (y == ("__debug__" : Str)) = false)
    (hcell : ∀ x ∈ scope.names, x.2 ≠ .cell) (hk : scope.kind = .function) (hco : scope.isCoroutine = false) (hgen : scope.isGenerator = false) (hx : c.sc.names.lookup ("sorted" : Str) = some .globalImplicit := by rfl)
    (he : starEach [e] c.env = (false, eval e c.env) :: starEach [] c.env := by rfl)
    (hc : eval (.Call (.Name "sorted" xp) [e] [⟨some "key", .Lambda params (.Subscript (.Name y q1) (.Constant (.int 0) kk q2) q3) scope lpos, kpos⟩] pos) c.env = (do callWith pos (← eval (.Name "sorted" xp) c.env) [] (backTo pos (starEach [e] c.env)) (backToKw pos (keywordEach [⟨some "key", .Lambda params (.Subscript (.Name y q1) (.Constant (.int 0) kk q2) q3) scope lpos, kpos⟩] c.env))) := by rfl)
    (hbk : backTo pos (starEach [e] c.env) = (false, eval e c.env) :: backTo pos (starEach [] c.env) := by rfl) (hpl : (backTo pos (starEach [e] c.env)).any (·.1) = false := by rfl) :
    WE c (.Call (.Name "sorted" xp) [e] [⟨some "key", .Lambda params (.Subscript (.Name y q1) (.Constant (.int 0) kk q2) q3) scope lpos, kpos⟩] pos) ⟨ρl, ρm⟩ P := by
  intro s fz ml Q E R k
  rw [hc]
  refine wpAny_bind (WE.blt (P := fun f m => f = .glob (.builtin "sorted") ∧ m = ρm) e1 rfl (by decide) ⟨rfl, rfl⟩ hx rfl s fz ml _ E R ?_)
  intro f m fz0 ml0 h0 tk0 u q87 x0 R0 i0
  refine oA q87 fun e90 e91 => ?_
  subst e90
  subst e91
  obtain rfl := v_glob i0
  refine callWith_kw (args_cons (h _ fz0 ml0 _ E R0 ?_) he) hbk hpl rfl rfl
  intro v m fz1 ml1 h1 tk1 u q87 x1 R1 i1
  refine oEAAA q87 fun ps e91 h64 hpw hlam => ?_
  subst e91
  refine args_nil (kws_cons (hlam _ fz1 ml1 _ E R1 ?_))
  intro fv m' fz2 ml2 h2 tk2 uf q87 x2 R2 i2
  refine oA q87 fun q90 hP => ?_
  obtain ⟨q, cv, rfl⟩ := q90
  refine kws_nil ?_
  have i1' := isVmono (c := c) x2 i1
  refine hold fun _ hK9 => ?_
  obtain ⟨a, o, ws, n, rfl, z, e2, e3, l⟩ := v_lst i1'
  refine hK9 ?_
  refine hold fun _ hK9 => ?_
  obtain ⟨fa, c', pm, ctv, clos, oc, vs, t, rfl, z1, z2, d1, d2, hclos⟩ := v_lam i2
  refine hK9 ?_
  refine hold fun _ hK9 => ?_
  obtain ⟨mm, lf, F, LA, lo⟩ := R2.fr
  refine hK9 ?_
  have hlw : ws.length = ps.length := by rw [l_len l]; simp [pairsV]
  refine ksk_sorted (b := false) (kz := ps.map (·.1)) F R2.news ⟨o, R2.zf z, e2, n, e3⟩ (by rw [hlw]; simp) (by lia) (ksk_s1 _ _) (fun x => ksk_l1 _ _) (fun x => ksk_t1 _ _) ?_ ?_
  · intro i v k hvi hki h tk own F' N'
    have std : ∀ a o, Zf c.X.Zb fz2 a o → h.get? a = some o := fun a o z => by
      rcases z with z | z
      · exact F'.keep _ _ (R2.ok.zb _ _ z)
      · exact (N' _ (List.mem_append_left _ (List.mem_append_left _ (List.mem_append_right _ z)))).1
    obtain ⟨p, hp, rfl⟩ : ∃ p, ps[i]? = some p ∧ p.1 = k := by
      rw [List.getElem?_map] at hki
      refine oEA (Option.map_eq_some_iff.mp hki) fun p hp e => ?_
      exact ⟨p, hp, e⟩
    obtain ⟨u, hu, iv⟩ := l_get (v := .tup (.int p.1 :: p.2)) l (by unfold pairsV; rw [List.getElem?_map, hp]; rfl)
    rw [hvi] at hu
    cases hu
    refine hold fun _ hK9 => ?_
    obtain ⟨a', o', ws', n', rfl, z', g1, g2, l'⟩ := v_tup iv
    refine hK9 ?_
    refine hold fun _ hK9 => ?_
    refine oEEAA (l_cons l') fun u0 us0 e92 iu0 _ => ?_
    subst e92
    refine hK9 ?_
    refine oE (v_int iu0) fun t0 e91 => ?_
    subst e91
    refine wpAny_call (lam_code (env := envX c.X.cn c.X.cs c.X.L c.X.a c.X.ccd c.X.cl) (news := ml2 ++ fz2 ++ c.X.xs ++ own) (s := { shr s h2 tk2 with heap := h, toks := tk }) R2.ok.below F' R2.ok.kin N' R2.ok.top rfl rfl R2.ok.kind (std _ _ z1) ⟨c', oc, vs, t, rfl, std _ _ z2, d1, d2⟩ (room_of (l := c.X.lv) R2.ok.dep) (hb _ _ _ _ _ _)
      (fun w hw => by rw [List.mem_singleton.mp hw]; exact hy) ?_ hco hgen hk hcell)
    intro g L' h₁ FG FF NN BB XX TT
    have up : ∀ b o, g.get? b = some o → h₁.get? b = some o := FF.keep
    have hg : h₁.get? a' = some o' := by
      rcases z' with z' | z'
      · exact FF.keep _ _ (FG.keep _ _ (R2.ok.zb _ _ z'))
      · exact (NN _ (List.mem_append_left _ (List.mem_append_left _ (List.mem_append_right _ z')))).1
    refine Subscript_ (nameX_L FF (v := .ref a') (by show List.lookup y [(y, Value.ref a')] = _; rw [List.lookup_cons, beq_self_eq_true]) (wpAny_Constant_int ?_) hk hy hyd)
    refine item_tupleT (j := 0) ⟨o', hg, g1, n', g2⟩ (by decide) (by decide) (by simp [seqIndex?]; try lia) rfl ?_ rfl
    refine leaveK_ FF NN fun F3 N3 => KskEnd.intro F3 N3 fun q hq => hq
  · intro D h' tk out cc F' N' hlt hout
    have eo := sorted_same (by rw [hlw]; simp) (List.pairwise_map.mpr hpw) hout
    have R3 : Rel c ⟨ρl, m'⟩ fz2 ml2 h' := R2.move F' LA lo fun q hq => N' q (.tail _ hq)
    have nD := N' _ (.head _)
    have ea : out = ws.toArray := by rw [← eo]
    subst ea
    have hl2 : ml2 ≠ [] := fun e => by
      have h1 := (((x0.trans x1).trans x2).2).length_le
      rw [e, List.length_map, R.mem.len] at h1
      exact hne (List.eq_nil_of_length_eq_zero (Nat.le_zero.mp h1))
    refine hold fun _ hK9 => ?_
    refine oEE (List.exists_cons_of_ne_nil hl2) fun q0 r0 eq0 => ?_
    refine hK9 ?_
    have hq0 : q0 ∈ ml2 ++ fz2 ++ c.X.xs := List.mem_append_left _ (List.mem_append_left _ (by rw [eq0]; exact List.mem_cons_self))
    have hsD : sysModules < D := Nat.lt_trans (R2.hi q0 hq0) (hlt q0 hq0)
    have R4 := R3.addfz nD.1 nD.2.1 nD.2.2 (fun q hq => Nat.ne_of_lt (hlt q hq)) hsD
    refine k _ _ _ _ h' tk _ hP (((x0.trans x1).trans x2).trans ⟨fun q hq => .tail _ hq, List.prefix_refl _⟩) R4 ?_
    exact ⟨D, _, ws, cc, rfl, .inr (.head _), rfl, rfl, isLmono (c := c) ⟨fun q hq => .tail _ hq, List.prefix_refl _⟩ l⟩
end
theorem rowV_app {a b : List (Int × V)} : rowV (a ++ b) = rowV a ++ rowV b := by unfold rowV; rw [List.flatMap_append]
theorem oldL_row {n : Nat} : ∀ {ps : List (Int × V)}, (∀ p ∈ ps, old n p.2) → oldL n (rowV ps)
  | [], _ => by simp [rowV, oldL]
  | p :: ps, h => by
    have := oldL_row (n := n) (ps := ps) fun q hq => h q (.tail _ hq)
    unfold rowV at this ⊢
    rw [List.flatMap_cons]
    simp only [List.cons_append, List.nil_append, oldL]
    exact ⟨trivial, h p (.head _), this⟩
theorem pairs_get {ps : List (Int × V)} {i : Nat} {p : Int × V} (h : ps[i]? = some p) : (ps.map pairV)[i]? = some (pairV p) := by rw [List.getElem?_map, h]; rfl
noncomputable def leafV (a b : Int) (ps : List (Int × V)) : List (Str × V) := lc [("Limits", .lst [.int a, .int b]), ("Nums", .lst (rowV ps))]
section
variable {c : Cx} {σ : St} {P : V → List M → Prop} {v : V}
theorem w_leaf {ps : List (Int × V)} {a b : Int × V} (hl : 3 ≤ c.X.lv) (hlen : ps.length ≤ 16) (ha : ps.head? = some a) (hb : ps.getLast? = some b) (ho : ∀ n, ∀ p ∈ ps, old n p.2) (h : P (.dct (leafV a.1 b.1 ps)) σ.mem) : WL c (callV (.ref 431)) [.str "Nums", .lst (ps.map pairV)] σ P := by
  refine WL.def_ (lc [("word", .str "Nums"), ("pairs", .lst (ps.map pairV))]) (by lia) (by k_is) (by k_is) (hb2 fun _ _ _ => BindsTo.of_eq rfl) rfl (fun X' hw hlv hm hv hf => ?_) (by decide) rfl rfl rfl
  repeat walk_at "ws"
  refine WE.lstE ?_
  repeat walk_at "ws"
  refine ⟨by decide, σ.mem.length, σ.mem ++ [M.lst []], rfl, rfl, ?_⟩
  repeat walk_at "ws"
  refine W0.forL (fun items loc m => ∃ pre post, ps = pre ++ post ∧ items = post.map pairV ∧ m = σ.mem ++ [M.lst (rowV pre)] ∧ loc = lc [("row", .ptr σ.mem.length), ("word", .str "Nums"), ("pairs", .lst (ps.map pairV))]) ?_ ?_ ?_
  · repeat walk_at "ws"
    exact ⟨_, .lst, oldL_leaf fun v hv => by obtain ⟨p, hp, rfl⟩ := List.mem_map.mp hv; exact ⟨trivial, ho _ p hp, trivial⟩, lc [("row", _), ("word", _), ("pairs", _)], .cons rfl (.cons rfl (.cons rfl .nil)), [], ps, rfl, rfl, rfl, rfl⟩
  · rintro X2 hw2 hl2 x rest loc m ⟨pre, post, e1, e2, rfl, rfl⟩
    have hl2 : X2.lv = X'.lv := hl2
    cases post with
    | nil => cases e2
    | cons g post =>
      obtain ⟨rfl, rfl⟩ := List.cons.inj e2
      have hlp : pre.length + 1 ≤ 16 := by rw [e1, List.length_append, List.length_cons] at hlen; lia
      have hrl := row_len pre
      refine ⟨_, TgtB.tupA (xs := ["key", "value"]) rfl rfl rfl, ?_⟩
      repeat walk_at "ws"
      refine WE.methB (id := "list.append") ?_
      repeat walk_at "ws"
      refine ⟨Meth.lst (.cell (mem_at (k := 0) rfl)) PySem.F.slot_list_append PySem.F.type_list_append, ?_⟩
      refine WA.cons ?_
      refine WE.callG (by k_is) (by k_is) ?_
      repeat walk_at "ws"
      refine w_keyobj (by show 1 ≤ X2.lv; lia) ?_
      repeat walk_at "ws"
      refine WL.append (mem_at (k := 0) rfl) (by lia) ?_
      rw [set_at0]
      repeat walk_at "ws"
      refine WE.methB (id := "list.append") ?_
      repeat walk_at "ws"
      refine ⟨Meth.lst (.cell (mem_at (k := 0) rfl)) PySem.F.slot_list_append PySem.F.type_list_append, ?_⟩
      repeat walk_at "ws"
      refine WL.append (mem_at (k := 0) rfl) (by rw [List.length_append]; simp; lia) ?_
      rw [set_at0]
      repeat walk_at "ws"
      exact ⟨lc [("row", _), ("word", _), ("pairs", _)], .cons rfl (.cons rfl (.cons rfl .nil)), pre ++ [g], post, by rw [e1]; simp, rfl, by rw [rowV_app]; simp [rowV], rfl⟩
  · rintro loc' loc m H ⟨pre, post, e1, e2, rfl, rfl⟩
    have : post = [] := by cases post with | nil => rfl | cons g post => cases e2
    subst this
    rw [List.append_nil] at e1
    subst e1
    refine WX.loc H ?_
    have h0 : ps[0]? = some a := by rw [← List.head?_eq_getElem?]; exact ha
    have hne : ps ≠ [] := fun e => by rw [e] at ha; cases ha
    have hn : ps[ps.length - 1]? = some b := by rw [← List.getLast?_eq_getElem?]; exact hb
    have hpos : 0 < ps.length := List.length_pos_iff.mpr hne
    repeat walk_at "ws"
    refine WE.dct (fun X2 hw2 hl2 => ?_)
    have hl2 : X2.lv = X'.lv := hl2
    refine WD.cons ?_
    repeat walk_at "ws"
    refine ⟨_, rfl, ?_⟩
    refine WE.lst ?_
    refine WA.cons ?_
    refine WE.callG (by k_is) (by k_is) ?_
    repeat walk_at "ws"
    refine W2.item_l (v := pairV a) .tree (by decide) (by decide) (pairs_get h0) ?_
    repeat walk_at "ws"
    refine W2.item_t (j := 0) (v := .int a.1) (by decide) (by decide) rfl rfl ?_
    repeat walk_at "ws"
    refine w_keyobj (by show 1 ≤ X2.lv; lia) ?_
    refine WA.cons ?_
    refine WE.callG (by k_is) (by k_is) ?_
    repeat walk_at "ws"
    refine W2.item_ln (j := ps.length - 1) (v := pairV b) .tree (by decide) (by decide) (by simp [seqIndex?]; lia) (pairs_get hn) ?_
    repeat walk_at "ws"
    refine W2.item_t (j := 0) (v := .int b.1) (by decide) (by decide) rfl rfl ?_
    repeat walk_at "ws"
    refine w_keyobj (by show 1 ≤ X2.lv; lia) ?_
    repeat walk_at "ws"
    refine ⟨Nat.le_of_ble_eq_true rfl, ?_⟩
    refine WD.cons ?_
    repeat walk_at "ws"
    refine ⟨_, rfl, ?_⟩
    repeat walk_at "ws"
    refine WD.nil ?_
    refine out_frz (v' := .dct (leafV a.1 b.1 ps)) ?_ hm h
    refine .dctT (.cons (.same ⟨trivial, trivial, trivial⟩) (.cons ?_ .nil))
    exact .lst (Nat.le_refl _) (mem_at (k := 0) rfl) (FrzL.same (oldL_row (ho _)))
theorem w_asroot {a b : Int} {ps : List (Int × V)} (hl : 1 ≤ c.X.lv) (ho : ∀ n, ∀ p ∈ ps, old n p.2) (h : P (.dct (lc [("Nums", .lst (rowV ps))])) σ.mem) : WL c (callV (.ref 443)) [.dct (leafV a b ps)] σ P := by
  refine WR.no (WR.defC (lc [("node", .dct (leafV a b ps))]) [("node", some (.dct (leafV a b ps)))] [] (by lia) (by k_is) (by k_is) (hb1 fun _ _ => BindsTo.of_eq rfl) rfl (by decide) rfl hs_nil (hc_cons rfl hc_nil) (fun X' hw hlv hm hv hf => ?_) rfl rfl rfl)
  repeat walk_at "ws"
  refine WE.dcomp1 (i := σ.mem.length + 0) (a := .lst [.int a, .int b]) (b := .lst (rowV ps)) (d' := "Nums") (ks := leafV a b ps) rfl (by decide) rfl (mem_at (k := 0) rfl) rfl rfl rfl rfl (.tail _ (.tail _ (.head _))) rfl rfl rfl (names_free rfl) (names_cell rfl) rfl (names_local rfl) ?_
  exact out_same (by exact ⟨oldL_row (ho _), trivial⟩) hm h
end
theorem set_left {m l : List M} {k : Nat} {x : M} (h : k < m.length) : (m ++ l).set k x = m.set k x ++ l := List.set_append_left _ _ h
theorem rng1_src {n : Nat} (h : n ≤ 1000) : ∃ items, Src (.rng 1 (n : Int) 1) items ∧ ∀ x ∈ items, ∃ i : Nat, x = V.int i ∧ 1 ≤ i ∧ i < n := by
  have hs : Builtin.Range.rangeSize 1 (n : Int) 1 = ((n - 1 : Nat) : Int) := by
    unfold Builtin.Range.rangeSize
    first | (simp; lia) | (split <;> lia) | lia
  refine ⟨_, .rng (small_one (by lia) (by lia) (by lia) (by lia)) hs, fun x hx => ?_⟩
  refine oEA (List.mem_map.mp hx) fun i hi e92 => ?_
  subst e92
  have := List.mem_range.mp hi
  exact ⟨1 + i, by congr 1; lia, by lia, by lia⟩
theorem code_447 (w : World) : codeHdIn (wrt.heap_1 w.params) 447 445 = true := by
  have e : ∃ o, (wrt.heap_1 w.params).lookup 447 = some o ∧ codeHdIn [(447, o)] 447 445 = true := ⟨_, by k_is, by rfl⟩
  refine oEA e fun o h1 h2 => ?_
  unfold codeHdIn at h2 ⊢
  rw [h1]
  exact h2
section
variable {c : Cx} {σ : St} {P : V → List M → Prop} {PR : List M → Prop} {v : V}
theorem w_tree {ps : List (Int × V)} {j : Nat} (hl : 5 ≤ c.X.lv) (hne : ps ≠ []) (hlen : ps.length ≤ 16) (hup : ps.Pairwise fun a b => a.1 < b.1) (ho : ∀ n, ∀ p ∈ ps, old n p.2) (hj : σ.mem[j]? = some (.tab j 445 [])) (h : ∀ l, P (.dct (lc [("Nums", .lst (rowV ps))])) (σ.mem.set j (.tab j 445 l))) :
    WL c (callV (.ref 448)) [.lst (ps.map pairV), .str "Nums", .int 16] σ P := by
  have hjl := get_lt hj
  refine WR.no (WR.defCT (lc [("pairs", .lst (ps.map pairV)), ("word", .str "Nums"), ("width", .int 16)]) [("word", some (.str "Nums"))] (lc [("pairs", .lst (ps.map pairV)), ("width", .int 16)]) (by lia) (by k_is) (by k_is) (hb3 fun _ _ _ _ => BindsTo.of_eq rfl) rfl (by decide) rfl (hs_cons rfl (hs_cons rfl hs_nil)) (hc_cons rfl hc_nil) (fun X' hw hlv hm hv hf hcc => ?_) rfl rfl rfl)
  repeat walk_at "ws"
  refine WE.sortedK (by k_is) (by show 1 ≤ X'.lv; lia) (by simp) ?_ (fun _ _ _ _ _ _ => rfl) rfl rfl (by decide) rfl rfl rfl
  repeat walk_at "ws"
  refine ⟨ps.map fun p => (p.1, [p.2]), by unfold pairsV; rw [List.map_map]; rfl, by rw [List.length_map]; lia, List.pairwise_map.mpr hup, ?_⟩
  refine WE.lam (j := j) (l := []) hf (mem_old hj) hcc (fun ok => codeHd_of_K ok.kin (code_447 _)) (by simp) (fun y hy hyf => by rw [List.mem_singleton.mp hy] at hyf; cases hyf) (fun q => ⟨⟨_, _, rfl⟩, ?_⟩)
  try dsimp only
  rw [set_left hjl]
  generalize hM : σ.mem.set j (.tab j 445 _) = m1 at *
  have hm1 : m1.length = σ.mem.length := by rw [← hM, List.length_set]
  have hmm : ∀ x ∈ m1, oldM m1.length x := fun x hx => by
    rw [hm1]
    rw [← hM] at hx
    rcases List.mem_or_eq_of_mem_set hx with hx | rfl
    · exact hm x hx
    · exact hjl
  have fin : ∀ (lo : List (Str × V)), OutR σ.mem.length P (fun _ => False) (.ret (.dct (lc [("Nums", .lst (rowV ps))]))) ⟨lo, m1 ++ [M.cel (some (.str "Nums"))]⟩ := fun lo => by
    rw [← hm1]
    exact out_same (by exact ⟨oldL_row (ho _), trivial⟩) hmm (by rw [← hM]; exact h _)
  have hpos : 0 < ps.length := List.length_pos_iff.mpr hne
  repeat walk_at "ws"
  refine W0.forL (fun items loc m => m = m1 ++ [M.cel (some (.str "Nums"))] ∧ (∀ x ∈ items, ∃ i : Nat, x = V.int i ∧ 1 ≤ i ∧ i < ps.length) ∧ loc = lc [("rows", .lst (ps.map pairV)), ("width", .int 16)]) ?_ ?_ ?_
  · refine WE.callT (by k_is) rfl (by decide) ?_
    repeat walk_at "ws"
    refine WE.callB (by k_is) rfl (by decide) ?_
    repeat walk_at "ws"
    refine WL.len .tree (by rw [List.length_map]; lia) ?_
    rw [List.length_map]
    repeat walk_at "ws"
    refine WL.range2 ?_
    refine oEA (rng1_src (n := ps.length) (by lia)) fun items S hI => ?_
    exact ⟨items, S, oldL_leaf fun v hv => by obtain ⟨i, rfl, _⟩ := hI v hv; exact trivial, lc [("rows", _), ("width", _)], .cons rfl (.cons rfl .nil), rfl, hI, rfl⟩
  · rintro X2 hw2 hl2 x rest loc m ⟨rfl, hI, rfl⟩
    refine oEAA (hI x (.head _)) fun i e91 i1 i2 => ?_
    subst e91
    obtain ⟨pa, hpa⟩ : ∃ pa, ps[i - 1]? = some pa := ⟨ps[i - 1], List.getElem?_eq_getElem (by lia)⟩
    obtain ⟨pb, hpb⟩ : ∃ pb, ps[i]? = some pb := ⟨ps[i], List.getElem?_eq_getElem (by lia)⟩
    have hlt : pa.1 < pb.1 := by
      refine oE (List.getElem?_eq_some_iff.mp hpa) fun ha1 ha2 => ?_
      refine oE (List.getElem?_eq_some_iff.mp hpb) fun hb1 hb2 => ?_
      have := List.pairwise_iff_getElem.mp hup (i - 1) i ha1 hb1 (by lia)
      rw [ha2, hb2] at this
      exact this
    refine ⟨_, .name rfl, ?_⟩
    repeat walk_at "ws"
    refine W2.item_l (v := pairV pa) .tree (by lia) (by lia) (pairs_get (by rw [show ((i : Int) - 1).toNat = i - 1 by lia]; exact hpa)) ?_
    repeat walk_at "ws"
    refine W2.item_t (j := 0) (v := .int pa.1) (by decide) (by decide) rfl rfl ?_
    repeat walk_at "ws"
    refine W2.item_l (v := pairV pb) .tree (by lia) (by lia) (pairs_get (by rw [show (i : Int).toNat = i by lia]; exact hpb)) ?_
    repeat walk_at "ws"
    refine W2.item_t (j := 0) (v := .int pb.1) (by decide) (by decide) rfl rfl ?_
    repeat walk_at "ws"
    rw [show (pa.1 == pb.1) = false by simp; lia]
    repeat walk_at "ws"
    exact ⟨lc [("rows", _), ("width", _)], .cons rfl (.cons rfl .nil), rfl, fun y hy => hI y (.tail _ hy), rfl⟩
  · rintro loc' loc m H ⟨rfl, hI, rfl⟩
    refine WX.loc H ?_
    repeat walk_at "ws"
    refine WE.callB (by k_is) rfl (by decide) ?_
    repeat walk_at "ws"
    refine WL.len .tree (by rw [List.length_map]; lia) ?_
    rw [List.length_map]
    repeat walk_at "ws"
    rw [show ((ps.length : Int) == 0) = false by simp; lia]
    repeat walk_at "ws"
    obtain ⟨pa, hpa⟩ : ∃ pa, ps.head? = some pa := by cases ps with | nil => exact absurd rfl hne | cons p r => exact ⟨p, rfl⟩
    obtain ⟨pb, hpb⟩ : ∃ pb, ps.getLast? = some pb := by rw [List.getLast?_eq_getElem?]; exact ⟨ps[ps.length - 1], List.getElem?_eq_getElem (by lia)⟩
    refine W0.lmapA [ps] (fun q => .lst (q.map pairV)) (fun q => .dct (leafV pa.1 pb.1 q)) (fun _ => true) (m1 ++ [M.cel (some (.str "Nums"))]) ?_ ?_ ?_ (hsw := ?_)
    · refine WE.callG (by k_is) (by k_is) ?_
      repeat walk_at "ws"
      refine w_even (by show 1 ≤ X'.lv; lia) (by rw [List.length_map]; lia) (by rw [List.length_map]; exact hlen) ?_
      exact ⟨.lst, Nat.le_of_ble_eq_true rfl, rfl⟩
    · intro q hq
      rw [List.mem_singleton.mp hq]
      refine ⟨_, .name rfl, fun X2 hw2 hl2 => ⟨rfl, rfl, fun _ => ?_⟩⟩
      have hl2 : X2.lv = X'.lv := hl2
      refine WE.callG (by k_is) (by k_is) ?_
      refine WA.cons ?_
      rw [← hm1]
      repeat walk_at "ws"
      refine w_leaf (by show 3 ≤ X2.lv; lia) hlen hpa hpb ho ?_
      exact ⟨rfl, rfl⟩
    · rw [filter_tt]
      show WX _ _ ⟨("nodes", .lst [.dct (leafV pa.1 pb.1 ps)]) :: _, _⟩ _
      repeat walk_at "ws"
      refine W0.whileL (fun n loc m => m = m1 ++ [M.cel (some (.str "Nums"))] ∧ loc = lc [("nodes", .lst [.dct (leafV pa.1 pb.1 ps)])]) 0 ⟨lc [("nodes", _)], .cons rfl .nil, rfl, rfl⟩ ?_
      rintro n loc m ⟨rfl, rfl⟩
      repeat walk_at "ws"
      refine WE.callB (by k_is) rfl (by decide) ?_
      repeat walk_at "ws"
      refine WL.len .tree (Nat.le_of_ble_eq_true rfl) ?_
      repeat walk_at "ws"
      refine WE.callG (by k_is) (by k_is) ?_
      repeat walk_at "ws"
      refine W2.item_l (v := .dct (leafV pa.1 pb.1 ps)) .tree (by decide) (by decide) rfl ?_
      repeat walk_at "ws"
      exact w_asroot (by show 1 ≤ X'.lv; lia) ho (fin _)
    · rintro ⟨⟩ ⟨⟩; rfl
end
section
variable {c : Cx} {σ : St} {P : V → List M → Prop} {i j t r : Nat} {tb : List (Int × V)} {tr : List (Str × V)} {v u : V}
theorem w_longer {times : V} {ks : List (Str × V)} (hl : 1 ≤ c.X.lv) (h : P (.tup [.tup [.int (-1), .int (-1)]]) σ.mem) : WL c (callV (.ref 412)) [.tup [], .dct ks, times] σ P := by
  refine WL.def_ (lc [("way", .tup []), ("value", .dct ks), ("times", times)]) (by lia) (by k_is) (by k_is) (hb3 fun _ _ _ _ => BindsTo.of_eq rfl) rfl (fun X' hw hlv hm hv hf => ?_) (by decide) rfl rfl rfl
  repeat walk_at "ws"
  refine WE.tup ?_
  repeat walk_at "ws"
  refine ⟨by decide, ?_⟩
  repeat walk_at "ws"
  refine WT.plain ?_
  refine WE.callB (by k_is) rfl (by decide) ?_
  repeat walk_at "ws"
  refine WE.glo (by k_is) ?_
  repeat walk_at "ws"
  refine IsIn.kind (w := X'.w) (r := false) (.dct .tree) (by kit_is) _ _ _ rfl ?_
  repeat walk_at "ws"
  refine WE.callB (by k_is) rfl (by decide) ?_
  repeat walk_at "ws"
  refine WL.len_t (by decide) ?_
  refine WE.gloV (t := .int 40) (by k_is) (fun _ _ _ => mk_int) ?_
  repeat walk_at "ws"
  refine WE.tup ?_
  repeat walk_at "ws"
  refine ⟨Nat.le_of_ble_eq_true rfl, ?_⟩
  refine W2.add_tt (by decide) ?_
  exact .inl h
theorem w_treepairs {ks : List (Str × V)} {ps : List (Int × V)} (hl : 8 ≤ c.X.lv) (hlen : ps.length ≤ 1000) (hne : ps ≠ []) (S : ShAt σ.mem i j t r tb tr) (hnk : ks.lookup ("Kids" : Str) = none) (hk : ks.lookup ("Nums" : Str) = some (V.lst (rowV ps))) (ho : ∀ n, oldL n (ps.map pairV)) (h : P (.lst (ps.map pairV)) σ.mem) : WL c (callV (.ref 417)) [.ptr i, .dct ks, .str "Nums"] σ P := by
  refine WR.no (WR.defC (lc [("shelf", .ptr i), ("root", .dct ks), ("word", .str "Nums")]) [("way", none)] (lc [("shelf", .ptr i), ("root", .dct ks), ("word", .str "Nums")]) (by lia) (by k_is) (by k_is) (hb3 fun _ _ _ _ => BindsTo.of_eq rfl) rfl (by decide) rfl (hs_cons rfl (hs_cons rfl (hs_cons rfl hs_nil))) (hc_none hc_nil) (fun X' hw hlv hm hv hf => ?_) rfl rfl rfl)
  repeat walk_at "ws"
  refine WE.lstE ?_
  repeat walk_at "ws"
  refine ⟨by decide, σ.mem.length + 1, σ.mem ++ [M.cel none, M.lst []], by simp, by simp, ?_⟩
  repeat walk_at "ws"
  refine WE.dctE (n := σ.mem.length + 2) (m1 := σ.mem ++ [M.cel none, M.lst [], M.dct []]) (by simp) (by simp) ?_
  repeat walk_at "ws"
  refine WE.lstE ?_
  repeat walk_at "ws"
  refine WE.tup ?_
  repeat walk_at "ws"
  refine WE.tup ?_
  repeat walk_at "ws"
  refine ⟨by decide, ?_⟩
  repeat walk_at "ws"
  refine ⟨Nat.le_of_ble_eq_true rfl, ?_⟩
  repeat walk_at "ws"
  refine ⟨Nat.le_of_ble_eq_true rfl, σ.mem.length + 3, σ.mem ++ [M.cel none, M.lst [], M.dct [], M.lst [.tup [.dct ks, .tup []]]], by simp, by simp, ?_⟩
  repeat walk_at "ws"
  refine W0.whileL (fun n loc m => loc = lc [("found", .ptr (σ.mem.length + 1)), ("times", .ptr (σ.mem.length + 2)), ("line", .ptr (σ.mem.length + 3)), ("shelf", .ptr i), ("word", .str "Nums")] ∧
    ((n = 1 ∧ m = σ.mem ++ [M.cel none, M.lst [], M.dct [], M.lst [.tup [.dct ks, .tup []]]]) ∨ (n = 0 ∧ ∃ w, m = σ.mem ++ [M.cel w, M.lst (ps.map pairV), M.dct [], M.lst []]))) 1 ⟨lc [("found", _), ("times", _), ("line", _), ("shelf", _), ("word", _)], .cons rfl (.cons rfl (.cons rfl (.cons rfl (.cons rfl .nil)))), rfl, .inl ⟨rfl, rfl⟩⟩ ?_
  rintro n loc m ⟨rfl, hm2⟩
  rcases hm2 with ⟨rfl, rfl⟩ | ⟨rfl, w, rfl⟩
  · repeat walk_at "ws"
    refine WE.callB (by k_is) rfl (by decide) ?_
    repeat walk_at "ws"
    refine WL.len (.cell (mem_at (k := 3) rfl)) (Nat.le_of_ble_eq_true rfl) ?_
    repeat walk_at "ws"
    refine W0.unpLC rfl ?_
    refine WE.methB0 (id := "list.pop") ?_
    repeat walk_at "ws"
    refine ⟨Meth.lst (.cell (mem_at (k := 3) rfl)) PySem.F.slot_list_pop PySem.F.type_list_pop, ?_⟩
    refine WL.pop (vs := []) (mem_at (k := 3) rfl) (Nat.le_of_ble_eq_true rfl) ?_
    rw [set_at (k := 3)]
    refine ⟨_, _, rfl, none, mem_at (k := 0) rfl, ?_⟩
    rw [set_at0]
    repeat walk_at "ws"
    refine W0.asgC rfl ?_
    refine WE.callG (by k_is) (by k_is) ?_
    repeat walk_at "ws"
    refine w_longer (by show 1 ≤ X'.lv; lia) ?_
    refine ⟨_, mem_at (k := 0) rfl, ?_⟩
    rw [set_at0]
    repeat walk_at "ws"
    refine WE.callG (by k_is) (by k_is) ?_
    repeat walk_at "ws"
    refine w_nodeof (by show 2 ≤ X'.lv; lia) (ShAt.app S) (.plain (.kind (.dct .tree) (by kit_is))) ?_
    repeat walk_at "ws"
    refine W2.in_d .tree ?_
    rw [hnk]
    repeat walk_at "ws"
    refine WE.methB (id := "list.extend") ?_
    repeat walk_at "ws"
    refine ⟨Meth.lst (.cell (mem_at (k := 1) rfl)) PySem.F.slot_list_extend PySem.F.type_list_extend, ?_⟩
    refine WA.cons ?_
    refine WE.callG (by k_is) (by k_is) ?_
    repeat walk_at "ws"
    refine w_nodepairs (by show 5 ≤ X'.lv; lia) hlen (ShAt.app S) hk ho ?_
    repeat walk_at "ws"
    refine WL.extend (vs := []) (mem_at (k := 1) rfl) .tree (by simpa using hne) (by simp; lia) ?_
    rw [set_at (k := 1)]
    repeat walk_at "ws"
    exact ⟨0, by decide, lc [("found", _), ("times", _), ("line", _), ("shelf", _), ("word", _)], .cons rfl (.cons rfl (.cons rfl (.cons rfl (.cons rfl .nil)))), rfl, .inr ⟨rfl, _, rfl⟩⟩
  · repeat walk_at "ws"
    refine WE.callB (by k_is) rfl (by decide) ?_
    repeat walk_at "ws"
    refine WL.len (.cell (mem_at (k := 3) rfl)) (Nat.le_of_ble_eq_true rfl) ?_
    repeat walk_at "ws"
    exact out_frz (.lst (Nat.le_add_right _ _) (mem_at (k := 1) rfl) (FrzL.same (ho _))) hm h
end
theorem WR.mono {c : Cx} {σ : St} {t : List Value → Sem Value} {vs : List V} {P P' : V → List M → Prop} {PR PR' : List M → Prop} (h : WR c t vs σ P PR) (k : ∀ v m, P v m → P' v m) (kr : ∀ m, PR m → PR' m) : WR c t vs σ P' PR' :=
  fun s fz ml u Q E R hu q qr => h s fz ml u Q E R hu (fun v m fz1 ml1 h1 tk1 u hp x1 R1 i1 => q v m fz1 ml1 h1 tk1 u (k v m hp) x1 R1 i1) fun m fz1 ml1 h1 tk1 u hp x1 R1 => qr m fz1 ml1 h1 tk1 u (kr m hp) x1 R1
theorem TgtC.tupA {sc : Scope} {elts : List Expr} {k : Nat} {p : Pos} {xs : List Str} {ws : List V} (hn : nmsOf elts = some xs) (hx : (xs.all fun x => decide (sc.names.lookup x = some .local)) = true) (hl : ws.length = xs.length) : TgtC sc (.Tuple elts k p) (.tup ws) (xs.zip ws).reverse :=
  .tup hn (fun x hm => of_decide_eq_true (List.all_eq_true.mp hx x hm)) hl
section
variable {c : Cx} {σ : St} {P : V → List M → Prop} {PR : List M → Prop} {i j t r : Nat} {tb : List (Int × V)} {tr : List (Str × V)} {rs : List Rg}
theorem w_readl {good : Prop} {ks : List (Str × V)} {hdk : Rg → List (Str × V)} (hl : 12 ≤ c.X.lv) (hlen : rs.length ≤ 1000) (hne : rs ≠ []) (S : ShAt σ.mem i j t r tb tr) (hroot : tr.lookup ("Root" : Str) = some (V.dct (lc [("PageLabels", .dct ks)]))) (hnk : ks.lookup ("Kids" : Str) = none)
    (hk : ks.lookup ("Nums" : Str) = some (V.lst (rowV (rs.map fun g => (g.first, V.dct (hdk g)))))) (ho : ∀ n g, g ∈ rs → oldF n (hdk g)) (hH : ∀ m, ∀ g ∈ rs, HeadIs c.X.w (σ.mem ++ m) tb (hdk g) g.style g.pre g.start ∧ g.style ∈ styleList ∧ g.pre ∈ prefList)
    (hck : ∀ (c' : Cx) (σ' : St), c'.X.w = c.X.w → 8 ≤ c'.X.lv → WR c' (callV (.ref 553)) [.lst (rs.map rgV)] σ' (fun v m => good ∧ m = σ'.mem) (fun m => ¬ good ∧ m = σ'.mem))
    (h : good → P (.lst (rs.map rgV)) σ.mem) (hr : ¬ good → ∀ l, PR (σ.mem ++ l)) : WR c (callV (.ref 602)) [.ptr i] σ P PR := by
  refine WR.defC (lc [("shelf", .ptr i)]) [("shelf", some (.ptr i))] [] (by lia) (by k_is) (by k_is) (hb1 fun _ _ => BindsTo.of_eq rfl) rfl (by decide) rfl hs_nil (hc_cons rfl hc_nil) (fun X' hw hlv hm hv hf => ?_) rfl rfl rfl
  repeat walk_at "ws"
  refine WE.methK (f := .ref 313) (by k_is) ?_
  repeat walk_at "ws"
  refine ⟨Meth.ins (ShAt.ins (ShAt.app S)) rfl (by k_is) (by k_is) (by k_is), ?_⟩
  refine WA.cons ?_
  refine WE.methK0 (f := .ref 362) (by k_is) ?_
  repeat walk_at "ws"
  refine ⟨Meth.ins (ShAt.ins (ShAt.app S)) rfl (by k_is) (by k_is) (by k_is), ?_⟩
  refine w_root (by show 3 ≤ X'.lv; lia) (ShAt.app S) hroot ?_
  repeat walk_at "ws"
  refine w_get (u := .dct ks) (by show 2 ≤ X'.lv; lia) (ShAt.app S) .tree (.plain (.kind (.dct .tree) (by kit_is))) ?_
  repeat walk_at "ws"
  have hol : ∀ n, oldL n ((rs.map fun g => (g.first, V.dct (hdk g))).map pairV) := fun n => oldL_leaf fun v hv => by
    rw [List.map_map] at hv
    refine oEA (List.mem_map.mp hv) fun g hg e92 => ?_
    subst e92
    simp [pairV, old, oldL]
    exact ho n g hg
  refine W0.lmapA rs (fun g => pairV (g.first, .dct (hdk g))) rgV (fun _ => true) (σ.mem ++ [M.cel (some (.ptr i))]) ?_ ?_ ?_ (hsw := ?_)
  · refine WE.callG (by k_is) (by k_is) ?_
    repeat walk_at "ws"
    refine w_treepairs (by show 8 ≤ X'.lv; lia) (by rw [List.length_map]; exact hlen) (by simpa using hne) (ShAt.app S) hnk hk hol ?_
    exact ⟨by rw [List.map_map]; exact .lst, by lia, rfl⟩
  · intro g hg
    refine oAA (hH [M.cel (some (.ptr i))] g hg) fun H o1 o2 => ?_
    refine ⟨_, TgtC.tupA (xs := ["first", "value"]) rfl rfl rfl, fun X2 hw2 hl2 => ⟨rfl, rfl, fun _ => ?_⟩⟩
    have hl2 : X2.lv = X'.lv := hl2
    have hw2 : X2.w = c.X.w := hw2.trans hw
    refine WE.callG (by k_is) (by k_is) ?_
    repeat walk_at "ws"
    refine w_rrange (s := g.style) (p := g.pre) (b := g.start) (by show 5 ≤ X2.lv; lia) (ShAt.app S) (by show HeadIs X2.w _ _ _ _ _ _; rw [hw2]; exact H) o1 o2 ?_
    exact ⟨rfl, rfl⟩
  · rw [filter_tt]
    refine WX.cons ?_
    refine W0.callR (by k_is) (by k_is) ?_
    repeat walk_at "ws"
    refine (hck _ _ hw (by show 8 ≤ X'.lv; lia)).mono (fun v m ⟨hg, hm2⟩ => ?_) (fun m ⟨hg, hm2⟩ => ?_)
    · rw [hm2]
      repeat walk_at "ws"
      exact out_same oldL_rgs hm (h hg)
    · rw [hm2]
      exact hr hg _
  · rintro ⟨⟩ ⟨⟩; rfl
end
noncomputable def wpair (g : Rg) : Int × V := (g.first, .dct (ldV g.style g.pre g.start))
theorem old_ld {n : Nat} {s p : Str} {b : Int} : oldF n (ldV s p b) := by
  unfold ldV
  split <;> split <;> split <;> simp [oldF, old, lc, nameV, strV]
theorem UpG.pw : ∀ {rs : List Rg}, UpG rs → (rs.map wpair).Pairwise fun a b => a.1 < b.1
  | [], _ => by simp
  | g :: rs, h => by
    rw [List.map_cons, List.pairwise_cons]
    exact ⟨fun a ha => by obtain ⟨g', hg', rfl⟩ := List.mem_map.mp ha; exact h.1 g' hg', UpG.pw h.2⟩
section
variable {c : Cx} {σ : St} {P : V → List M → Prop} {PR : List M → Prop} {rs : List Rg}
theorem w_writel {j : Nat} (hl : 10 ≤ c.X.lv) (hlen : rs.length ≤ 16) (hne : rs ≠ []) (hS : ∀ g ∈ rs, g.style ∈ styleList ∧ g.pre ∈ prefList ∧ 0 ≤ g.first) (hU : UpG rs) (hj : σ.mem[j]? = some (.tab j 445 []))
    (h : Good rs → ∀ l, P (.dct (lc [("Nums", .lst (rowV (rs.map wpair)))])) (σ.mem.set j (.tab j 445 l))) (hr : ¬ Good rs → PR σ.mem) : WR c (callV (.ref 590)) [.lst (rs.map rgV)] σ P PR := by
  refine WR.def_ (lc [("ranges", .lst (rs.map rgV)), ("width", .int 16)]) (by lia) (by k_is) (by k_is) (fun s fz ml us X hu => ?_) rfl (fun X' hw hlv hm hv hf => ?_) (by decide) rfl rfl rfl
  · obtain ⟨u1, _, rfl, i1, hu⟩ := l_cons hu
    obtain rfl := l_nil hu
    refine ⟨_, BindsTo.of_defaults (T := 585) rfl (X _ _ (by k_is)) rfl rfl rfl, ?_⟩
    refine ⟨_, _, rfl, i1, ?_⟩
    refine ⟨_, _, rfl, mk_int (c := c), ?_⟩
    rfl
  refine WX.cons ?_
  refine W0.callR (by k_is) (by k_is) ?_
  repeat walk_at "ws"
  refine w_checkR (by show 4 ≤ X'.lv; lia) (fun g hg => ⟨(hS g hg).1, (hS g hg).2.2⟩) hU (fun hG => ?_) hr
  try dsimp only
  repeat walk_at "ws"
  refine W0.lmapA rs rgV (fun g => pairV (wpair g)) (fun _ => true) σ.mem ?_ ?_ ?_ (hsw := ?_)
  · repeat walk_at "ws"
    exact ⟨.lst, by lia, rfl⟩
  · intro g hg
    refine ⟨_, TgtC.tupA (xs := ["first", "style", "prefix", "start"]) rfl rfl rfl, fun X2 hw2 hl2 => ⟨rfl, rfl, fun _ => ?_⟩⟩
    have hl2 : X2.lv = X'.lv := hl2
    refine WE.tup ?_
    repeat walk_at "ws"
    refine WE.callG (by k_is) (by k_is) ?_
    repeat walk_at "ws"
    refine w_ldict (by show 4 ≤ X2.lv; lia) (hS g hg).1 (hS g hg).2.1 ?_
    repeat walk_at "ws"
    exact ⟨Nat.le_of_ble_eq_true rfl, rfl, rfl⟩
  · rw [filter_tt, show (rs.map fun g => pairV (wpair g)) = (rs.map wpair).map pairV by rw [List.map_map]; rfl]
    repeat walk_at "ws"
    refine WE.callG (by k_is) (by k_is) ?_
    repeat walk_at "ws"
    refine w_tree (j := j) (by show 5 ≤ X'.lv; lia) (by simpa using hne) (by rw [List.length_map]; exact hlen) hU.pw (fun n p hp => by obtain ⟨g, hg, rfl⟩ := List.mem_map.mp hp; simp [wpair, old]; exact old_ld) hj fun l => ?_
    exact .inl (h hG l)
  · rintro ⟨⟩ ⟨⟩; rfl
end
structure Bowl where
  cells : List Int
  held : Int
  later : Int
noncomputable def Bowl.open_ (b : Bowl) : Bowl := if b.held < 0 then (match b.cells with | x :: r => ⟨r, x, b.later⟩ | [] => b) else b
noncomputable def Bowl.bean (b : Bowl) (most : Int) : Int := if b.open_.held < 0 then ((b.open_.later * 45991 + 3) % 2147483543) / 64 % most else b.open_.held % most
noncomputable def Bowl.next (b : Bowl) (most : Int) : Bowl := if b.open_.held < 0 then ⟨b.open_.cells, b.open_.held, (b.open_.later * 45991 + 3) % 2147483543⟩ else ⟨b.open_.cells, if most ≤ b.open_.held then b.open_.held / most else -1, b.open_.later⟩
noncomputable def bowlD (k : Nat) (b : Bowl) : M := .dct (lc [("cells", .ptr k), ("held", .int b.held), ("later", .int b.later)])
noncomputable def bowlL (b : Bowl) : M := .lst (b.cells.map V.int)
theorem plain_ints : ∀ is : List Int, plainL (is.map V.int) = true
  | [] => rfl
  | g :: rs => Bool.and_eq_true_iff.mpr ⟨rfl, plain_ints rs⟩
theorem lay_ints : ∀ {is : List Int}, PyData.canLayAll0 (toDL (is.map V.int)) = true
  | [] => by simp [toDL, PyData.canLayAll0]
  | g :: rs => by simp [toDL, toD, PyData.canLayAll0, PyData.canLay0, lay_ints (is := rs)]
theorem dep_ints : ∀ is : List Int, PyData.depthAll (toDL (is.map V.int)) ≤ 5
  | [] => by simp [toDL, PyData.depthAll]
  | g :: rs => by
    have := dep_ints rs
    simp [toDL, toD, PyData.depthAll, PyData.depth]
    lia
theorem shaped_ints {is : List Int} : SeqAt.shaped (.list (toDL (is.map V.int))) = true := by
  have h1 := dep_ints is
  have h2 : PyData.depth (.list (toDL (is.map V.int))) ≤ 64 := by simp only [PyData.depth]; lia
  show (PyData.canLay0 (.list (toDL (is.map V.int))) && decide (PyData.depth (.list (toDL (is.map V.int))) ≤ 64)) = true
  rw [Bool.and_eq_true]
  exact ⟨by simp only [PyData.canLay0]; exact lay_ints, decide_eq_true h2⟩
theorem set_get {m : List M} {k : Nat} {x y : M} (h : m[k]? = some y) : (m.set k x)[k]? = some x := by
  rw [List.getElem?_set, if_pos rfl, if_pos (get_lt h)]
theorem set_ne {m : List M} {k q : Nat} {x y : M} (hkq : k ≠ q) (h : m[q]? = some y) : (m.set k x)[q]? = some y := by
  rw [List.getElem?_set_ne hkq]; exact h
theorem set_same {m : List M} {k : Nat} {x : M} (h : m[k]? = some x) : m.set k x = m := by
  apply List.ext_getElem?
  intro j
  rw [List.getElem?_set]
  split
  · rename_i e
    subst e
    rw [if_pos (get_lt h), h]
  · rfl
theorem set_set' {m : List M} {k : Nat} {x y : M} : (m.set k x).set k y = m.set k y := List.set_set ..
theorem bits_small {x : Int} {n : Nat} (h : x.natAbs < 2 ^ n) : Builtin.Int.intBits x ≤ n := by
  unfold Builtin.Int.intBits
  split
  · exact Nat.zero_le _
  · rename_i q
    exact (Nat.log2_lt (by simpa using q)).mpr h
section
variable {c : Cx} {σ : St} {P : V → List M → Prop}
theorem w_bean {k q : Nat} {b : Bowl} {most : Int} (hl : 1 ≤ c.X.lv) (hkq : k ≠ q) (h0 : 0 < most) (h1 : most ≤ 100) (hk : σ.mem[k]? = some (bowlL b)) (hq : σ.mem[q]? = some (bowlD k b)) (hlen : b.cells.length ≤ 1000) (hla : b.later.natAbs < 2 ^ 62)
    (h : P (.int (b.bean most)) ((σ.mem.set k (bowlL (b.next most))).set q (bowlD k (b.next most)))) : WL c (callV (.ref 621)) [.ptr q, .int most] σ P := by
  refine WL.def_ (lc [("bowl", .ptr q), ("most", .int most)]) (by lia) (by k_is) (by k_is) (hb2 fun _ _ _ => BindsTo.of_eq rfl) rfl (fun X' hw hlv hm hv hf => ?_) (by decide) rfl rfl rfl
  have hkq' : q ≠ k := fun e => hkq e.symm
  refine WX.mid (σ1 := ⟨lc [("most", .int most), ("bowl", .ptr q)], (σ.mem.set k (bowlL b.open_)).set q (bowlD k b.open_)⟩) ?_ ?_
  · repeat walk_at "ws"
    refine W2.item_d (.cell hq) rfl ?_
    repeat walk_at "ws"
    by_cases hh : b.held < 0
    · rw [show decide (b.held < 0) = true from decide_eq_true hh]
      repeat walk_at "ws"
      refine W2.item_d (.cell hq) rfl ?_
      refine WE.lst ?_
      repeat walk_at "ws"
      refine ⟨Nat.le_of_ble_eq_true rfl, ?_⟩
      cases hc : b.cells with
      | nil =>
        have hk0 : σ.mem[k]? = some (.lst []) := by rw [hk]; unfold bowlL; rw [hc]; rfl
        refine W2.ne_l (vs := []) (.cell hk0) .tree rfl rfl (by decide) (by decide) (by decide) ?_
        repeat walk_at "ws"
        rw [show b.open_ = b by unfold Bowl.open_; rw [if_pos hh, hc], set_same hk, set_same hq]
        exact ⟨rfl, rfl⟩
      | cons x r =>
        have hk0 : σ.mem[k]? = some (.lst (V.int x :: r.map V.int)) := by rw [hk]; unfold bowlL; rw [hc]; rfl
        refine W2.ne_l (vs := V.int x :: r.map V.int) (.cell hk0) .tree (plain_ints (x :: r)) rfl (shaped_ints (is := x :: r)) (by decide) (by simp [toDL, SeqAt.noMix, SeqAt.noMixAll]) ?_
        rw [show Spec.same (PyData.list (toDL (V.int x :: r.map V.int))) (.list (toDL [])) = false by simp [toDL, Spec.same, Spec.sameAll]]
        repeat walk_at "ws"
        refine WE.methB (id := "list.pop") ?_
        repeat walk_at "ws"
        refine W2.item_d (.cell hq) rfl ?_
        refine ⟨Meth.lst (.cell hk0) PySem.F.slot_list_pop PySem.F.type_list_pop, ?_⟩
        repeat walk_at "ws"
        refine WL.pop0 hk0 (by rw [hc] at hlen; simp at hlen ⊢; lia) ?_
        repeat walk_at "ws"
        refine WS.dct (set_ne hkq hq) (Nat.le_of_ble_eq_true rfl) ?_
        repeat walk_at "ws"
        rw [show b.open_ = ⟨r, x, b.later⟩ by unfold Bowl.open_; rw [if_pos hh, hc]]
        exact ⟨rfl, rfl⟩
    · rw [show decide (b.held < 0) = false from decide_eq_false hh]
      repeat walk_at "ws"
      rw [show b.open_ = b by unfold Bowl.open_; rw [if_neg hh], set_same hk, set_same hq]
      exact ⟨rfl, rfl⟩
  · have hlo : b.open_.later = b.later := by unfold Bowl.open_; split <;> (try split) <;> rfl
    unfold Bowl.bean Bowl.next at h
    generalize b.open_ = o at *
    have hqo : ((σ.mem.set k (bowlL o)).set q (bowlD k o))[q]? = some (bowlD k o) := set_get (set_ne hkq hq)
    repeat walk_at "ws"
    refine W2.item_d (.cell hqo) rfl ?_
    repeat walk_at "ws"
    by_cases hh : o.held < 0
    · rw [if_pos hh, if_pos hh] at h
      rw [show decide (o.held < 0) = true from decide_eq_true hh]
      repeat walk_at "ws"
      refine W2.item_d (.cell hqo) rfl ?_
      repeat walk_at "ws"
      refine W2.mul_ii (IntMulOk.of_le (m := 62) (n := 62) (bits_small (by rw [hlo]; exact hla)) (by decide) (by decide)) ?_
      repeat walk_at "ws"
      refine W2.mod_ii (by decide) ?_
      repeat walk_at "ws"
      refine WS.dct hqo (Nat.le_of_ble_eq_true rfl) ?_
      repeat walk_at "ws"
      refine W2.item_d (.cell (set_get hqo)) rfl ?_
      repeat walk_at "ws"
      refine W2.div_ii (by decide) (by decide) ?_
      repeat walk_at "ws"
      refine W2.mod_ii h0 ?_
      left
      rw [set_set']
      rw [Int.fmod_eq_emod_of_nonneg _ (by lia), Int.fdiv_eq_ediv_of_nonneg _ (by lia), Int.fmod_eq_emod_of_nonneg _ (by lia)]
      exact h
    · rw [if_neg hh, if_neg hh] at h
      rw [show decide (o.held < 0) = false from decide_eq_false hh]
      repeat walk_at "ws"
      refine W2.item_d (.cell hqo) rfl ?_
      repeat walk_at "ws"
      refine W2.mod_ii h0 ?_
      repeat walk_at "ws"
      refine W2.item_d (.cell hqo) rfl ?_
      repeat walk_at "ws"
      by_cases h2 : most ≤ o.held
      · rw [if_pos h2] at h
        rw [show decide (most ≤ o.held) = true from decide_eq_true h2]
        repeat walk_at "ws"
        refine W2.item_d (.cell hqo) rfl ?_
        repeat walk_at "ws"
        refine W2.div_ii h0 (by have : most.natAbs.log2 < 7 := (Nat.log2_lt (by lia)).mpr (by lia); lia) ?_
        repeat walk_at "ws"
        refine WS.dct hqo (Nat.le_of_ble_eq_true rfl) ?_
        repeat walk_at "ws"
        left
        rw [set_set', Int.fmod_eq_emod_of_nonneg _ (by lia), Int.fdiv_eq_ediv_of_nonneg _ (by lia)]
        exact h
      · rw [if_neg h2] at h
        rw [show decide (most ≤ o.held) = false from decide_eq_false h2]
        repeat walk_at "ws"
        refine WS.dct hqo (Nat.le_of_ble_eq_true rfl) ?_
        repeat walk_at "ws"
        left
        rw [set_set', Int.fmod_eq_emod_of_nonneg _ (by lia)]
        exact h
end
section
variable {c : Cx} {σ : St} {P : V → List M → Prop}
noncomputable def startsL : List Int := [1000001, 1000000, 999999, 1, 0, 10 ^ 12, 10 ^ 30, 999, 27, -5, 999996, 4000]
theorem w_starts (hl : 1 ≤ c.X.lv) (h : P (.tup (startsL.map V.int)) σ.mem) : WL c (callV (.ref 609)) [] σ P := by
  refine WL.def_ (lc []) (by lia) (by k_is) (by k_is) (fun s fz ml us X hu => ?_) rfl (fun X' hw hlv hm hv hf => ?_) (by decide) rfl rfl rfl
  · obtain rfl := l_nil hu
    exact ⟨[], BindsTo.of_eq rfl, by rfl⟩
  repeat walk_at "ws"
  refine WE.tup ?_
  repeat walk_at "ws"
  refine W2.pow_ii (by decide) (by decide) (by decide) ?_
  repeat walk_at "ws"
  refine W2.pow_ii (by decide) (by decide) (by decide) ?_
  repeat walk_at "ws"
  refine ⟨Nat.le_of_ble_eq_true rfl, ?_⟩
  exact .inl h
end
section
variable {c : Cx} {σ : St} {P : V → List M → Prop} {i j t r : Nat} {tb : List (Int × V)} {tr : List (Str × V)} {v u a : V} {x : Str}
noncomputable def tabF : Nat → List Int → List (Int × V)
  | _, [] => []
  | n, b :: vs => (((n + 1 : Nat) : Int), V.tup [.int 0, .int b]) :: tabF (n + 1) vs
noncomputable def tabV (vs : List Int) : List (Int × V) := tabF 0 vs
theorem tabF_look : ∀ {vs : List Int} {n k : Nat}, (tabF n vs).lookup ((n + k + 1 : Nat) : Int) = (vs[k]?).map fun b => V.tup [.int 0, .int b]
  | [], n, k => rfl
  | b :: vs, n, 0 => by
    show List.lookup _ ((((n + 1 : Nat) : Int), V.tup [.int 0, .int b]) :: tabF (n + 1) vs) = _
    rw [List.lookup_cons, show (((n + 0 + 1 : Nat) : Int) == ((n + 1 : Nat) : Int)) = true by simp]
    rfl
  | b :: vs, n, k + 1 => by
    show List.lookup _ ((((n + 1 : Nat) : Int), V.tup [.int 0, .int b]) :: tabF (n + 1) vs) = _
    rw [List.lookup_cons, show (((n + (k + 1) + 1 : Nat) : Int) == ((n + 1 : Nat) : Int)) = false by simp; lia, show n + (k + 1) + 1 = (n + 1) + k + 1 by lia]
    exact tabF_look
theorem tab_look {vs : List Int} (n : Nat) : (tabV vs).lookup ((n + 1 : Nat) : Int) = (vs[n]?).map fun b => V.tup [.int 0, .int b] := by
  have := tabF_look (vs := vs) (n := 0) (k := n)
  rw [Nat.zero_add] at this
  exact this
theorem tabF_snoc {b : Int} : ∀ {vs : List Int} {n : Nat}, tabF n (vs ++ [b]) = tabF n vs ++ [(((n + vs.length + 1 : Nat) : Int), V.tup [.int 0, .int b])]
  | [], n => rfl
  | a :: vs, n => by
    show _ :: tabF (n + 1) (vs ++ [b]) = _ :: (tabF (n + 1) vs ++ _)
    rw [tabF_snoc, List.length_cons, show n + 1 + vs.length + 1 = n + (vs.length + 1) + 1 by lia]
theorem tabF_old {m : Nat} : ∀ {vs : List Int} {n : Nat}, oldI m (tabF n vs)
  | [], n => trivial
  | a :: vs, n => ⟨⟨trivial, trivial, trivial⟩, tabF_old⟩
theorem tabF_len : ∀ {vs : List Int} {n : Nat}, (tabF n vs).length = vs.length
  | [], n => rfl
  | a :: vs, n => by show (tabF (n + 1) vs).length + 1 = vs.length + 1; rw [tabF_len]
theorem w_add {vs : List Int} {b : Int} (hl : 5 ≤ c.X.lv) (hlen : vs.length ≤ 1000) (S : ShAt σ.mem i j t r (tabV vs) tr) (h : P (refV ((vs.length + 1 : Nat) : Int)) (σ.mem.set t (.dci (tabV (vs ++ [b]))))) : WL c (callV (.ref 341)) [.ptr i, .int b] σ P := by
  refine WL.def_ (lc [("self", .ptr i), ("value", .int b)]) (by lia) (by k_is) (by k_is) (hb2 fun _ _ _ => BindsTo.of_eq rfl) rfl (fun X' hw hlv hm hv hf => ?_) (by decide) rfl rfl rfl
  repeat walk_at "ws"
  refine W0.whileL (fun n loc m => ∃ k : Nat, k ≤ vs.length ∧ n = vs.length - k ∧ m = σ.mem ∧ loc = lc [("number", .int ((k + 1 : Nat) : Int)), ("self", .ptr i), ("value", .int b)]) vs.length ⟨lc [("number", _), ("self", _), ("value", _)], .cons rfl (.cons rfl (.cons rfl .nil)), 0, Nat.zero_le _, rfl, rfl, rfl⟩ ?_
  rintro n loc m ⟨k, hk, rfl, rfl, rfl⟩
  repeat walk_at "ws"
  refine W1.attr (ShAt.ins S) rfl rfl (by k_is) (by k_is) (by k_is) (by k_is) ?_
  refine W2.in_i S.t ?_
  rw [tab_look]
  by_cases hk2 : k < vs.length
  · rw [List.getElem?_eq_getElem hk2]
    repeat walk_at "ws"
    exact ⟨vs.length - (k + 1), by lia, lc [("number", _), ("self", _), ("value", _)], .cons rfl (.cons rfl (.cons rfl .nil)), k + 1, hk2, rfl, rfl, rfl⟩
  · have hke : k = vs.length := by lia
    subst hke
    rw [List.getElem?_eq_none (Nat.le_refl _)]
    repeat walk_at "ws"
    refine WE.tup ?_
    repeat walk_at "ws"
    refine ⟨Nat.le_of_ble_eq_true rfl, ?_⟩
    repeat walk_at "ws"
    refine W1.attr (ShAt.ins S) rfl rfl (by k_is) (by k_is) (by k_is) (by k_is) ?_
    repeat walk_at "ws"
    refine WS.dci (by exact S.t) (by rw [tab_look, List.getElem?_eq_none (Nat.le_refl _)]; rfl) (by unfold tabV; rw [tabF_len]; lia) ?_
    repeat walk_at "ws"
    rw [show tabV vs ++ [((((vs.length + 1 : Nat)) : Int), V.tup [.int 0, .int b])] = tabV (vs ++ [b]) by unfold tabV; rw [tabF_snoc, Nat.zero_add]]
    refine WE.callG (by k_is) (by k_is) ?_
    repeat walk_at "ws"
    refine w_Ref (by show 2 ≤ X'.lv; lia) (fun e => by have := congrArg List.length e; rw [List.length_set] at this; have := get_lt S.a; simp_all) ?_
    have hm' : ∀ y ∈ σ.mem.set t (.dci (tabV (vs ++ [b]))), oldM (σ.mem.set t (.dci (tabV (vs ++ [b])))).length y := fun y hy => by
      rw [List.length_set]
      rcases List.mem_or_eq_of_mem_set hy with hy | rfl
      · exact hm y hy
      · exact tabF_old
    have := out_frz (PR := fun _ => False) (P := P) (l := [M.nsd (lc [("number", .int ((vs.length + 1 : Nat) : Int)), ("generation", .int 0)]), M.ins 261 (σ.mem.set t (.dci (tabV (vs ++ [b])))).length]) (loc := lc [("number", .int ((vs.length + 1 : Nat) : Int)), ("self", .ptr i), ("value", .int b)]) (v := .ptr ((σ.mem.set t (.dci (tabV (vs ++ [b])))).length + 1)) (v' := refV ((vs.length + 1 : Nat) : Int)) (.ins (Nat.le_add_right _ _) (Nat.le_refl _) (mem_at (k := 1) rfl) (mem_at (k := 0) rfl) (.cons (.same trivial) (.cons (.same trivial) .nil))) hm' h
    rw [List.length_set] at this ⊢
    exact this
end
section
variable {prog : Program} {w : World} {A₀ A : Around} {s : Shared} {base h₀ : Heap} {outer : List Env} {L : Addr} {m : Str → Option Value} {env : Env} {news : List (Addr × Obj)} {K : Frag}
  {R : Result → Shared → Prop} {name qual : Str} {params : Arguments} {body : List Stmt} {scope : Scope} {dV kV doc pm cdv ct oc : Value} {an od : Option Addr} {osl : Array (Option Value)} {f : Addr} {args : Args} {binds : List (Str × Value)}
  {p : Program} {loose : List Str} {mean : ExcName → Option Value} {mg mb : Str → Option Value}
theorem code_defH (B : Below A₀ base outer h₀) (F : Fr h₀ L s.heap m) (X₀ : K.In h₀) (N : News h₀ L s.heap news) (T : Top p loose mean mg mb h₀) (hA : A.frames = some (env :: outer)) (hf : env.frame = some L) (hke : env.scope.kind = .function)
    (ho : K.lookup f = some ⟨oc, od, .func (fnOf name qual params body scope dV kV doc pm an cdv ct), osl⟩) (hcd : codeIn K cdv qual = true) (hroom : A.depth < recursionLimit)
    (hbind : BindsTo s (fnOf name qual params body scope dV kV doc pm an cdv ct) args binds) (hloc : ∀ y ∈ binds, scope.names.lookup y.1 = some .local)
    (h : ∀ g L' h₁, Fr h₀ L g m → Fr g L' h₁ (fun y => binds.reverse.lookup y) → News g L' h₁ news → Below A base (env :: outer) g → K.In g → Top p loose mean mg mb g → (∀ v s', LeaveK h₀ L m g R v s' → R (.ok (.ret v)) s') →
      wpAny (model prog w) (A.deeper (envOf qual scope L' f cdv)) (execs body (envOf qual scope L' f cdv))
        (fun fl s' => R (.ok (.ret (match fl with | .ret v => v | _ => .none))) s')
        (fun e s' => wpAny (model prog w) (A.deeper (envOf qual scope L' f cdv)) (leaving (envOf qual scope L' f cdv) e) (fun _ s'' => R (.error e) s'') (fun e' s'' => R (.error e') s'') s')
        { s with heap := h₁, toks := s.toks + binds.length })
    (hco : scope.isCoroutine = false) (hgen : scope.isGenerator = false) (hk : scope.kind = .function)
    (hcell : ∀ x ∈ scope.names, x.2 ≠ .cell) : codeAny (model prog w) A (.call (.ref f) args) R s := by
  refine oAAA (groundX (R := R) B F N hA hf hke) fun FG BG st lv => ?_
  refine codeAny_call_def (fd := fnX name qual params body scope [] dV kV doc pm an cdv ct) (body := body) (binds := binds) hroom ((X₀.keeps F.keep) _ _ ho) rfl (T.nolimit.keeps F.keep) (codeRec_of (X₀.keeps F.keep) hcd) rfl hbind hcell hloc (fun h₁ hns hk₁ => ?_) hco hgen hk
  exact wpAny_mono (h _ s.heap.objs.size h₁ FG ⟨hns, fun b o e => hk₁ b o (of_hideAll _ e), Nat.le_of_eq (hideAll_size _ _)⟩
    (fun p hp => ⟨hk₁ _ _ (N p hp).1, Nat.ne_of_lt (Heap.lt_size (N p hp).1), hideAll_none _ (List.mem_map_of_mem hp)⟩) BG (X₀.keeps st) (T.keeps st) lv) (fun fl s' hl => hl) fun _ _ y => y
end
section
variable {c : Cx} {σ : St} {ρl : List (Str × V)} {ρm : List M} {P P' : V → List M → Prop} {PR : List M → Prop} {f : Addr} {name qual : Str} {params : Arguments} {scope : Scope} {dV kV doc pm cdv ct oc : Value} {an od : Option Addr} {osl : Array (Option Value)} {x y : Str}
  {xp cpos rpos yp kpos rpos2 hpos tpos : Pos} {kk : Nat} {lq : Str} {lp : Arguments} {lb : Expr} {ls : Scope} {lc : List (Str × Nat)}
theorem kept_core (hlv : 1 ≤ c.X.lv) (hout : c.X.outer = [])
    (ho : (wrt.heap_1 c.X.w.params).lookup f = some ⟨oc, od, .func (fnOf name qual params [.Try [.Return (some (.Call (.Name x xp) [] [] cpos)) rpos] [.ExceptHandler (some (.Name y yp)) none [.Return (some (.Constant .none kk kpos)) rpos2] hpos] [] [] tpos] scope dV kV doc pm an cdv ct), osl⟩) (hcd : codeIn (wrt.heap_1 c.X.w.params) cdv qual = true)
    (hb : ∀ s u, BindsTo s (fnOf name qual params [.Try [.Return (some (.Call (.Name x xp) [] [] cpos)) rpos] [.ExceptHandler (some (.Name y yp)) none [.Return (some (.Constant .none kk kpos)) rpos2] hpos] [] [] tpos] scope dV kV doc pm an cdv ct) ⟨[u], []⟩ [(x, u)])
    (hx : scope.names.lookup x = some .local) (hxd : (x == ("__debug__" : Str)) = false) (hy : scope.names.lookup y = some .globalImplicit) (hyd : (y == ("__debug__" : Str)) = false)
    (ey : nsIn (wrt.heap_1 c.X.w.params) mainGlobals y = some (some (.ref 59))) (qy : ktsIn (wrt.heap_1 c.X.w.params) 59 "BaseException" = true)
    (h : ∀ X' : Cb, X'.w = c.X.w → X'.lv = c.X.lv - 1 → (∀ m ∈ σ.mem, oldM σ.mem.length m) → WC ⟨X', scope, [], σ.mem.length⟩ (.lam lq lp lb ls lc) [] ⟨[(x, .lam lq lp lb ls lc)], σ.mem⟩ P PR) (hP : ∀ v m, P v m → P' v m) (hR : ∀ m, PR m → P' .none m)
    (hcell : ∀ x ∈ scope.names, x.2 ≠ .cell) (hk : scope.kind = .function) (hco : scope.isCoroutine = false) (hgen : scope.isGenerator = false) : WL c (callV (.ref f)) [.lam lq lp lb ls lc] σ P' := by
  intro s fz ml us Q E R hu k
  obtain ⟨ud, _, rfl, hv, hu⟩ := l_cons hu
  obtain rfl := l_nil hu
  obtain ⟨m, lf, F, LA, lo⟩ := R.fr
  have hml : ml.length = σ.mem.length := R.mem.len
  refine wpAny_call ?_
  refine code_defH (env := envX c.X.cn c.X.cs c.X.L c.X.a c.X.ccd c.X.cl) (news := ml ++ fz ++ c.X.xs) R.ok.below F R.ok.kin R.news R.ok.top rfl rfl R.ok.kind ho hcd (room_of (l := c.X.lv) R.ok.dep) (hb s ud)
    (fun z hz => by rw [List.mem_singleton.mp hz]; exact hx) ?_ hco hgen hk hcell
  intro g L' h₁ FG F' N' B' X' T' lv
  let X1 : Cb := Cb.mk c.X.w (c.X.lv - 1) c.X.p c.X.loose c.X.mean c.X.mg c.X.mb (c.X.dp + 1) (c.X.un + 3) c.X.gd qual scope f cdv [] (envX c.X.cn c.X.cs c.X.L c.X.a c.X.ccd c.X.cl :: c.X.outer) (ktrTop c.X.dp c.X.un c.X.gd c.X.cn c.X.cs c.X.L c.X.a c.X.ccd c.X.cl c.X.outer) c.X.base g L' c.X.Zb c.X.xs (envX qual scope L' f cdv []) none
  have ok1 : Cx.Ok ⟨X1, scope, [], σ.mem.length⟩ := by
    refine ⟨B', X', T', hk, ?_, ?_, fun a o z => FG.keep _ _ (R.ok.zb a o z), R.ok.kz, rfl, hk, rfl, rfl, ?_, ?_⟩
    · have := R.ok.dep; show c.X.dp + 1 + (c.X.lv - 1) < 900; lia
    · have := R.ok.unt; show c.X.un + 3 + 20 * (c.X.lv - 1) < 9000; lia
    · intro x pos u m f s Q E hx hd FF NN LAA hfx hq
      obtain rfl : f = m := LAA
      exact nameX_L FF hfx hq hk hx hd
    · intro x pos cc o u s Q E hx hd hd2 hl
      cases hl
  have R1 : Rel ⟨X1, scope, [], σ.mem.length⟩ ⟨[(x, .lam lq lp lb ls lc)], σ.mem⟩ fz ml h₁ := by
    refine ⟨ok1, ⟨_, _, F', rfl, fun z v hz => ?_⟩, N', R.nd, ?_, (fun x i hx => by cases hx), (by show σ.mem.length ≤ ml.length; lia), R.hi⟩
    · rw [List.lookup_cons] at hz
      show ∃ u, List.lookup z [(x, ud)] = some u ∧ _
      rw [List.lookup_cons]
      by_cases e : z = x
      · subst e; rw [beq_self_eq_true] at hz ⊢; cases hz; exact ⟨ud, rfl, hv⟩
      · rw [beq_false_of_ne e] at hz; cases hz
    · exact memIs.cx (c := ⟨X1, scope, [], σ.mem.length⟩) (c' := c) rfl rfl R.mem
  have hfr : (Cx.A ⟨X1, scope, [], σ.mem.length⟩).frames = some (envX qual scope L' f cdv [] :: X1.outer) := rfl
  refine wpAny_execs_cons (wpAny_Try_except (wpAny_execs_cons (wpAny_Return_some (Call_ (WE.loc (c := ⟨X1, scope, [], σ.mem.length⟩) (ρl := [(x, .lam lq lp lb ls lc)]) (ρm := σ.mem) (P := fun v m => v = .lam lq lp lb ls lc ∧ m = σ.mem) (by rw [List.lookup_cons, beq_self_eq_true]) ⟨rfl, rfl⟩ hx hxd _ fz ml _ _ R1 ?_) rfl))))
  rintro v m1 fz1 ml1 h1 tk1 u ⟨rfl, rfl⟩ x1 R2 i2
  refine hold fun _ hK9 => ?_
  obtain ⟨fa, c', pm', ctv, clos, ocd, ws, t, rfl, z1, z2, d1, d2, hclos⟩ := v_lam i2
  refine hK9 ?_
  refine callWith_F0 ⟨_, _, _, _, R2.zf z1⟩ ?_
  refine h X1 rfl rfl R.oldmem _ fz1 ml1 (.ref fa) [] _ _ R2 i2 mk_nil ?_ ?_
  · intro v mem' fz' ml' h' tk' u hp x2 R3 i3
    refine hold fun _ hK9 => ?_
    obtain ⟨m3, f3, F3, LA3, lo3⟩ := R3.fr
    refine hK9 ?_
    refine lv _ _ (leaveK_ F3 R3.news fun FF NN => ?_)
    exact k _ _ fz' ml' h' tk' _ (hP _ _ hp) (x1.trans x2) (R.back (c' := ⟨X1, scope, [], σ.mem.length⟩) rfl rfl rfl LA lo FF NN R3 (x1.trans x2)) i3
  · intro mem' fz' ml' h' tk' u hp x2 RE
    refine hold fun _ hK9 => ?_
    obtain ⟨e, G, m2, f2, rfl, F2, LA2, lo2, ⟨B, a0, hB, hBG, hl, hair⟩, hsl⟩ := RE.fl
    refine hK9 ?_
    refine InAir.noted hair hfr rfl fun h4 hheld s4 => ?_
    refine wpAny_landsW hheld fun h5 hfl s5 => ?_
    have hsm := (hsl.trans s4).trans s5
    refine hold fun _ hK9 => ?_
    refine oEAA (kts_ground B' F2 hBG hfl.1 hsm) fun g5 T5 F5 K5 => ?_
    refine hK9 ?_
    have hfrm : ∀ b, b ∈ X1.outer.filterMap (·.frame) → b = c.X.L := fun b hb => by
      have : b ∈ [c.X.L] := by
        have e : X1.outer.filterMap (·.frame) = [c.X.L] := by show (envX c.X.cn c.X.cs c.X.L c.X.a c.X.ccd c.X.cl :: c.X.outer).filterMap (·.frame) = _; rw [hout]; rfl
        rw [← e]; exact hb
      exact List.mem_singleton.mp this
    have h0L : c.X.h₀.get? c.X.L = none := kts_self F
    have up5 : ∀ b o, c.X.h₀.get? b = some o → g5.get? b = some o := fun b o q => T5.other b o (FG.keep b o q) fun hm => by rw [hfrm b hm, h0L] at q; cases q
    have X5 : (wrt.heap_1 c.X.w.params).In g5 := R.ok.kin.keeps up5
    have P5 : TopRead c.X.p c.X.loose c.X.mg c.X.mb g5 := topRead_of (R.ok.top.keeps up5)
    refine oEA hfl.there fun ob hob hobc => ?_
    refine hold fun _ hK9 => ?_
    obtain ⟨nm, q', N5, bs, bm, hdct, sn, sub, ab, col, dd, k0, k1, k2, k3, k5, newId, hC, hbase, hbT⟩ := (kts_cls X5 qy)
    refine hK9 ?_
    refine wpAny_handleBy_cons (codeAny_handlers_test (name_K F5 X5 P5 ey ?_ hk hy hyd)) (by intro q; cases q)
    refine wpAny_excMatches_sub_self (F5.keep _ _ hC) hob hobc hbase (codeAny_handlers_suite ?_)
    refine lands_againW hfl fun h6 hfl6 s6 => ?_
    have hs6 := hsm.trans s6
    refine wpAny_execs_cons (wpAny_Return_some (wpAny_Constant_none ?_))
    have upG : ∀ b o, c.X.h₀.get? b = some o → h6.get? b = some o := fun b o q => by
      refine hfl6.1 b o (hBG b o (F2.keep b o (FG.keep b o q)) fun hm => ?_)
      rcases kts_mem hm with z | z
      · have z2 := FG.keep b o q
        rw [z, kts_self F2] at z2; cases z2
      · rw [hfrm b z, h0L] at q; cases q
    have FF : Fr c.X.h₀ c.X.L h6 m := ⟨((Heap.UpToSlots.of_keeps F2.keep).trans hs6).ns FG.ns, upG, F.above⟩
    have gL : ∃ o, g.get? c.X.L = some o := by obtain ⟨o, es, ep, e, _⟩ := FG.ns; exact ⟨o, e⟩
    have NN : News c.X.h₀ c.X.L h6 (ml' ++ fz' ++ c.X.xs) := fun q hq => by
      refine oAA (hl q hq) fun n1 n2 n3 => ?_
      refine ⟨hfl6.1 _ _ n1, fun e => ?_, kts_none FG.keep (kts_none F2.keep n2)⟩
      refine oE gL fun o ho => ?_
      rw [e, F2.keep _ _ ho] at n2
      cases n2
    have x12 := x1.trans x2
    have R6 : Rel c ⟨σ.loc, mem'⟩ fz' ml' h6 := by
      refine ⟨R.ok, ⟨m, lf, FF, LA, fun y v hy => ?_⟩, NN, RE.nd, ?_, fun y i hy => ?_, ?_, RE.hi⟩
      · refine oEA (lo y v hy) fun u h1 h2 => ?_
        exact ⟨u, h1, isVmono x12 h2⟩
      · exact memIs.cx (c := c) (c' := ⟨X1, scope, [], σ.mem.length⟩) rfl rfl RE.mem
      · refine oEA (R.cels y i hy) fun a h1 h2 => ?_
        exact ⟨a, h1, pre_get x12.2 h2⟩
      · have := x12.2.length_le
        rw [List.length_map, List.length_map] at this
        exact Nat.le_trans R.n0 this
    exact k _ _ fz' ml' h6 _ _ (hR _ hp) x12 R6 mk_none
end
section
variable {c : Cx} {σ : St} {ρl : List (Str × V)} {ρm : List M} {P : V → List M → Prop} {PX : Fl → St → Prop} {elt target iter : Expr} {ifs : List Expr} {scope : Scope} {pos spos : Pos} {value slice : Expr} {a : V}
theorem W2.slc_lu {vs : List V} {n : Nat} (S : LstAt ⟨ρl, ρm⟩ a vs) (hl : vs.length ≤ 16777216) (h : P (.lst (vs.take n)) ρm)
    (hsub : ∀ u t, subscripted slice false (.ref u) (.ref t) = operate [.ref t, .ref u] (getItem (.ref u) (.ref t)) := by intro _ _; rfl) : W2 c (subscriptTail value slice) a (.slc Option.none (some (n : Int))) ⟨ρl, ρm⟩ P :=
  fun s fz ml u u' Q E R hi hk K => by
    refine hold fun _ hK9 => ?_
    refine oEEEEAAAAAA (S.get R hi) fun ad o ws k e94 hg e1 _ e2 l _ => ?_
    subst e94
    refine hK9 ?_
    obtain ⟨r, vl, vu, rfl, z, p1, p2⟩ := v_slc hk
    have hL : s.heap.IsList ad ws.toArray := ⟨o, hg, e1, k, e2⟩
    have hlen := l_len l
    refine tail_any hL.typeIs slot_list_getitem.lookup (wpAny_getItem_list_slice hL ⟨_, R.zf z, rfl, rfl⟩ p1 p2 .none (by simp) ?_ (by rw [List.size_toArray, hlen, sizeLine_eq]; exact hl)) (hsub _ _)
    rw [slicePick_upto' ws.toArray n]
    refine oA (R.newfz (o := { cls := Value.type "list", data := Data.seq (List.take n ws.toArray.toList).toArray }) (Heap.get?_push_size _ rfl)) fun R2 x2 => ?_
    exact K _ _ _ ml _ s.toks _ h x2 R2 (by exact ⟨_, _, _, 0, rfl, .inr (.head _), rfl, rfl, isLmono x2 (l_take l)⟩)
theorem W0.lasgM {y : Str} {py : Pos} (J : List V → List V → List M → Prop) (hiter : WE c iter ⟨ρl, ρm⟩ fun v m => ∃ items, Src v items ∧ items.length ≤ sizeLine ∧ J items [] m)
    (turn : ∀ x rest ys m, J (x :: rest) ys m → ∃ loc, TgtC (relabelS scope c.sc) target x loc ∧ ∀ X' : Cb, X'.w = c.X.w → X'.lv = c.X.lv → WTs ⟨X', relabelS scope c.sc, celC scope c.cel, c.n0⟩ ifs ⟨loc, m⟩ (fun ok m' => if ok = true then WE ⟨X', relabelS scope c.sc, celC scope c.cel, c.n0⟩ elt ⟨loc, m'⟩ (fun y m'' => J rest (ys ++ [y]) m'') else J rest ys m'))
    (done : ∀ ys m, J [] ys m → PX .nxt ⟨(y, .ptr m.length) :: ρl, m ++ [.lst ys]⟩)
    (hy : c.sc.names.lookup y = some .local) (hck : c.sc.kind = .function) (hsw : ∀ env : Env, env.scope = c.sc → swapsWith (.ListComp elt [⟨target, iter, ifs, 0⟩] scope pos) (some (.Name y py)) spos.line env = pure true)
    (hfree : ∀ y ∈ scope.names, y.2 = .free → (c.cel.lookup y.1).isSome = true) (hcell : ∀ y ∈ scope.names, y.2 ≠ .cell) (hkind : scope.kind = .function) (hnames : ∀ y ∈ scope.names, y.2 = .local → scope.names.lookup y.1 = some .local)
    (hs : ∀ x, foldedSetIterable iter c.env x = pure x := by intro _; rfl) : W0 c (.Assign [.Name y py] (.ListComp elt [⟨target, iter, ifs, 0⟩] scope pos) spos) ⟨ρl, ρm⟩ PX := by
  intro hf s fz ml Q E R k kr
  refine hold fun _ hK9 => ?_
  refine oEA (R.closure hfree) fun cl hclos hcl => ?_
  refine hK9 ?_
  have hes : c.env.scope = c.sc := R.ok.es
  rw [exec_Assign_Name_used _ _ _ _ (hsw c.env hes)]
  refine wpAny_bind (wpAny_standAt (wpAny_bind ?_))
  show wpAny _ c.A (do let _ ← comprehension (.ListComp elt [⟨target, iter, ifs, 0⟩] scope pos) scope c.env _ (newList []) false (eval iter c.env) (some (assign (.Name y py) c.env))) _ _ s
  refine wpAny_bind (wpAny_mono (wpAny_comprehension_free (e := .ListComp elt [⟨target, iter, ifs, 0⟩] scope pos) (env := c.env) (g := ⟨target, iter, ifs, 0⟩) (gs := []) (use := some (assign (.Name y py) c.env)) (Q := fun _ s' => Q .next s') rfl hs hclos hkind hnames (hiter s fz ml _ E R ?_)) (fun _ s' hq => wpAny_pure (wpAny_pure hq)) fun _ _ e => e)
  intro v m fz1 ml1 h1 tk1 u q87 x1 R1 i1
  refine oEAA q87 fun items S hsz hJ => ?_
  refine S.iter (kk := ml1.length) R1 i1 (S.old (by have := isV.old _ _ i1; rw [List.length_map] at this; exact this)) fun I fp n Pv St h2 tk2 W R2 st2 f1 f2 f3 f4 => ?_
  refine lcomp_core (RR := fun acc C => compPost c.M c.A E (some (assign (.Name y py) c.env)) (fun _ s' => Q .next s') acc C) (s := shr (shr s h1 tk1) h2 tk2) J R2 W st2 f1 f2 f3 f4 (iter_low W st2) hsz hJ hcl hcell hkind turn ?_
  intro D C ys mem' fz' ml' h' tk' lf hJ' X' R' q812 offD d1 d2 hsys hns offC cL c0 hCD hsC
  refine oEEA q812 fun ws kk hD hys => ?_
  refine oA (R'.addml (a := D) (o := listOf ws.toArray kk) (m' := .lst ys) hD d1 d2 offD hsys ⟨ws, kk, rfl, isL.mono (fun _ h => h) adr_pre ys ws hys⟩) fun RD X'' => ?_
  refine oEA (LCg.ns_obj hns) fun oC hoC hnsC => ?_
  have RC := RD.addx hoC cL c0 (fun p hp => by
    simp only [List.mem_append, List.mem_singleton] at hp
    rcases hp with ((hp | rfl) | hp) | hp
    · exact offC p (List.mem_append_left _ (List.mem_append_left _ hp))
    · exact Ne.symm hCD
    · exact offC p (List.mem_append_left _ (List.mem_append_right _ hp))
    · exact offC p (List.mem_append_right _ hp)) hsC
  obtain ⟨mm, f, F, LA, lo⟩ := RC.fr
  rw [show (c.add (C, oC)).X.cm = c.X.cm from rfl, hf.cm] at LA
  obtain rfl : f = mm := LA
  show wpAny _ c.A (assign (.Name y py) c.env (.ref D)) _ _ _
  refine PyProof.Rows.assign_Name ?_
  rw [Cx.env, hf.env]
  refine storeX_L F RC.news (fun h3 F3 N3 => ?_) R.ok.kind (by show List.lookup _ c.X.cs.names = _; rw [← hf.sc]; exact hy)
  have hv : (c.add (C, oC)).v fz' (ml' ++ [(D, listOf ws.toArray kk)]) (.ptr mem'.length) (.ref D) := by
    have := ptr_new (c := c) (fz := fz') (ml := ml') (a := D) (o := listOf ws.toArray kk)
    rw [R'.mem.len] at this
    exact this
  have RS := RC.stored (x := y) (v := .ptr mem'.length) hf.cm F lo F3 N3 hv
  refine oAAA (RS.subx R.ok) fun R4 g4 off4 _ => ?_
  refine ⟨lf, hnsC.ns g4, fun h4 hs4 => ?_⟩
  exact k _ _ _ _ h4 _ _ (done _ _ hJ') ((x1.trans X').trans X'').n (R4.but (fun b o hb e => hs4.extBut b o hb e) cL c0 off4) (rfl : Flow.next = _)
end
inductive Mv (k : Nat) (vs : List V) : V → V → Prop
  | leaf {v : V} : old 0 v → Mv k vs v v
  | hit : Mv k vs (.ptr k) (.lst vs)
  | lo {i : Nat} : i < k → Mv k vs (.ptr i) (.ptr i)
  | hi {i : Nat} : k ≤ i → Mv k vs (.ptr (i + 1)) (.ptr i)
inductive MvF (k : Nat) (vs : List V) : List (Str × V) → List (Str × V) → Prop
  | nil : MvF k vs [] []
  | cons {x : Str} {v v' : V} {r r' : List (Str × V)} : Mv k vs v v' → MvF k vs r r' → MvF k vs ((x, v) :: r) ((x, v') :: r')
inductive MvM (k : Nat) (vs : List V) : M → M → Prop
  | lst {l : List V} : oldL 0 l → MvM k vs (.lst l) (.lst l)
  | dct {ks ks' : List (Str × V)} : MvF k vs ks ks' → MvM k vs (.dct ks) (.dct ks')
  | dci {ks : List (Int × V)} : oldI 0 ks → MvM k vs (.dci ks) (.dci ks)
  | nsd {ks ks' : List (Str × V)} : MvF k vs ks ks' → MvM k vs (.nsd ks) (.nsd ks')
  | insL {C : Addr} {j : Nat} : j < k → MvM k vs (.ins C j) (.ins C j)
  | insH {C : Addr} {j : Nat} : k ≤ j → MvM k vs (.ins C (j + 1)) (.ins C j)
  | tab {j : Nat} {P : Addr} {l : List (Nat × Nat)} : j < k → MvM k vs (.tab j P l) (.tab j P l)
  | cel {v v' : V} : Mv k vs v v' → MvM k vs (.cel (some v)) (.cel (some v'))
  | celN : MvM k vs (.cel none) (.cel none)
inductive MvMs (k : Nat) (vs : List V) : List M → List M → Prop
  | nil : MvMs k vs [] []
  | cons {m m' : M} {r r' : List M} : MvM k vs m m' → MvMs k vs r r' → MvMs k vs (m :: r) (m' :: r')
section
variable {w : World} {Zb : Addr → Obj → Prop} {fz : Led} {la lb : List Addr} {a : Addr} {o : Obj} {k : Nat} {vs : List V}
theorem mv_lo {i : Nat} (hk : la.length = k) (h : i < k) {x : Addr} (e : (la ++ a :: lb)[i]? = some x) : (la ++ lb)[i]? = some x := by
  rw [List.getElem?_append_left (by lia)] at e ⊢; exact e
theorem mv_hi {i : Nat} (hk : la.length = k) (h : k ≤ i) {x : Addr} (e : (la ++ a :: lb)[i + 1]? = some x) : (la ++ lb)[i]? = some x := by
  rw [List.getElem?_append_right (by lia)] at e ⊢
  rw [show i + 1 - la.length = (i - la.length) + 1 by lia, List.getElem?_cons_succ] at e
  exact e
theorem Mv.sound (hk : la.length = k) (hw : isV w Zb ((a, o) :: fz) (la ++ lb) (.lst vs) (.ref a)) {v v' : V} (m : Mv k vs v v') {u : Value} (h : isV w Zb fz (la ++ a :: lb) v u) : isV w Zb ((a, o) :: fz) (la ++ lb) v' u := by
  cases m with
  | leaf q => exact isV.keep (n := 0) (fun p hp => .tail _ hp) (by rw [List.take_zero]; exact List.nil_prefix) _ u q h
  | hit =>
    refine oEA h fun b e91 e => ?_
    subst e91
    rw [List.getElem?_append_right (by lia), show k - la.length = 0 by lia] at e
    cases e
    exact hw
  | lo q => obtain ⟨b, e1, e2⟩ := h; exact ⟨b, e1, mv_lo hk q e2⟩
  | hi q => obtain ⟨b, e1, e2⟩ := h; exact ⟨b, e1, mv_hi hk q e2⟩
theorem MvF.sound (hk : la.length = k) (hw : isV w Zb ((a, o) :: fz) (la ++ lb) (.lst vs) (.ref a)) {v v' : List (Str × V)} (m : MvF k vs v v') : ∀ {u : List (Str × Value)}, isF w Zb fz (la ++ a :: lb) v u → isF w Zb ((a, o) :: fz) (la ++ lb) v' u := by
  induction m with
  | nil => exact fun h => h
  | cons p q ih =>
    intro u h
    refine oEEAA h fun x xs e92 h1 h2 => ?_
    subst e92
    exact ⟨x, xs, rfl, p.sound hk hw h1, ih h2⟩
theorem MvF.soundE (hk : la.length = k) (hw : isV w Zb ((a, o) :: fz) (la ++ lb) (.lst vs) (.ref a)) {v v' : List (Str × V)} (m : MvF k vs v v') : ∀ {u : List DictEntry}, isE w Zb fz (la ++ a :: lb) v u → isE w Zb ((a, o) :: fz) (la ++ lb) v' u := by
  induction m with
  | nil => exact fun h => h
  | cons p q ih =>
    intro u h
    refine oEEEEAA h fun hs t x xs e94 h1 h2 => ?_
    subst e94
    exact ⟨hs, t, x, xs, rfl, p.sound hk hw h1, ih h2⟩
theorem MvM.sound (hk : la.length = k) (hw : isV w Zb ((a, o) :: fz) (la ++ lb) (.lst vs) (.ref a)) {m m' : M} (p : MvM k vs m m') {ob : Obj} (h : isM w Zb fz (la ++ a :: lb) m ob) : isM w Zb ((a, o) :: fz) (la ++ lb) m' ob := by
  have z : ∀ p ∈ fz, p ∈ (a, o) :: fz := fun p hp => .tail _ hp
  have pre : (la ++ a :: lb).take 0 <+: la ++ lb := by rw [List.take_zero]; exact List.nil_prefix
  cases p with
  | lst q => obtain ⟨ws, n, e, l⟩ := h; exact ⟨ws, n, e, isL.keep z pre _ _ q l⟩
  | dct q => obtain ⟨kws, d, l⟩ := h; exact ⟨kws, d, q.sound hk hw l⟩
  | dci q => obtain ⟨kws, d, l⟩ := h; exact ⟨kws, d, isI.keep z pre _ _ q l⟩
  | nsd q => obtain ⟨es, n, e, l⟩ := h; exact ⟨es, n, e, q.soundE hk hw l⟩
  | insL q => obtain ⟨dx, e, l⟩ := h; exact ⟨dx, e, mv_lo hk q l⟩
  | insH q => obtain ⟨dx, e, l⟩ := h; exact ⟨dx, e, mv_hi hk q l⟩
  | tab q => exact ⟨mv_lo hk q h.1, h.2⟩
  | cel q => obtain ⟨u, d, u', e, l⟩ := h; exact ⟨u, d, u', e, q.sound hk hw l⟩
  | celN => exact h
end
section
variable {c : Cx} {σ : St} {ρl : List (Str × V)} {ρm : List M} {PX : Fl → St → Prop} {k : Nat} {vs : List V}
theorem memIs.split {fz : Led} {ad : List Addr} : ∀ {A B : List M} {l : Led}, memIs c fz ad (A ++ B) l → ∃ l1 l2, l = l1 ++ l2 ∧ memIs c fz ad A l1 ∧ memIs c fz ad B l2
  | [], B, l, h => ⟨[], l, rfl, rfl, h⟩
  | x :: A, B, l, h => by
    refine oEEAA h fun p r e92 h1 h2 => ?_
    subst e92
    refine oEEAA (memIs.split h2) fun l1 l2 e92 h3 h4 => ?_
    subst e92
    exact ⟨p :: l1, l2, rfl, ⟨p, l1, rfl, h1, h3⟩, h4⟩
theorem MvMs.sound {fz : Led} {la lb : List Addr} {a : Addr} {o : Obj} (hk : la.length = k) (hw : isV c.X.w c.X.Zb ((a, o) :: fz) (la ++ lb) (.lst vs) (.ref a)) : ∀ {A A' : List M} {l : Led}, MvMs k vs A A' → memIs c fz (la ++ a :: lb) A l → memIs c ((a, o) :: fz) (la ++ lb) A' l
  | _, _, l, .nil, h => h
  | _, _, l, .cons p q, h => by
    refine oEEAA h fun x r e92 h1 h2 => ?_
    subst e92
    exact ⟨x, r, rfl, p.sound hk hw h1, q.sound hk hw h2⟩
theorem WX.frz {ss : List Stmt} {A A' B B' : List M} {loc loc' : List (Str × V)} (hm : σ.mem = A ++ .lst vs :: B) (hl : σ.loc = loc) (hk : A.length = k) (hold : oldL 0 vs) (hA : MvMs k vs A A') (hB : MvMs k vs B B') (hn : c.n0 ≤ k) (hcel : ∀ x i, c.cel.lookup x = some i → i < k)
    (hloc : ∀ x v', loc'.lookup x = some v' → ∃ v, loc.lookup x = some v ∧ Mv k vs v v') (h : WX c ss ⟨loc', A' ++ B'⟩ PX) : WX c ss σ PX := by
  subst hl
  intro hf s fz ml Q E R kq kr
  obtain ⟨loc, mem⟩ := σ
  dsimp only at hm
  subst hm
  have M0 := R.mem
  refine oEEAA (memIs.split M0) fun l1 l2 e92 M1 M2 => ?_
  subst e92
  refine oEEAA M2 fun q90 l3 e92 M3 M4 => ?_
  obtain ⟨a, o⟩ := q90
  subst e92
  have hl1 : l1.length = k := by rw [M1.len]; exact hk
  have e0 : adr (l1 ++ (a, o) :: l3) = adr l1 ++ a :: adr l3 := by rw [adr, List.map_append, List.map_cons]
  have e1 : adr (l1 ++ l3) = adr l1 ++ adr l3 := by rw [adr, List.map_append]
  have hla : (adr l1).length = k := by rw [List.length_map]; exact hl1
  rw [e0] at M1 M3 M4
  have hw : isV c.X.w c.X.Zb ((a, o) :: fz) (adr l1 ++ adr l3) (.lst vs) (.ref a) := by
    refine oEEA M3 fun ws n e l => ?_
    refine ⟨a, o, ws, n, rfl, .inr (.head _), e, by rw [show o = listOf ws.toArray n from e], isL.keep (n := 0) (fun p hp => .tail _ hp) (by rw [List.take_zero]; exact List.nil_prefix) _ _ hold l⟩
  have perm : ∀ q, q ∈ l1 ++ l3 ++ (a, o) :: fz ++ c.X.xs ↔ q ∈ l1 ++ (a, o) :: l3 ++ fz ++ c.X.xs := fun q => by
    simp only [List.mem_append, List.mem_cons]
    constructor <;> (intro h; rcases h with ((h | h) | h) | h <;> simp_all) <;> (try (rcases h with h | h <;> simp_all))
  have pm : List.Perm (l1 ++ l3 ++ (a, o) :: fz ++ c.X.xs) (l1 ++ (a, o) :: l3 ++ fz ++ c.X.xs) := by
    rw [List.append_assoc (l1 ++ l3), List.append_assoc l1, List.cons_append, List.append_assoc (l1 ++ (a, o) :: l3), List.append_assoc l1, List.cons_append]
    exact List.Perm.append_left _ (List.perm_middle)
  have R2 : Rel c ⟨loc', A' ++ B'⟩ ((a, o) :: fz) (l1 ++ l3) s.heap := by
    refine ⟨R.ok, ?_, fun q hq => R.news q ((perm q).mp hq), ((pm.map _).nodup_iff).mpr R.nd, ?_, fun x i hx => ?_, ?_, fun q hq => R.hi q ((perm q).mp hq)⟩
    · obtain ⟨m, f, F, LA, lo⟩ := R.fr
      refine ⟨m, f, F, LA, fun x v' hx => ?_⟩
      refine oEA (hloc x v' hx) fun v hv mv => ?_
      refine oEA (lo x v hv) fun u hu iu => ?_
      rw [Cx.v, e0] at iu
      exact ⟨u, hu, by rw [Cx.v, e1]; exact mv.sound hla hw iu⟩
    · rw [e1]
      exact (hA.sound hla hw M1).app (hB.sound hla hw M4)
    · refine oEA (R.cels x i hx) fun b h1 h2 => ?_
      rw [e0] at h2
      exact ⟨b, h1, by rw [e1]; exact mv_lo hla (hcel x i hx) h2⟩
    · rw [List.length_append]; lia
  have x0 : ExtN c fz (l1 ++ (a, o) :: l3) ((a, o) :: fz) (l1 ++ l3) := ⟨fun p hp => .tail _ hp, by
    rw [e0, e1, List.take_append_of_le_length (by lia), ← List.take_append_of_le_length (l₂ := adr l3) (by lia)]
    exact List.take_prefix _ _⟩
  exact h hf s _ _ Q E R2 (fun fl σ' fz' ml' h' tk' u p x r i => kq fl σ' fz' ml' h' tk' u p (x0.trans R.n0 x) r i) fun σ' fz' ml' h' tk' u p x r => kr σ' fz' ml' h' tk' u p (x0.trans R.n0 x) r
end
noncomputable def bowl0 (xs : List Int) : Bowl :=
  ⟨(xs.take 40).map fun x => (if x < 0 then -x else x) % 10 ^ 60, -1, 7 + ((xs.take 40).map fun x => (if x < 0 then -x else x) % (10 : Int) ^ 60).sum % 2147483543⟩
structure Bok (b : Bowl) : Prop where
  len : b.cells.length ≤ 1000
  lat : b.later.natAbs < 2 ^ 62
theorem Bok.next {b : Bowl} (h : Bok b) {m : Int} : Bok (b.next m) := by
  have ho : b.open_.cells.length ≤ 1000 ∧ b.open_.later = b.later := by
    unfold Bowl.open_
    split
    · split
      · rename_i x r e; have := h.len; rw [e] at this; simp at this; exact ⟨by dsimp only; lia, rfl⟩
      · exact ⟨h.len, rfl⟩
    · exact ⟨h.len, rfl⟩
  unfold Bowl.next
  split
  · refine ⟨ho.1, ?_⟩
    try dsimp only
    have h1 := Int.emod_nonneg (b.open_.later * 45991 + 3) (show (2147483543 : Int) ≠ 0 by decide)
    have h2 := Int.emod_lt_of_pos (b.open_.later * 45991 + 3) (show (0 : Int) < 2147483543 by decide)
    lia
  · exact ⟨ho.1, by dsimp only; rw [ho.2]; exact h.lat⟩
theorem bean_range {b : Bowl} {m : Int} (hm : 0 < m) : 0 ≤ b.bean m ∧ b.bean m < m := by
  unfold Bowl.bean
  split <;> exact ⟨Int.emod_nonneg _ (by lia), Int.emod_lt_of_pos _ hm⟩
theorem bok0 {xs : List Int} : Bok (bowl0 xs) := by
  refine ⟨?_, ?_⟩
  · unfold bowl0; dsimp only; rw [List.length_map, List.length_take]; lia
  · unfold bowl0; dsimp only
    generalize ((xs.take 40).map fun x => (if x < 0 then -x else x) % (10 : Int) ^ 60).sum = z
    have h1 := Int.emod_nonneg z (show (2147483543 : Int) ≠ 0 by decide)
    have h2 := Int.emod_lt_of_pos z (show (0 : Int) < 2147483543 by decide)
    lia
section
variable {c : Cx} {σ : St} {P : V → List M → Prop}
theorem w_bowl {xs : List Int} (hl : 2 ≤ c.X.lv) (hlen : xs.length ≤ 1000) (h : P (.ptr (σ.mem.length + 1)) (σ.mem ++ [bowlL (bowl0 xs), bowlD σ.mem.length (bowl0 xs)])) : WL c (callV (.ref 614)) [.lst (xs.map V.int)] σ P := by
  refine WL.def_ (lc [("script", .lst (xs.map V.int))]) (by lia) (by k_is) (by k_is) (hb1 fun _ _ => BindsTo.of_eq rfl) rfl (fun X' hw hlv hm hv hf => ?_) (by decide) rfl rfl rfl
  repeat walk_at "ws"
  refine W0.lasgM (fun items ys m => ∃ pre post : List Int, xs.take 40 = pre ++ post ∧ items = post.map V.int ∧ ys = (pre.map fun x => (if x < 0 then -x else x) % (10 : Int) ^ 60).map V.int ∧ m = σ.mem) ?_ ?_ ?_ rfl rfl (by rintro ⟨⟩ ⟨⟩; rfl) (names_free rfl) (names_cell rfl) rfl (names_local rfl)
  · repeat walk_at "ws"
    refine WE.slcU ?_
    repeat walk_at "ws"
    refine ⟨_, rfl, ?_⟩
    refine W2.slc_lu (n := 40) .tree (by rw [List.length_map]; lia) ?_
    rw [← List.map_take]
    exact ⟨_, .lst, by rw [List.length_map, List.length_take, sizeLine_eq]; lia, [], xs.take 40, rfl, rfl, rfl, rfl⟩
  · intro x rest ys m q84
    refine oEEAAA q84 fun pre post e1 e2 e94 e95 => ?_
    subst e94
    subst e95
    cases post with
    | nil => cases e2
    | cons g post =>
      refine oA (List.cons.inj e2) fun e90 e91 => ?_
      subst e90
      subst e91
      refine ⟨_, .name rfl, fun X2 hw2 hl2 => ?_⟩
      show WE _ _ _ _
      repeat walk_at "ws"
      refine WE.callB (by k_is) rfl (by decide) ?_
      refine WA.cons ?_
      refine WE.callT (by k_is) rfl (by decide) ?_
      repeat walk_at "ws"
      refine WL.int_i ?_
      repeat walk_at "ws"
      refine WL.abs ?_
      repeat walk_at "ws"
      refine W2.pow_ii (by decide) (by decide) (by decide) ?_
      refine W2.mod_ii (by decide) ?_
      refine ⟨pre ++ [g], post, by rw [e1]; simp, rfl, ?_, rfl⟩
      rw [List.map_append, List.map_append, Int.fmod_eq_emod_of_nonneg _ (by decide)]
      rfl
  · intro ys m q82
    refine oEEAAA q82 fun pre post e1 e2 e94 e95 => ?_
    subst e94
    subst e95
    have : post = [] := by cases post with | nil => rfl | cons g post => cases e2
    subst this
    rw [List.append_nil] at e1
    subst e1
    repeat walk_at "ws"
    refine WE.dctM (fun X2 hw2 hl2 => ?_)
    refine WD.cons ?_
    repeat walk_at "ws"
    refine ⟨_, rfl, ?_⟩
    repeat walk_at "ws"
    refine WD.cons ?_
    repeat walk_at "ws"
    refine ⟨_, rfl, ?_⟩
    repeat walk_at "ws"
    refine WD.cons ?_
    repeat walk_at "ws"
    refine ⟨_, rfl, ?_⟩
    repeat walk_at "ws"
    refine WE.callB (by k_is) rfl (by decide) ?_
    repeat walk_at "ws"
    refine WL.sum (.cell (mem_at (k := 0) rfl)) ?_
    repeat walk_at "ws"
    refine W2.mod_ii (by decide) ?_
    repeat walk_at "ws"
    refine WD.nil ?_
    left
    have := h
    unfold bowl0 bowlL bowlD at this
    rw [Int.fmod_eq_emod_of_nonneg _ (by decide)]
    rw [List.append_assoc, List.length_append]
    exact this
end
theorem kts_59 (w : World) : ktsIn (wrt.heap_1 w.params) 59 "BaseException" = true := by
  have e : ∃ o, (wrt.heap_1 w.params).lookup 59 = some o ∧ ktsIn [(59, o)] 59 "BaseException" = true := ⟨_, by k_is, by rfl⟩
  refine oEA e fun o h1 h2 => ?_
  unfold ktsIn at h2 ⊢
  rw [h1]
  exact h2
section
variable {c : Cx} {σ : St} {P P' : V → List M → Prop} {PR : List M → Prop} {lq : Str} {lp : Arguments} {lb : Expr} {ls : Scope} {cv : List (Str × Nat)}
theorem w_kept (hl : 1 ≤ c.X.lv) (hout : c.X.outer = [])
    (h : ∀ (X' : Cb) (sc : Scope), X'.w = c.X.w → X'.lv = c.X.lv - 1 → (∀ m ∈ σ.mem, oldM σ.mem.length m) → WC ⟨X', sc, [], σ.mem.length⟩ (.lam lq lp lb ls cv) [] ⟨lc [("deed", .lam lq lp lb ls cv)], σ.mem⟩ P PR) (hP : ∀ v m, P v m → P' v m) (hR : ∀ m, PR m → P' .none m) : WL c (callV (.ref 652)) [.lam lq lp lb ls cv] σ P' := by
  refine kept_core (P := P) (PR := PR) (x := "deed") (y := "TreeFault") hl hout (by k_is) (by k_is) (fun s u => BindsTo.of_eq rfl) rfl rfl rfl rfl (by k_is) (kts_59 _) (fun X' hw hlv hm => h X' _ hw hlv hm) hP hR (by decide) rfl rfl rfl
end
theorem WX.seq {c : Cx} {σ : St} {st : Stmt} {ss : List Stmt} {PX : Fl → St → Prop} (Q : St → Prop) (h : W0 c st σ fun f σ' => f = .nxt ∧ Q σ') (k : ∀ σ', Q σ' → WX c ss σ' PX) : WX c (st :: ss) σ PX :=
  WX.cons fun hf s fz ml Q' E R kq kr => h hf s fz ml Q' E R (fun f σ' fz' ml' h' tk' u hp x1 R1 hu => by
    obtain ⟨rfl, hq⟩ := hp
    exact kq .nxt _ fz' ml' h' tk' u (k _ hq) x1 R1 hu) fun σ' fz' ml' h' tk' u hp _ _ => by obtain ⟨e, _⟩ := hp; cases e
theorem W0.hasPost {c : Cx} {σ : St} {st : Stmt} {Q : St → Prop} (h : W0 c st σ fun f σ' => f = .nxt ∧ ∃ loc, Has σ'.loc loc ∧ Q ⟨loc, σ'.mem⟩) : W0 c st σ fun f σ' => f = .nxt ∧ Q σ' := fun hf s fz ml Q' E R kq kr =>
  h hf s fz ml Q' E R (fun f σ' fz' ml' h' tk' u hp x1 R1 hu => by
    refine oAEA hp fun e90 loc H hq => ?_
    subst e90
    exact kq _ ⟨loc, σ'.mem⟩ fz' ml' h' tk' u ⟨rfl, hq⟩ x1 (R1.has H) hu) fun σ' fz' ml' h' tk' u hp _ _ => by obtain ⟨e, _⟩ := hp; cases e
theorem FrzL.mono {n : Nat} {mem mem' : List M} (hm : ∀ i x, n ≤ i → mem[i]? = some x → mem'[i]? = some x) {v v' : List V} (F : FrzL n mem v v') : FrzL n mem' v v' :=
  FrzL.rec (motive_1 := fun v v' _ => Frz n mem' v v') (motive_2 := fun v v' _ => FrzL n mem' v v') (motive_3 := fun v v' _ => FrzF n mem' v v') .same (fun a b _ d => .lst a (hm _ _ a b) d) (fun a b _ d => .dct a (hm _ _ a b) d) (fun a a' b b' _ d => .ins a a' (hm _ _ a b) (hm _ _ a' b') d) (fun _ d => .tup d) (fun _ d => .lstT d) (fun _ d => .dctT d) .nil (fun _ _ a b => .cons a b) .nil (fun _ _ a b => .cons a b) F
theorem FrzL.app {n : Nat} {mem : List M} : ∀ {a a' b b' : List V}, FrzL n mem a a' → FrzL n mem b b' → FrzL n mem (a ++ b) (a' ++ b')
  | _, _, _, _, .nil, h => h
  | _, _, _, _, .cons p q, h => .cons p (q.app h)
noncomputable def Bs (m : List M) (k q t : Nat) (b : Bowl) (vs : List Int) : List M := ((m.set k (bowlL b)).set q (bowlD k b)).set t (.dci (tabV vs))
structure Lay (m : List M) (i j t r k q : Nat) (tr : List (Str × V)) : Prop where
  hi : m[i]? = some (.ins 370 j)
  hj : m[j]? = some (.nsd (lc [("table", .ptr t), ("trailer", .ptr r)]))
  hr : m[r]? = some (.dct tr)
  ht : t < m.length
  hk : k < m.length
  hq : q < m.length
  ik : i ≠ k
  iq : i ≠ q
  it : i ≠ t
  jk : j ≠ k
  jq : j ≠ q
  jt : j ≠ t
  rk : r ≠ k
  rq : r ≠ q
  rt : r ≠ t
  kq : k ≠ q
  kt : k ≠ t
  qt : q ≠ t
section
variable {m : List M} {i j t r k q : Nat} {tr : List (Str × V)} {b b' : Bowl} {vs vs' : List Int} {l : List M}
theorem Bs_len : (Bs m k q t b vs).length = m.length := by unfold Bs; rw [List.length_set, List.length_set, List.length_set]
theorem Bs_other {x : Nat} {y : M} (h : m[x]? = some y) (h1 : x ≠ k) (h2 : x ≠ q) (h3 : x ≠ t) : (Bs m k q t b vs)[x]? = some y := by
  unfold Bs
  exact set_ne (Ne.symm h3) (set_ne (Ne.symm h2) (set_ne (Ne.symm h1) h))
theorem Bs_k (L : Lay m i j t r k q tr) : (Bs m k q t b vs)[k]? = some (bowlL b) := by
  unfold Bs
  exact set_ne (Ne.symm L.kt) (set_ne (Ne.symm L.kq) (by rw [List.getElem?_set, if_pos rfl, if_pos L.hk]))
theorem Bs_q (L : Lay m i j t r k q tr) : (Bs m k q t b vs)[q]? = some (bowlD k b) := by
  unfold Bs
  exact set_ne (Ne.symm L.qt) (by rw [List.getElem?_set, if_pos rfl, if_pos (by rw [List.length_set]; exact L.hq)])
theorem Bs_t (L : Lay m i j t r k q tr) : (Bs m k q t b vs)[t]? = some (.dci (tabV vs)) := by
  unfold Bs
  rw [List.getElem?_set, if_pos rfl, if_pos (by rw [List.length_set, List.length_set]; exact L.ht)]
theorem Lay.sh (L : Lay m i j t r k q tr) : ShAt (Bs m k q t b vs ++ l) i j t r (tabV vs) tr :=
  ⟨mem_old (Bs_other L.hi L.ik L.iq L.it), mem_old (Bs_other L.hj L.jk L.jq L.jt), mem_old (Bs_t L), mem_old (Bs_other L.hr L.rk L.rq L.rt)⟩
theorem Bs_bean (L : Lay m i j t r k q tr) : ((Bs m k q t b vs ++ l).set k (bowlL b')).set q (bowlD k b') = Bs m k q t b' vs ++ l := by
  rw [List.set_append_left _ _ (by rw [Bs_len]; exact L.hk), List.set_append_left _ _ (by rw [List.length_set, Bs_len]; exact L.hq)]
  congr 1
  unfold Bs
  rw [List.set_comm (i := t) (j := k) _ _ (Ne.symm L.kt), List.set_comm (i := q) (j := k) _ _ (Ne.symm L.kq), List.set_set, List.set_comm (i := t) (j := q) _ _ (Ne.symm L.qt), List.set_set]
theorem Bs_add (L : Lay m i j t r k q tr) : (Bs m k q t b vs ++ l).set t (.dci (tabV vs')) = Bs m k q t b vs' ++ l := by
  rw [List.set_append_left _ _ (by rw [Bs_len]; exact L.ht)]
  congr 1
  unfold Bs
  rw [List.set_set]
theorem Bs_start (hk : m[k]? = some (bowlL b)) (hq : m[q]? = some (bowlD k b)) (ht : m[t]? = some (.dci (tabV vs))) : Bs m k q t b vs = m := by
  unfold Bs
  rw [set_same hk, set_same hq, set_same ht]
theorem at2 {A l r : List M} {n x : Nat} {y : M} (hA : A.length = n) (h : r[x]? = some y) : (A ++ (l ++ r))[n + l.length + x]? = some y := by
  rw [List.getElem?_append_right (by lia), List.getElem?_append_right (by lia), show n + l.length + x - A.length - l.length = x by lia]; exact h
theorem put2 {A l r : List M} {n x : Nat} {y : M} (hA : A.length = n) : (A ++ (l ++ r)).set (n + l.length + x) y = A ++ (l ++ r.set x y) := by
  rw [List.set_append_right _ _ (by lia), List.set_append_right _ _ (by lia), show n + l.length + x - A.length - l.length = x by lia]
end
theorem pref_bytes {p : Str} (hp : p ∈ prefList) : byteArr (p.cps.toList.map fun c : Nat => (c : Int)) = preB p := by
  simp only [prefList, List.mem_cons, List.not_mem_nil, or_false] at hp
  rcases hp with rfl | rfl | rfl <;> decide +kernel
noncomputable def SvOk (vs : List Int) (start : Int) (sv : V) : Prop := sv = .int start ∨ ∃ n : Nat, sv = refV ((n + 1 : Nat) : Int) ∧ vs[n]? = some start
noncomputable def headV (g : Rg) (sv : V) : List (Str × V) := lc [("P", strV (preB g.pre)), ("St", sv)] ++ (if g.style = "" then [] else lc [("S", nameV g.style)])
inductive RowsOk (vs : List Int) : List Rg → List (Int × V) → Prop
  | nil : RowsOk vs [] []
  | snoc {rs : List Rg} {rows : List (Int × V)} {g : Rg} {sv : V} : RowsOk vs rs rows → SvOk vs g.start sv → RowsOk vs (rs ++ [g]) (rows ++ [(g.first, .dct (headV g sv))])
theorem SvOk.mono {vs vs' : List Int} {s : Int} {sv : V} (h : SvOk vs s sv) (hv : vs <+: vs') : SvOk vs' s sv := by
  rcases h with h | ⟨n, h1, h2⟩
  · exact .inl h
  · exact .inr ⟨n, h1, by obtain ⟨t, rfl⟩ := hv; rw [List.getElem?_append_left (List.getElem?_eq_some_iff.mp h2).1]; exact h2⟩
theorem RowsOk.mono {vs vs' : List Int} (hv : vs <+: vs') : ∀ {rs : List Rg} {rows : List (Int × V)}, RowsOk vs rs rows → RowsOk vs' rs rows
  | _, _, .nil => .nil
  | _, _, .snoc a b => .snoc (a.mono hv) (b.mono hv)
theorem old_sv {n : Nat} {vs : List Int} {s : Int} {sv : V} (h : SvOk vs s sv) : old n sv := by
  rcases h with rfl | ⟨k, rfl, _⟩ <;> simp [old, oldF, refV, lc]
inductive TrJ (rs : List Rg) (m0 : List M) (i k q t : Nat) (items : List V) (loc : List (Str × V)) (m : List M) : Prop
  | mk (pre post : List Rg) (b : Bowl) (vs : List Int) (l : List M) (its : List V) (rows : List (Int × V)) (e1 : rs = pre ++ post) (e2 : items = post.map rgV) (e3 : Bok b) (e4 : vs.length ≤ pre.length) (e5 : m = Bs m0 k q t b vs ++ l) (e6 : RowsOk vs pre rows) (e7 : its.length ≤ 2 * pre.length)
      (e8 : FrzL m0.length m its (rowV rows)) (e9 : loc = lc [("row", .lst its), ("shelf", .ptr i), ("bowl", .ptr q)]) : TrJ rs m0 i k q t items loc m
section
variable {c : Cx} {σ : St} {P : V → List M → Prop} {rs : List Rg} {i j t r k q : Nat} {tr : List (Str × V)} {b0 : Bowl}
theorem w_lawtree (hl : 8 ≤ c.X.lv) (hlen : rs.length ≤ 16) (hS : ∀ g ∈ rs, g.style ∈ styleList ∧ g.pre ∈ prefList) (L : Lay σ.mem i j t r k q tr) (hk : σ.mem[k]? = some (bowlL b0)) (hq : σ.mem[q]? = some (bowlD k b0)) (ht : σ.mem[t]? = some (.dci (tabV []))) (hb : Bok b0)
    (h : ∀ b vs rows, Bok b → RowsOk vs rs rows → P (.dct (lc [("Nums", .lst (rowV rows))])) (Bs σ.mem k q t b vs)) : WL c (callV (.ref 645)) [.ptr i, .ptr q, .lst (rs.map rgV)] σ P := by
  refine WL.def_ (lc [("shelf", .ptr i), ("bowl", .ptr q), ("ranges", .lst (rs.map rgV))]) (by lia) (by k_is) (by k_is) (hb3 fun _ _ _ _ => BindsTo.of_eq rfl) rfl (fun X' hw hlv hm hv hf => ?_) (by decide) rfl rfl rfl
  repeat walk_at "ws"
  refine WE.lst ?_
  repeat walk_at "ws"
  refine ⟨by decide, ?_⟩
  repeat walk_at "ws"
  refine W0.forL (TrJ rs σ.mem i k q t) ?_ ?_ ?_
  · repeat walk_at "ws"
    exact ⟨_, .lst, oldL_rgs, lc [("row", _), ("shelf", _), ("bowl", _)], .cons rfl (.cons rfl (.cons rfl .nil)), [], rs, b0, [], [], [], [], rfl, rfl, hb, by simp, by rw [Bs_start hk hq ht, List.append_nil], .nil, by simp, .nil, rfl⟩
  · rintro X2 hw2 hl2 x rest loc m ⟨pre, post, b, vs, l, its, rows, e1, e2, hbk, hvl, rfl, hrows, hitl, hfr, rfl⟩
    have hl2 : X2.lv = X'.lv := hl2
    cases post with
    | nil => cases e2
    | cons g post =>
      refine oA (List.cons.inj e2) fun e90 e91 => ?_
      subst e90
      subst e91
      obtain ⟨o1, o2⟩ := hS g (by rw [e1]; simp)
      have hpl : pre.length + 1 ≤ 16 := by rw [e1, List.length_append, List.length_cons] at hlen; lia
      refine ⟨_, TgtB.tupA (xs := ["first", "style", "prefix", "start"]) rfl rfl rfl, ?_⟩
      have hlb := Bs_len (m := σ.mem) (k := k) (q := q) (t := t) (b := b) (vs := vs)
      refine WX.seq (fun σ' => ∃ b1 vs1 sv, Bok b1 ∧ vs <+: vs1 ∧ vs1.length ≤ vs.length + 1 ∧ SvOk vs1 g.start sv ∧ σ' = ⟨lc [("head", .ptr (σ.mem.length + l.length + 2)), ("first", .int g.first), ("style", .str g.style), ("row", .lst its), ("shelf", .ptr i), ("bowl", .ptr q)],
        Bs σ.mem k q t b1 vs1 ++ (l ++ [.nsd (lc [("octets", .byt (preB g.pre)), ("is_hex", .bool false)]), .ins 212 (σ.mem.length + l.length), .dct (lc [("P", .ptr (σ.mem.length + l.length + 1)), ("St", sv)])])⟩) ?_ ?_
      · refine W0.hasPost ?_
        have hA := pref_asc o2
        have hall : g.pre.cps.all (· < 128) = true := by
          rw [← Array.all_toList, List.all_eq_true]
          intro c hc
          exact decide_eq_true (hA c hc)
        have hpl : g.pre.cps.toList.length ≤ 2 := by rw [Array.length_toList]; exact pref_len o2
        have hby : byteArr (g.pre.cps.toList.map fun c : Nat => (c : Int)) = preB g.pre := pref_bytes o2
        refine W0.asg ?_
        refine WE.dctM (fun X3 hw3 hl3 => ?_)
        have hl3 : X3.lv = X2.lv := hl3
        refine WD.cons ?_
        repeat walk_at "ws"
        refine ⟨_, rfl, ?_⟩
        refine WE.callG (by k_is) (by k_is) ?_
        refine WA.cons ?_
        refine WE.callT (by k_is) rfl (by decide) ?_
        refine WA.cons ?_
        refine WE.lmap g.pre.cps.toList (fun c => V.str ⟨#[c]⟩) (fun c : Nat => V.int (c : Int)) (fun _ => true) (Bs σ.mem k q t b vs ++ l) ?_ ?_ ?_
        · repeat walk_at "ws"
          exact ⟨.str hall, by lia, rfl⟩
        · intro cc hc
          refine ⟨_, .name rfl, fun X4 hw4 hl4 => ⟨rfl, rfl, fun _ => ?_⟩⟩
          refine WE.callB (by k_is) rfl (by decide) ?_
          repeat walk_at "ws"
          refine WL.ord rfl ?_
          exact ⟨rfl, rfl⟩
        rw [filter_tt, show (g.pre.cps.toList.map fun c : Nat => V.int (c : Int)) = (g.pre.cps.toList.map fun c : Nat => (c : Int)).map V.int by rw [List.map_map]; rfl]
        repeat walk_at "ws"
        refine WL.bytes .tree (fun z hz => ?_) (by rw [List.length_map]; lia) ?_
        · refine oEA (List.mem_map.mp hz) fun cc hc e92 => ?_
          subst e92
          have := hA cc hc
          lia
        rw [hby]
        repeat walk_at "ws"
        have hne0 : ∀ b vs (l : List M), Bs σ.mem k q t b vs ++ l ≠ [] := fun b vs l e => by
          have := congrArg List.length e
          have hlt := L.ht
          rw [List.length_append, Bs_len, List.length_nil] at this
          lia
        refine w_StringE (n := σ.mem.length + l.length) (m1 := Bs σ.mem k q t b vs ++ (l ++ [.nsd (lc [("octets", .byt (preB g.pre)), ("is_hex", .bool false)]), .ins 212 (σ.mem.length + l.length)])) (by show 2 ≤ X3.lv; lia) (hne0 _ _ _) (by rw [List.length_append, hlb]) (by rw [List.append_assoc]) ?_
        refine WD.cons ?_
        repeat walk_at "ws"
        refine ⟨_, rfl, ?_⟩
        refine WE.ife ?_
        refine WT.cmp ?_
        refine WE.callG (by k_is) (by k_is) ?_
        repeat walk_at "ws"
        refine w_bean (k := k) (q := q) (b := b) (by show 1 ≤ X3.lv; lia) L.kq (by decide) (by decide) (mem_old (Bs_k L)) (mem_old (Bs_q L)) hbk.len hbk.lat ?_
        try dsimp only
        rw [Bs_bean L]
        repeat walk_at "ws"
        have hlb2 := Bs_len (m := σ.mem) (k := k) (q := q) (t := t) (b := b.next 2) (vs := vs)
        split
        · repeat walk_at "ws"
          refine WE.methK (f := .ref 341) (by k_is) ?_
          repeat walk_at "ws"
          refine ⟨Meth.ins (ShAt.ins (L.sh)) rfl (by k_is) (by k_is) (by k_is), ?_⟩
          repeat walk_at "ws"
          refine w_add (vs := vs) (b := g.start) (by show 5 ≤ X3.lv; lia) (by lia) L.sh ?_
          try dsimp only
          rw [Bs_add L]
          refine WD.nil ?_
          refine ⟨rfl, lc [("head", _), ("first", _), ("style", _), ("row", _), ("shelf", _), ("bowl", _)], .cons rfl (.cons rfl (.cons rfl (.cons rfl (.cons rfl (.cons rfl .nil))))), b.next 2, vs ++ [g.start], refV ((vs.length + 1 : Nat) : Int), hbk.next, List.prefix_append _ _, by simp, .inr ⟨vs.length, rfl, by simp⟩, ?_⟩
          have hlb3 := Bs_len (m := σ.mem) (k := k) (q := q) (t := t) (b := b.next 2) (vs := vs ++ [g.start])
          rw [List.append_assoc, List.append_assoc, List.length_append, List.length_append, hlb3, ← Nat.add_assoc]
          rfl
        · repeat walk_at "ws"
          refine WD.nil ?_
          refine ⟨rfl, lc [("head", _), ("first", _), ("style", _), ("row", _), ("shelf", _), ("bowl", _)], .cons rfl (.cons rfl (.cons rfl (.cons rfl (.cons rfl (.cons rfl .nil))))), b.next 2, vs, .int g.start, hbk.next, List.prefix_refl _, by lia, .inl rfl, ?_⟩
          rw [List.append_assoc, List.append_assoc, List.length_append, List.length_append, hlb2, ← Nat.add_assoc]
          rfl
      · rintro σ' ⟨b1, vs1, sv, hb1, hpre, hv1, hsv, rfl⟩
        have hlb1 := Bs_len (m := σ.mem) (k := k) (q := q) (t := t) (b := b1) (vs := vs1)
        have hkeep : ∀ r x y, σ.mem.length ≤ x → (Bs σ.mem k q t b vs ++ l)[x]? = some y → (Bs σ.mem k q t b1 vs1 ++ (l ++ r))[x]? = some y := fun r x y hx e => by
          rw [List.getElem?_append_right (by lia), hlb] at e
          rw [List.getElem?_append_right (by lia), hlb1, List.getElem?_append_left (get_lt e)]
          exact e
        by_cases hst : g.style = ""
        · repeat walk_at "ws"
          rw [show (g.style != Str.ofString "") = false by simpa using hst]
          repeat walk_at "ws"
          refine WE.lst ?_
          repeat walk_at "ws"
          refine ⟨Nat.le_of_ble_eq_true rfl, ?_⟩
          refine W2.add_ll .tree .tree (by simp; lia) ?_
          repeat walk_at "ws"
          refine ⟨lc [("row", _), ("shelf", _), ("bowl", _)], .cons rfl (.cons rfl (.cons rfl .nil)), pre ++ [g], post, b1, vs1, _, _, rows ++ [(g.first, .dct (headV g sv))], by rw [e1]; simp, rfl, hb1, by simp; lia, rfl, .snoc (hrows.mono hpre) hsv, by simp; lia, ?_, rfl⟩
          rw [rowV_app]
          refine (hfr.mono (hkeep _)).app (.cons (.same trivial) (.cons ?_ .nil))
          unfold headV
          rw [if_pos hst]
          exact .dct (by lia) (at2 (x := 2) hlb1 rfl) (.cons (.ins (by lia) (by lia) (at2 (x := 1) hlb1 rfl) (at2 (x := 0) hlb1 rfl) (.cons (.same trivial) (.cons (.same trivial) .nil))) (.cons (.same (old_sv hsv)) .nil))
        · repeat walk_at "ws"
          rw [show (g.style != Str.ofString "") = true by simpa using hst]
          repeat walk_at "ws"
          refine WE.callG (by k_is) (by k_is) ?_
          repeat walk_at "ws"
          refine w_NameE (n := σ.mem.length + l.length + 3) (m1 := Bs σ.mem k q t b1 vs1 ++ (l ++ [.nsd (lc [("octets", .byt (preB g.pre)), ("is_hex", .bool false)]), .ins 212 (σ.mem.length + l.length), .dct (lc [("P", .ptr (σ.mem.length + l.length + 1)), ("St", sv)]), .nsd (lc [("text", .str g.style)]), .ins 190 (σ.mem.length + l.length + 3)])) (by show 2 ≤ X2.lv; lia) (by simp) (by simp [hlb1]; lia) (by simp) ?_
          repeat walk_at "ws"
          refine WS.dct (at2 (x := 2) hlb1 rfl) (Nat.le_of_ble_eq_true rfl) ?_
          try dsimp only
          rw [put2 hlb1]
          show WX _ _ ⟨_, Bs σ.mem k q t b1 vs1 ++ (l ++ [.nsd (lc [("octets", .byt (preB g.pre)), ("is_hex", .bool false)]), .ins 212 (σ.mem.length + l.length), .dct (lc [("P", .ptr (σ.mem.length + l.length + 1)), ("St", sv), ("S", .ptr (σ.mem.length + l.length + 3 + 1))]), .nsd (lc [("text", .str g.style)]), .ins 190 (σ.mem.length + l.length + 3)])⟩ _
          repeat walk_at "ws"
          refine WE.lst ?_
          repeat walk_at "ws"
          refine ⟨Nat.le_of_ble_eq_true rfl, ?_⟩
          refine W2.add_ll .tree .tree (by simp; lia) ?_
          repeat walk_at "ws"
          refine ⟨lc [("row", _), ("shelf", _), ("bowl", _)], .cons rfl (.cons rfl (.cons rfl .nil)), pre ++ [g], post, b1, vs1, _, _, rows ++ [(g.first, .dct (headV g sv))], by rw [e1]; simp, rfl, hb1, by simp; lia, rfl, .snoc (hrows.mono hpre) hsv, by simp; lia, ?_, rfl⟩
          rw [rowV_app]
          refine (hfr.mono (hkeep _)).app (.cons (.same trivial) (.cons ?_ .nil))
          unfold headV
          rw [if_neg hst]
          exact .dct (by lia) (at2 (x := 2) hlb1 rfl) (.cons (.ins (by lia) (by lia) (at2 (x := 1) hlb1 rfl) (at2 (x := 0) hlb1 rfl) (.cons (.same trivial) (.cons (.same trivial) .nil))) (.cons (.same (old_sv hsv)) (.cons (.ins (by lia) (by lia) (at2 (x := 4) hlb1 rfl) (at2 (x := 3) hlb1 rfl) (.cons (.same trivial) .nil)) .nil)))
  · rintro loc' loc m H ⟨pre, post, b, vs, l, its, rows, e1, e2, hbk, hvl, rfl, hrows, hitl, hfr, rfl⟩
    have : post = [] := by cases post with | nil => rfl | cons g post => cases e2
    subst this
    rw [List.append_nil] at e1
    subst e1
    refine WX.loc H ?_
    repeat walk_at "ws"
    refine WE.dct (fun X2 hw2 hl2 => ?_)
    refine WD.cons ?_
    repeat walk_at "ws"
    refine ⟨_, rfl, ?_⟩
    repeat walk_at "ws"
    refine WD.nil ?_
    have hmm : ∀ y ∈ Bs σ.mem k q t b vs, oldM (Bs σ.mem k q t b vs).length y := fun y hy => by
      rw [Bs_len]
      unfold Bs at hy
      rcases List.mem_or_eq_of_mem_set hy with hy | rfl
      · rcases List.mem_or_eq_of_mem_set hy with hy | rfl
        · rcases List.mem_or_eq_of_mem_set hy with hy | rfl
          · exact hm y hy
          · unfold bowlL oldM; exact oldL_leaf fun v hv => by obtain ⟨z, _, rfl⟩ := List.mem_map.mp hv; exact trivial
        · unfold bowlD oldM; simp [oldF, old, lc]; exact L.hk
      · exact tabF_old
    rw [← Bs_len (m := σ.mem) (k := k) (q := q) (t := t) (b := b) (vs := vs)] at hfr ⊢
    exact out_frz (v' := .dct (lc [("Nums", .lst (rowV rows))])) (.dctT (.cons (.lstT hfr) .nil)) hmm (h b vs rows hbk hrows)
end
section
variable {c : Cx} {σ : St} {ρl : List (Str × V)} {ρm : List M} {P : V → List M → Prop} {PX : Fl → St → Prop} {e e2 : Expr} {rest : List Expr} {pos : Pos} {a : V} {x : Str}
noncomputable def isStrV (x : Str) : Value → Bool
  | .str y _ => y == x
  | _ => false
theorem strs_at {fz ml : Led} : ∀ {xs : List Str} {us : List Value} {i : Nat} {y : Str}, c.l fz ml (xs.map V.str) us → xs[i]? = some y → ∃ t, us[i]? = some (.str y t) := fun {xs us i y} h e => by
  obtain ⟨u, hu, iv⟩ := l_get (v := .str y) h (by rw [List.getElem?_map, e]; rfl)
  refine oE (v_str iv) fun t e91 => ?_
  subst e91
  exact ⟨t, hu⟩
theorem WL.index_s {xs : List Str} {j : Nat} (S : LstAt ⟨ρl, ρm⟩ a (xs.map V.str)) (hj : xs[j]? = some x) (hno : ∀ i, i < j → xs[i]? ≠ some x) (hl : xs.length ≤ 1000) (h : P (.int j) ρm) : WL c (callV (.builtin "list.index")) [a, .str x] ⟨ρl, ρm⟩ P :=
  fun s fz ml us Q E R hu kq => by
    obtain ⟨u1, _, rfl, hi, hu⟩ := l_cons hu
    obtain ⟨u2, _, rfl, hx, hu⟩ := l_cons hu
    obtain rfl := l_nil hu
    refine oE (v_str hx) fun t e91 => ?_
    subst e91
    refine hold fun _ hK9 => ?_
    refine oEEEEAAAAAA (S.get R hi) fun ad o ws n e94 hg e1 _ e2 l eo => ?_
    subst e94
    refine hK9 ?_
    subst eo
    have hlw : ws.length = xs.length := by rw [l_len l, List.length_map]
    have hjl := get_lt hj
    have at' : ∀ i (hi : i < ws.toArray.size), ∃ y t', ws.toArray[i] = .str y t' ∧ xs[i]? = some y := fun i hi => by
      have hi' : i < xs.length := by rw [List.size_toArray, hlw] at hi; exact hi
      refine oE (strs_at (c := c) l (List.getElem?_eq_getElem hi')) fun t' ht' => ?_
      refine ⟨xs[i], t', ?_, List.getElem?_eq_getElem hi'⟩
      have q := (List.getElem?_eq_some_iff.mp ht').2
      simpa using q
    refine call_meets PySem.F.slot_list_index ⟨_, hg, rfl⟩ PySem.F.entry_list_index (PySem.F.args_list_index_2 _ _)
      (MeetsSeq.list_index ad ws.toArray n (.str x t) (isStrV x) (fun y hy => ?_) j (by rw [List.size_toArray, hlw]; exact hjl) (by lia) ?_ ?_) ⟨hg, kq _ _ fz ml s.heap _ _ h .rfl R mk_int⟩
    · obtain ⟨i, hi, rfl⟩ := Array.getElem_of_mem hy
      refine oEEA (at' i hi) fun y t' q _ => ?_
      rw [q]
      exact eqGives_str y x t' t
    · obtain ⟨y, t', q, q2⟩ := at' j (by rw [List.size_toArray, hlw]; exact hjl)
      rw [q]
      rw [hj] at q2
      cases q2
      simp [isStrV]
    · intro i hi hlt
      refine oEEA (at' i hi) fun y t' q q2 => ?_
      rw [q]
      have := hno i hlt
      rw [q2] at this
      simp only [isStrV]
      exact beq_false_of_ne fun z => this (by rw [z])
theorem WE.and2 (h : WE c e ⟨ρl, ρm⟩ fun v m => WU c v ⟨ρl, m⟩ fun b m' => if b = true then WE c e2 ⟨ρl, m'⟩ P else P v m') : WE c (.BoolOp .And [e, e2] pos) ⟨ρl, ρm⟩ P :=
  fun s fz ml Q E R k => BoolOp_and (h s fz ml _ E R fun v m fz1 ml1 h1 tk1 u hv x1 R1 i1 => hv _ fz1 ml1 u _ E R1 i1 fun b m' fz2 ml2 h2 tk2 hb x2 R2 => by
    cases b with
    | true => exact BoolOp_one (hb _ fz2 ml2 Q E R2 (k.after (x1.trans x2)))
    | false => exact k _ _ fz2 ml2 h2 tk2 _ hb (x1.trans x2) R2 (isVmono x2 i1))
inductive Sto (c : Cx) : List Str → List V → St → St → Prop
  | nil {σ : St} : Sto c [] [] σ σ
  | loc {x : Str} {xs : List Str} {w : V} {ws : List V} {σ σ' : St} : c.sc.names.lookup x = some .local → Sto c xs ws ⟨(x, w) :: σ.loc, σ.mem⟩ σ' → Sto c (x :: xs) (w :: ws) σ σ'
  | cel {x : Str} {xs : List Str} {w : V} {ws : List V} {σ σ' : St} {i : Nat} {ov : Option V} : c.cel.lookup x = some i → c.sc.names.lookup x = some .cell → σ.mem[i]? = some (.cel ov) → Sto c xs ws ⟨σ.loc, σ.mem.set i (.cel (some w))⟩ σ' → Sto c (x :: xs) (w :: ws) σ σ'
theorem Sto.len {xs : List Str} {ws : List V} {σ σ' : St} (h : Sto c xs ws σ σ') : ws.length = xs.length := by
  induction h with
  | nil => rfl
  | loc _ _ ih => simp [ih]
  | cel _ _ _ _ ih => simp [ih]
theorem Sto.sound (hf : c.IsFn) {xs : List Str} {ws : List V} {σ σ' : St} (S : Sto c xs ws σ σ') : ∀ {es : List Expr} {us : List Value} {s : Shared} {fz ml : Led} {Q : Unit → Shared → Prop} {E : Value → Shared → Prop}, nmsOf es = some xs →
    Rel c σ fz ml s.heap → c.l fz ml ws us → (∀ ml' h' tk', Rel c σ' fz ml' h' → Ext fz ml fz ml' → Q () (shr s h' tk')) → wpAny c.M c.A (assignInOrder ((assignEach es c.env).map (·.2)) us) Q E s := by
  induction S with
  | nil =>
    intro es us s fz ml Q E h R i k
    rw [nms_nil h, l_nil i]
    exact assignInOrder_nil (k ml s.heap s.toks R .rfl)
  | @loc x xs w ws σ σ' hx _ ih =>
    intro es us s fz ml Q E h R i k
    refine oEEA (nms_cons h) fun p r e92 h2 => ?_
    subst e92
    refine oEEAA (l_cons i) fun u us' e92 i1 i2 => ?_
    subst e92
    rw [each_Name, List.map_cons]
    refine assignInOrder_cons (PyProof.Rows.assign_Name ?_)
    refine hold fun _ hK9 => ?_
    obtain ⟨mm, f, F, LA, lo⟩ := R.fr
    refine hK9 ?_
    rw [hf.cm] at LA
    obtain rfl : f = mm := LA
    rw [Cx.env, hf.env]
    refine storeX_L F R.news (fun h' F' N' => ?_) R.ok.kind (by show List.lookup x c.X.cs.names = _; rw [← hf.sc]; exact hx)
    have R' := R.stored (x := x) hf.cm F lo F' N' i1
    rw [← hf.env]
    exact ih (s := shr s h' _) h2 R' i2 k
  | @cel x xs w ws σ σ' j ov hc hk hm _ ih =>
    intro es us s fz ml Q E h R i k
    refine oEEA (nms_cons h) fun p r e92 h2 => ?_
    subst e92
    refine oEEAA (l_cons i) fun u us' e92 i1 i2 => ?_
    subst e92
    rw [each_Name, List.map_cons]
    refine assignInOrder_cons (PyProof.Rows.assign_Name ?_)
    refine Rel.setCel (loc := σ.loc) (m := σ.mem) hf R hc hm i1 hk fun ml2 h2' tk2 R2 x2 => ?_
    exact ih (s := shr s h2' tk2) h2 R2 (isLmono x2 i2) fun ml3 h3 tk3 R3 x3 => k ml3 h3 tk3 R3 (x2.trans x3)
theorem W0.unpX {elts : List Expr} {kk : Nat} {tpos : Pos} {xs : List Str} (hn : nmsOf elts = some xs) (h : WE c e ⟨ρl, ρm⟩ fun v m => ∃ ws σ', v = .tup ws ∧ Sto c xs ws ⟨ρl, m⟩ σ' ∧ PX .nxt σ')
    (h2 : ∀ env : Env, env.scope = c.sc → swappedStores [Expr.Tuple elts kk tpos] e env = pure none) (h1 : ∀ env : Env, env.scope = c.sc → swapsWithSole [Expr.Tuple elts kk tpos] e pos.line env = pure false) : W0 c (.Assign [.Tuple elts kk tpos] e pos) ⟨ρl, ρm⟩ PX :=
  fun hf s fz ml Q E R k kr => Assign_Tuple (h s fz ml _ E R fun v m fz1 ml1 h1 tk1 u hv x1 R1 i1 => by
    refine oEEAA hv fun ws σ' e92 hS hp => ?_
    subst e92
    refine hold fun _ hK9 => ?_
    obtain ⟨a, o, us, n, rfl, z, e1, e2, i⟩ := v_tup i1
    refine hK9 ?_
    refine hold fun _ hK9 => ?_
    obtain ⟨mm, f, F, LA, lo⟩ := R1.fr
    refine hK9 ?_
    refine oA (each_nms (env := c.env) hn) fun n1 n2 => ?_
    refine unpackN_ F R1.news ⟨o, R1.zf z, e1, n, e2⟩ rfl (by rw [n1, List.size_toArray, l_len i, hS.len]) n2 fun h' F' N' => ?_
    exact hS.sound hf hn (R1.move F' LA lo N') i fun ml2 h2 tk2 R2 x2 => k _ _ fz1 ml2 h2 tk2 _ hp (x1.trans x2).n R2 (rfl : Flow.next = _)) (h1 _ R.ok.es) (h2 _ R.ok.es)
end
theorem tab_C : ∀ k : Fin 10, (["", Txt.item "CDM" 0, Txt.mul (Txt.item "CDM" 0) 2, Txt.mul (Txt.item "CDM" 0) 3, Txt.item "CDM" 0 ++ Txt.item "CDM" 1, Txt.item "CDM" 1, Txt.item "CDM" 1 ++ Txt.item "CDM" 0, Txt.item "CDM" 1 ++ Txt.mul (Txt.item "CDM" 0) 2, Txt.item "CDM" 1 ++ Txt.mul (Txt.item "CDM" 0) 3, Txt.item "CDM" 0 ++ Txt.item "CDM" 2] : List Str)[k.val]? = some (numC.getD k.val Str.empty) := by decide +kernel
theorem tab_X : ∀ k : Fin 10, (["", Txt.item "XLC" 0, Txt.mul (Txt.item "XLC" 0) 2, Txt.mul (Txt.item "XLC" 0) 3, Txt.item "XLC" 0 ++ Txt.item "XLC" 1, Txt.item "XLC" 1, Txt.item "XLC" 1 ++ Txt.item "XLC" 0, Txt.item "XLC" 1 ++ Txt.mul (Txt.item "XLC" 0) 2, Txt.item "XLC" 1 ++ Txt.mul (Txt.item "XLC" 0) 3, Txt.item "XLC" 0 ++ Txt.item "XLC" 2] : List Str)[k.val]? = some (numX.getD k.val Str.empty) := by decide +kernel
theorem tab_I : ∀ k : Fin 10, (["", Txt.item "IVX" 0, Txt.mul (Txt.item "IVX" 0) 2, Txt.mul (Txt.item "IVX" 0) 3, Txt.item "IVX" 0 ++ Txt.item "IVX" 1, Txt.item "IVX" 1, Txt.item "IVX" 1 ++ Txt.item "IVX" 0, Txt.item "IVX" 1 ++ Txt.mul (Txt.item "IVX" 0) 2, Txt.item "IVX" 1 ++ Txt.mul (Txt.item "IVX" 0) 3, Txt.item "IVX" 0 ++ Txt.item "IVX" 2] : List Str)[k.val]? = some (numI.getD k.val Str.empty) := by decide +kernel
noncomputable def figTab (sg : Str) : List Str := ["", Txt.item sg 0, Txt.mul (Txt.item sg 0) 2, Txt.mul (Txt.item sg 0) 3, Txt.item sg 0 ++ Txt.item sg 1, Txt.item sg 1, Txt.item sg 1 ++ Txt.item sg 0, Txt.item sg 1 ++ Txt.mul (Txt.item sg 0) 2, Txt.item sg 1 ++ Txt.mul (Txt.item sg 0) 3, Txt.item sg 0 ++ Txt.item sg 2]
noncomputable def FigAt (r : Str × Int × Str) : Prop := r.1.length = 3 ∧ 0 ≤ r.2.1 ∧ r.2.1 ≤ 9 ∧ r.2.2.length ≤ 4 ∧ (figTab r.1)[r.2.1.toNat]? = some r.2.2
theorem getD_len {l : List Str} (h : ∀ y ∈ l, y.length ≤ 4) (k : Nat) : (l.getD k Str.empty).length ≤ 4 := by
  rw [List.getD_eq_getElem?_getD]
  cases e : l[k]? with
  | none => decide
  | some y => exact h y (List.mem_of_getElem? e)
theorem fig_at {sg : Str} {tb : List Str} {n : Int} (h3 : sg.length = 3) (hl : ∀ y ∈ tb, y.length ≤ 4) (ht : ∀ k : Fin 10, (figTab sg)[k.val]? = some (tb.getD k.val Str.empty)) : FigAt (sg, n % 10, tb.getD (n % 10).toNat Str.empty) :=
  ⟨h3, by show 0 ≤ n % 10; lia, by show n % 10 ≤ 9; lia, getD_len hl _, ht ⟨(n % 10).toNat, by lia⟩⟩
section
variable {c : Cx} {σ : St} {P : V → List M → Prop} {n : Int}
theorem w_num (hl : 10 ≤ c.X.lv) (hne : σ.mem ≠ []) (h1 : 1 ≤ n) (h2 : n ≤ 1000002) (h : (numeralS n).length ≤ 3000 → P (.str (numeralS n)) σ.mem) : WL c (callV (.ref 628)) [.int n] σ P := by
  refine WL.def_ (lc [("number", .int n)]) (by lia) (by k_is) (by k_is) (hb1 fun _ _ => BindsTo.of_eq rfl) rfl (fun X' hw hlv hm hv hf => ?_) (by decide) rfl rfl rfl
  have d1 : ∀ a : Int, a.fdiv 1000 = a / 1000 := fun a => Int.fdiv_eq_ediv_of_nonneg _ (by decide)
  have d2 : ∀ a : Int, a.fdiv 100 = a / 100 := fun a => Int.fdiv_eq_ediv_of_nonneg _ (by decide)
  have d3 : ∀ a : Int, a.fdiv 10 = a / 10 := fun a => Int.fdiv_eq_ediv_of_nonneg _ (by decide)
  have d4 : ∀ a : Int, a.fmod 10 = a % 10 := fun a => Int.fmod_eq_emod_of_nonneg _ (by decide)
  repeat walk_at "ws"
  refine W2.div_ii (by decide) (by decide) ?_
  rw [d1]
  have hm0 := mul_len "M" (n / 1000) (by lia)
  have hm1 : (Txt.mul "M" (n / 1000)).length ≤ 1001 := by
    rw [hm0, show (Str.ofString "M" : Str).length = 1 from rfl]
    lia
  refine W2.mul_si (by show 1 ≤ 16; decide) (by lia) (by lia) ?_
  repeat walk_at "ws"
  refine W0.forL (fun items loc m => ∃ (rs : List (Str × Int × Str)) (acc : Str), items = rs.map (fun r => V.tup [.str r.1, .int r.2.1]) ∧ (∀ r ∈ rs, FigAt r) ∧ m = σ.mem ∧ loc = lc [("text", .str acc)] ∧ acc.length + 4 * rs.length ≤ 1020 ∧ rs.foldl (fun a r => a ++ r.2.2) acc = numeralS n) ?_ ?_ ?_
  · refine WE.tup ?_
    refine WA.cons ?_
    refine WE.tup ?_
    repeat walk_at "ws"
    refine W2.div_ii (by decide) (by decide) ?_
    rw [d2]
    repeat walk_at "ws"
    refine W2.mod_ii (by decide) ?_
    rw [d4]
    repeat walk_at "ws"
    refine ⟨Nat.le_of_ble_eq_true rfl, ?_⟩
    refine WA.cons ?_
    refine WE.tup ?_
    repeat walk_at "ws"
    refine W2.div_ii (by decide) (by decide) ?_
    rw [d3]
    repeat walk_at "ws"
    refine W2.mod_ii (by decide) ?_
    rw [d4]
    repeat walk_at "ws"
    refine ⟨Nat.le_of_ble_eq_true rfl, ?_⟩
    refine WA.cons ?_
    refine WE.tup ?_
    repeat walk_at "ws"
    refine W2.mod_ii (by decide) ?_
    rw [d4]
    repeat walk_at "ws"
    refine ⟨Nat.le_of_ble_eq_true rfl, ?_⟩
    repeat walk_at "ws"
    refine ⟨Nat.le_of_ble_eq_true rfl, ?_⟩
    refine ⟨_, .tup, by simp [oldL, old], lc [("text", _)], .cons rfl .nil, [("CDM", n / 100 % 10, numC.getD (n / 100 % 10).toNat Str.empty), ("XLC", n / 10 % 10, numX.getD (n / 10 % 10).toNat Str.empty), ("IVX", n % 10, numI.getD (n % 10).toNat Str.empty)], Txt.mul "M" (n / 1000), rfl, ?_, rfl, rfl, by simp only [List.length_cons, List.length_nil]; lia, by unfold numeralS; rfl⟩
    intro r hr
    simp only [List.mem_cons, List.not_mem_nil, or_false] at hr
    rcases hr with rfl | rfl | rfl
    · exact fig_at rfl (by decide) tab_C
    · exact fig_at rfl (by decide) tab_X
    · exact fig_at rfl (by decide) tab_I
  · intro X2 hw2 hl2 y rest loc m q87
    obtain ⟨rs, acc, e1, hr, rfl, rfl, hB, hR⟩ := q87
    cases rs with
    | nil => cases e1
    | cons r0 rs =>
      refine oA (List.cons.inj e1) fun e90 e91 => ?_
      subst e90
      subst e91
      obtain ⟨sg, fg, sh⟩ := r0
      refine oAAAA (hr _ (.head _)) fun k3 k0 k9 k4 kt => ?_
      dsimp only at k3 k0 k9 k4 kt
      rw [List.length_cons] at hB
      have i0 := item_len sg 0
      have i1 := item_len sg 1
      have i2 := item_len sg 2
      have m2 : (Txt.mul (Txt.item sg 0) 2).length = 2 := by rw [mul_len _ _ (by decide), i0]; rfl
      have m3 : (Txt.mul (Txt.item sg 0) 3).length = 3 := by rw [mul_len _ _ (by decide), i0]; rfl
      refine ⟨_, TgtB.tupA (xs := ["signs", "figure"]) rfl rfl rfl, ?_⟩
      refine WX.cons ?_
      refine W0.unpS ["low", "middle", "high"] rfl ?_ (by rintro ⟨⟩ ⟨⟩; rfl) (by rintro ⟨⟩ ⟨⟩; rfl)
      refine WE.tup ?_
      repeat walk_at "ws"
      refine W2.item_s (x := sg) (by decide) (by lia) (by lia) ?_
      repeat walk_at "ws"
      refine W2.item_s (x := sg) (by decide) (by lia) (by lia) ?_
      repeat walk_at "ws"
      refine W2.item_s (x := sg) (by decide) (by lia) (by lia) ?_
      repeat walk_at "ws"
      refine ⟨Nat.le_of_ble_eq_true rfl, ?_⟩
      refine ⟨_, rfl, rfl, ?_⟩
      repeat walk_at "ws"
      refine WE.lst ?_
      repeat walk_at "ws"
      refine W2.mul_si (by lia) (by decide) (by decide) ?_
      repeat walk_at "ws"
      refine W2.mul_si (by lia) (by decide) (by decide) ?_
      repeat walk_at "ws"
      refine W2.add_ss (by lia) ?_
      repeat walk_at "ws"
      refine W2.add_ss (by lia) ?_
      repeat walk_at "ws"
      refine W2.mul_si (by lia) (by decide) (by decide) ?_
      refine W2.add_ss (by lia) ?_
      repeat walk_at "ws"
      refine W2.mul_si (by lia) (by decide) (by decide) ?_
      refine W2.add_ss (by lia) ?_
      repeat walk_at "ws"
      refine W2.add_ss (by lia) ?_
      repeat walk_at "ws"
      refine ⟨Nat.le_of_ble_eq_true rfl, ?_⟩
      repeat walk_at "ws"
      refine W2.item_l (k := fg) (v := .str sh) .tree k0 (by lia) ?_ ?_
      · show ((figTab sg).map V.str)[fg.toNat]? = _
        rw [List.getElem?_map, kt]
        rfl
      refine W2.add_ss (by lia) ?_
      repeat walk_at "ws"
      exact ⟨lc [("text", _)], .cons rfl .nil, rs, acc ++ sh, rfl, fun q hq => hr q (.tail _ hq), rfl, rfl, by rw [str_len_append]; lia, hR⟩
  · intro loc' loc m H q84
    obtain ⟨rs, acc, e1, hr, rfl, rfl, hB, hR⟩ := q84
    have e1 : rs = [] := List.map_eq_nil_iff.mp e1.symm
    subst e1
    refine WX.loc H ?_
    repeat walk_at "ws"
    left
    rw [← hR] at h
    exact h (by show acc.length ≤ 3000; rw [List.length_nil] at hB; lia)
theorem w_ll (hl : 10 ≤ c.X.lv) (hne : σ.mem ≠ []) (h1 : 1 ≤ n) (h2 : n ≤ 1000002) (h : (lettersS n).length ≤ 40000 → P (.str (lettersS n)) σ.mem) : WL c (callV (.ref 635)) [.int n] σ P :=
  w_lawletters (by lia) h1 h2 (h (lettersS_len n h1 h2))
end
theorem plain_rgs : ∀ rs : List Rg, plainL (rs.map rgV) = true
  | [] => rfl
  | g :: rs => Bool.and_eq_true_iff.mpr ⟨rfl, plain_rgs rs⟩
theorem lay_rgs : ∀ {rs : List Rg}, (∀ g ∈ rs, OkG g) → PyData.canLayAll0 (toDL (rs.map rgV)) = true
  | [], _ => by simp [toDL, PyData.canLayAll0]
  | g :: rs, h => by
    refine oAA (h g (.head _)) fun o1 o2 _ => ?_
    have := lay_rgs (rs := rs) fun g hg => h g (.tail _ hg)
    simp [rgV, toDL, toD, PyData.canLayAll0, PyData.canLay0, pref_ok o2, style_ok o1, this]
theorem dep_rgs : ∀ rs : List Rg, PyData.depthAll (toDL (rs.map rgV)) ≤ 5
  | [] => by simp [toDL, PyData.depthAll]
  | g :: rs => by
    have := dep_rgs rs
    simp [rgV, toDL, toD, PyData.depthAll, PyData.depth]
    lia
theorem shaped_rgs {rs : List Rg} (h : ∀ g ∈ rs, OkG g) : SeqAt.shaped (.list (toDL (rs.map rgV))) = true := by
  have h1 := dep_rgs rs
  have h2 : PyData.depth (.list (toDL (rs.map rgV))) ≤ 64 := by simp only [PyData.depth]; lia
  show (PyData.canLay0 (.list (toDL (rs.map rgV))) && decide (PyData.depth (.list (toDL (rs.map rgV))) ≤ 64)) = true
  rw [Bool.and_eq_true]
  exact ⟨by simp only [PyData.canLay0]; exact lay_rgs h, decide_eq_true h2⟩
section
variable {c : Cx} {σ : St} {P : V → List M → Prop} {rs : List Rg} {i : Int}
theorem w_lawlabel (hl : 15 ≤ c.X.lv) (hne : σ.mem ≠ []) (h0 : 0 ≤ i) (h3 : i ≤ 2) (hlen : rs.length ≤ 1000) (hG : ∀ g ∈ rs, OkG g) (h : P (.str (labelS rs i)) σ.mem) : WL c (callV (.ref 640)) [.lst (rs.map rgV), .int i] σ P := by
  refine WR.no (WR.defC (lc [("ranges", .lst (rs.map rgV)), ("index", .int i)]) [("index", some (.int i))] (lc [("ranges", .lst (rs.map rgV))]) (by lia) (by k_is) (by k_is) (hb2 fun _ _ _ => BindsTo.of_eq rfl) rfl (by decide) rfl (hs_cons rfl hs_nil) (hc_cons rfl hc_nil) (fun X' hw hlv hm hv hf => ?_) rfl rfl rfl)
  repeat walk_at "ws"
  refine W0.lmapA rs rgV rgV (fun g => decide (g.first ≤ i)) (σ.mem ++ [M.cel (some (.int i))]) ?_ ?_ ?_ (hsw := ?_)
  · repeat walk_at "ws"
    exact ⟨.lst, by lia, rfl⟩
  · intro g hg
    refine ⟨_, .name rfl, fun X2 hw2 hl2 => ?_⟩
    show WT _ _ _ _
    repeat walk_at "ws"
    refine W2.item_t (j := 0) (v := .int g.first) (by decide) (by decide) rfl rfl ?_
    repeat walk_at "ws"
    refine ⟨rfl, rfl, fun _ => ?_⟩
    repeat walk_at "ws"
    exact ⟨rfl, rfl⟩
  · have hfin : ∀ (lo : List (Str × V)) (s : Str), s = labelS rs i → OutR σ.mem.length P (fun _ => False) (.ret (.str s)) ⟨lo, σ.mem ++ [M.cel (some (.int i))]⟩ := fun lo s e => by
      subst e
      exact out_same trivial hm h
    have hne2 : σ.mem ++ [M.cel (some (.int i))] ≠ [] := by simp
    repeat walk_at "ws"
    refine WE.lst ?_
    repeat walk_at "ws"
    refine ⟨by decide, ?_⟩
    have hfil : rangeAt rs i = (rs.filter fun g => decide (g.first ≤ i)).getLast? := rfl
    have hsub : ∀ g ∈ rs.filter (fun g => decide (g.first ≤ i)), g ∈ rs := fun g hg => (List.mem_filter.mp hg).1
    cases hq : (rs.filter fun g => decide (g.first ≤ i)) with
    | nil =>
      refine W2.eq_l .tree .tree rfl rfl (by decide) (by decide) (by decide) ?_
      repeat walk_at "ws"
      refine WE.callT (by k_is) rfl (by decide) ?_
      repeat walk_at "ws"
      refine WL.str_i (small_log (by lia)) ?_
      refine hfin _ _ ?_
      unfold labelS
      rw [hfil, hq]
      rfl
    | cons g0 gs =>
      rw [hq] at hfil hsub
      refine oEE (⟨_, _, (List.dropLast_concat_getLast (by simp)).symm⟩ : ∃ ini g, g0 :: gs = ini ++ [g]) fun ini g e => ?_
      rw [e] at hfil hsub ⊢
      rw [List.getLast?_concat] at hfil
      refine oA (rangeAt_mem hfil) fun hg hg2 => ?_
      refine oAAAA (hG g hg) fun o1 o2 o3 o4 o5 => ?_
      have hlab : labelS rs i = g.pre ++ shownS g.style (g.start + i - g.first) := by unfold labelS; rw [hfil]
      rw [hlab] at hfin
      have hpl := pref_len o2
      refine W2.eq_l .tree .tree (plain_rgs _) rfl (shaped_rgs fun g hg => hG g (hsub g hg)) (by decide) (by simp [toDL, SeqAt.noMix]; cases ini <;> simp [toDL, SeqAt.noMixAll]) ?_
      rw [show Spec.same (PyData.list (toDL ((ini ++ [g]).map rgV))) (.list (toDL [])) = false by cases ini <;> simp [toDL, Spec.same, Spec.sameAll]]
      repeat walk_at "ws"
      refine W0.unpA rfl rfl ?_
      repeat walk_at "ws"
      refine W2.item_ln (j := ini.length) (v := rgV g) .tree (by decide) (by decide) (by simp [seqIndex?]; lia) (by simp) ?_
      refine ⟨_, rfl, rfl, ?_⟩
      repeat walk_at "ws"
      have n1 : 1 ≤ g.start + i - g.first := by lia
      have n2 : g.start + i - g.first ≤ 1000002 := by lia
      generalize hN : g.start + i - g.first = N at *
      refine WE.tup ?_
      repeat walk_at "ws"
      refine ⟨by decide, ?_⟩
      refine W2.in_st (xs := ["", "D"]) ?_
      repeat walk_at "ws"
      split
      · rename_i q0
        repeat walk_at "ws"
        split
        · rename_i q1
          repeat walk_at "ws"
          refine WE.callT (by k_is) rfl (by decide) ?_
          repeat walk_at "ws"
          refine WL.str_i (small_log (by lia)) ?_
          refine W2.add_ss ?_ ?_
          · rw [sh_D (s := g.style) q1]
            have := shown_len g.style N n1 n2
            lia
          · exact hfin _ _ (by rw [sh_D (s := g.style) q1])
        · rename_i q1
          repeat walk_at "ws"
          refine W2.add_ss (by rw [show (Str.ofString "" : Str).length = 0 from rfl]; lia) ?_
          exact hfin _ _ (by rw [← sh_n o1 q0 (by simpa using q1)])
      · rename_i q0
        have q0 := Bool.not_eq_true _ ▸ q0
        repeat walk_at "ws"
        refine WE.tup ?_
        repeat walk_at "ws"
        refine ⟨by decide, ?_⟩
        refine W2.in_st (xs := ["R", "r"]) ?_
        repeat walk_at "ws"
        split
        · rename_i q1
          repeat walk_at "ws"
          refine WE.callG (by k_is) (by k_is) ?_
          repeat walk_at "ws"
          refine w_num (by show 10 ≤ X'.lv; lia) hne2 n1 n2 fun hL => ?_
          repeat walk_at "ws"
          refine WE.tup ?_
          repeat walk_at "ws"
          refine ⟨by decide, ?_⟩
          refine W2.in_st (xs := ["R", "A"]) ?_
          repeat walk_at "ws"
          split
          · rename_i q2
            repeat walk_at "ws"
            refine W2.add_ss (by lia) ?_
            exact hfin _ _ (by rw [sh_R o1 q1 q2 n1])
          · rename_i q2
            have e := sh_r o1 q1 (by simpa using q2) n1
            have := shown_len g.style N n1 n2
            refine WE.methB0 (id := "str.lower") ?_
            repeat walk_at "ws"
            refine ⟨Meth.lower, WL.lower (by lia) ?_⟩
            refine W2.add_ss (by rw [e]; lia) ?_
            exact hfin _ _ (by rw [e])
        · rename_i q1
          have q1 := Bool.not_eq_true _ ▸ q1
          repeat walk_at "ws"
          refine WE.callG (by k_is) (by k_is) ?_
          repeat walk_at "ws"
          refine w_ll (by show 10 ≤ X'.lv; lia) hne2 n1 n2 fun hL => ?_
          repeat walk_at "ws"
          refine WE.tup ?_
          repeat walk_at "ws"
          refine ⟨by decide, ?_⟩
          refine W2.in_st (xs := ["R", "A"]) ?_
          repeat walk_at "ws"
          split
          · rename_i q2
            repeat walk_at "ws"
            refine W2.add_ss (by lia) ?_
            exact hfin _ _ (by rw [sh_A o1 q0 q1 q2])
          · rename_i q2
            have e := sh_a (n := N) o1 q0 q1 (by simpa using q2)
            have := shown_len g.style N n1 n2
            refine WE.methB0 (id := "str.lower") ?_
            repeat walk_at "ws"
            refine ⟨Meth.lower, WL.lower (by lia) ?_⟩
            refine W2.add_ss (by rw [e]; lia) ?_
            exact hfin _ _ (by rw [e])
  · rintro ⟨⟩ ⟨⟩; rfl
end
structure RsOk (rs : List Rg) (f : Int) : Prop where
  st : ∀ g ∈ rs, g.style ∈ styleList ∧ g.pre ∈ prefList ∧ 0 ≤ g.first ∧ g.first < f
  up : UpG rs
theorem UpG.snoc : ∀ {rs : List Rg} {g : Rg}, UpG rs → (∀ g' ∈ rs, g'.first < g.first) → UpG (rs ++ [g])
  | [], g, _, _ => ⟨fun _ h => (nomatch h), trivial⟩
  | a :: rs, g, h, k => ⟨fun g' hg' => by
      rcases List.mem_append.mp hg' with hg' | hg'
      · exact h.1 g' hg'
      · rw [List.mem_singleton.mp hg']; exact k a (.head _), UpG.snoc h.2 fun g' hg' => k g' (.tail _ hg')⟩
theorem UpG.init : ∀ {rs : List Rg} {g : Rg}, UpG (rs ++ [g]) → UpG rs ∧ ∀ g' ∈ rs, g'.first < g.first
  | [], g, h => ⟨trivial, fun _ h => (nomatch h)⟩
  | a :: rs, g, h => ⟨⟨fun g' hg' => h.1 g' (List.mem_append_left _ hg'), (UpG.init h.2).1⟩, fun g' hg' => by
      rcases List.mem_cons.mp hg' with rfl | hg'
      · exact h.1 g (List.mem_append_right _ (.head _))
      · exact (UpG.init h.2).2 g' hg'⟩
theorem RsOk.snoc {rs : List Rg} {f f' : Int} {g : Rg} (h : RsOk rs f) (h1 : g.style ∈ styleList) (h2 : g.pre ∈ prefList) (h3 : 0 ≤ g.first) (h4 : f ≤ g.first) (h5 : g.first < f') : RsOk (rs ++ [g]) f' where
  st := fun x hx => by
    rcases List.mem_append.mp hx with hx | hx
    · obtain ⟨a, b, c, d⟩ := h.st x hx; exact ⟨a, b, c, by lia⟩
    · rw [List.mem_singleton.mp hx]; exact ⟨h1, h2, h3, h5⟩
  up := h.up.snoc fun x hx => by have := (h.st x hx).2.2.2; lia
theorem RsOk.okG {rs : List Rg} {f : Int} (h : RsOk rs f) (hG : Good rs) : ∀ g ∈ rs, OkG g := fun g hg => ⟨(h.st g hg).1, (h.st g hg).2.1, (hG g hg).1, (hG g hg).2, (h.st g hg).2.2.1⟩
theorem lay_rgsS : ∀ {rs : List Rg}, (∀ g ∈ rs, g.style ∈ styleList ∧ g.pre ∈ prefList) → PyData.canLayAll0 (toDL (rs.map rgV)) = true
  | [], _ => by simp [toDL, PyData.canLayAll0]
  | g :: rs, h => by
    refine oA (h g (.head _)) fun o1 o2 => ?_
    have := lay_rgsS (rs := rs) fun g hg => h g (.tail _ hg)
    simp [rgV, toDL, toD, PyData.canLayAll0, PyData.canLay0, pref_ok o2, style_ok o1, this]
theorem shaped_rgsS {rs : List Rg} (h : ∀ g ∈ rs, g.style ∈ styleList ∧ g.pre ∈ prefList) : SeqAt.shaped (.list (toDL (rs.map rgV))) = true := by
  have h1 := dep_rgs rs
  have h2 : PyData.depth (.list (toDL (rs.map rgV))) ≤ 64 := by simp only [PyData.depth]; lia
  show (PyData.canLay0 (.list (toDL (rs.map rgV))) && decide (PyData.depth (.list (toDL (rs.map rgV))) ≤ 64)) = true
  rw [Bool.and_eq_true]
  exact ⟨by simp only [PyData.canLay0]; exact lay_rgsS h, decide_eq_true h2⟩
theorem same_rgs : ∀ rs : List Rg, Spec.sameAll (toDL (rs.map rgV)) (toDL (rs.map rgV)) = true
  | [] => by simp [toDL, Spec.sameAll]
  | g :: rs => by have := same_rgs rs; simp [rgV, toDL, toD, Spec.sameAll, Spec.same, this]
theorem noMix_rgs : ∀ rs : List Rg, SeqAt.noMixAll (toDL (rs.map rgV)) (toDL (rs.map rgV)) = true
  | [] => by simp [toDL, SeqAt.noMixAll]
  | g :: rs => by have := noMix_rgs rs; simp [rgV, toDL, toD, SeqAt.noMixAll, SeqAt.noMix, this]
theorem same_strs : ∀ xs : List Str, Spec.sameAll (toDL (xs.map V.str)) (toDL (xs.map V.str)) = true
  | [] => by simp [toDL, Spec.sameAll]
  | g :: rs => by have := same_strs rs; simp [toDL, toD, Spec.sameAll, Spec.same, this]
theorem noMix_strs : ∀ xs : List Str, SeqAt.noMixAll (toDL (xs.map V.str)) (toDL (xs.map V.str)) = true
  | [] => by simp [toDL, SeqAt.noMixAll]
  | g :: rs => by have := noMix_strs rs; simp [toDL, toD, SeqAt.noMixAll, SeqAt.noMix, this]
theorem same_ints : ∀ xs : List Int, Spec.sameAll (toDL (xs.map V.int)) (toDL (xs.map V.int)) = true
  | [] => by simp [toDL, Spec.sameAll]
  | g :: rs => by have := same_ints rs; simp [toDL, toD, Spec.sameAll, Spec.same, this]
theorem noMix_ints : ∀ xs : List Int, SeqAt.noMixAll (toDL (xs.map V.int)) (toDL (xs.map V.int)) = true
  | [] => by simp [toDL, SeqAt.noMixAll]
  | g :: rs => by have := noMix_ints rs; simp [toDL, toD, SeqAt.noMixAll, SeqAt.noMix, this]
theorem app_asc {x y : Str} (hx : AscS x) (hy : AscS y) : AscS (x ++ y) := fun c hc => by
  rw [cl_append] at hc
  rcases List.mem_append.mp hc with hc | hc
  · exact hx c hc
  · exact hy c hc
theorem lab_facts {rs : List Rg} {i : Int} (hG : ∀ g ∈ rs, OkG g) (h0 : 0 ≤ i) (h3 : i ≤ 2) : AscS (labelS rs i) ∧ (labelS rs i).length ≤ 42000 := by
  unfold labelS
  cases hr : rangeAt rs i with
  | none => exact ⟨digits_asc _ (by lia), by have := digits_len (i + 1) (by lia) (by lia); show (Str.ofString (toString (i + 1))).length ≤ _; lia⟩
  | some g =>
    refine oA (rangeAt_mem hr) fun hg hg2 => ?_
    refine oAAAA (hG g hg) fun o1 o2 o3 o4 o5 => ?_
    refine ⟨app_asc (pref_asc o2) (shown_asc _ _ (by lia)), ?_⟩
    have h1 := pref_len o2
    have h2 := shown_len g.style (g.start + i - g.first) (by lia) (by lia)
    show (g.pre ++ shownS g.style (g.start + i - g.first)).length ≤ _
    rw [str_len_append]
    lia
noncomputable def firstIx (rs : List Rg) (n : Nat) (x : Str) : Nat := (List.range n).findIdx fun j : Nat => labelS rs (j : Int) == x
theorem firstIx_lt {rs : List Rg} {n i : Nat} (hi : i < n) : firstIx rs n (labelS rs i) < n := by
  have : firstIx rs n (labelS rs i) < (List.range n).length := by
    unfold firstIx
    exact List.findIdx_lt_length_of_exists ⟨i, List.mem_range.mpr hi, by simp⟩
  rwa [List.length_range] at this
theorem firstIx_at {rs : List Rg} {n i : Nat} (hi : i < n) : labelS rs (firstIx rs n (labelS rs i) : Nat) = labelS rs i := by
  have h := firstIx_lt (rs := rs) hi
  have := List.findIdx_getElem (xs := List.range n) (p := fun j : Nat => labelS rs (j : Int) == labelS rs i) (w := by rw [List.length_range]; exact h)
  rw [List.getElem_range] at this
  exact eq_of_beq this
theorem firstIx_min {rs : List Rg} {n j : Nat} {x : Str} (hj : j < firstIx rs n x) : labelS rs j ≠ x := fun e => by
  have hn : j < n := by
    have : firstIx rs n x ≤ (List.range n).length := List.findIdx_le_length
    rw [List.length_range] at this
    lia
  have := List.not_of_lt_findIdx (p := fun j : Nat => labelS rs (j : Int) == x) (xs := List.range n) (i := j) hj
  rw [List.getElem_range] at this
  simp [e] at this
theorem fu_first {rs : List Rg} {n i : Nat} {z : Int} (hi : i < n) (h : FU rs n (labelS rs i) z) : z = (firstIx rs n (labelS rs i) : Nat) := by
  have h1 := firstIx_lt (rs := rs) hi
  have h2 := firstIx_at (rs := rs) hi
  rcases h with ⟨_, h⟩ | ⟨a, b, e, m⟩
  · exact absurd rfl (h i (by lia) (by lia))
  · have k1 := m (firstIx rs n (labelS rs i) : Nat) (by lia) (by lia) h2.symm
    obtain ⟨k, rfl⟩ := Int.eq_ofNat_of_zero_le a
    by_cases q : k < firstIx rs n (labelS rs i)
    · exact absurd e.symm (firstIx_min q)
    · have k1' : k ≤ firstIx rs n (labelS rs i) := by exact_mod_cast k1
      have : k = firstIx rs n (labelS rs i) := by lia
      rw [this]
theorem look_S {g : Rg} {sv : V} : (g.style = "" ∧ (headV g sv).lookup ("S" : Str) = none) ∨ (headV g sv).lookup ("S" : Str) = some (nameV g.style) := by
  unfold headV
  by_cases h : g.style = ""
  · rw [if_pos h]; exact .inl ⟨h, by rfl⟩
  · rw [if_neg h]; exact .inr (by rfl)
theorem head_is {w : World} {mem : List M} {vs : List Int} {g : Rg} {sv : V} (h : SvOk vs g.start sv) : HeadIs w mem (tabV vs) (headV g sv) g.style g.pre g.start where
  s := by
    rcases look_S (g := g) (sv := sv) with ⟨h1, h2⟩ | h1
    · exact .inl ⟨h2, h1⟩
    · exact .inr h1
  p := .inr (by unfold headV; rfl)
  b := .inr ⟨sv, by unfold headV; rfl, by
    rcases h with rfl | ⟨n, rfl, hn⟩
    · exact .plain isin_int_ref
    · exact .ref (by rw [tab_look, hn]; rfl) isin_int_ref⟩
theorem ld_is {w : World} {mem : List M} {tb : List (Int × V)} {s p : Str} {b : Int} : HeadIs w mem tb (ldV s p b) s p b where
  s := by
    unfold ldV
    by_cases h : s = ""
    · left; refine ⟨?_, h⟩; rw [if_pos h]; split <;> split <;> rfl
    · right; rw [if_neg h]; rfl
  p := by
    unfold ldV
    by_cases h : p = ""
    · left; refine ⟨?_, h⟩; rw [if_pos h]; split <;> split <;> rfl
    · right; rw [if_neg h]; split <;> rfl
  b := by
    unfold ldV
    by_cases h : b = 1
    · left; refine ⟨?_, h⟩; rw [if_pos h]; split <;> split <;> rfl
    · right; refine ⟨.int b, ?_, .plain isin_int_ref⟩; rw [if_neg h]; split <;> split <;> rfl
theorem old_head {n : Nat} {g : Rg} {vs : List Int} {sv : V} (h : SvOk vs g.start sv) : oldF n (headV g sv) := by
  unfold headV
  have := old_sv (n := n) h
  split <;> simp [oldF, old, lc, nameV, strV] <;> exact this
theorem rows_fun {vs : List Int} {rs : List Rg} {rows : List (Int × V)} (h : RowsOk vs rs rows) : UpG rs → ∃ hdk : Rg → List (Str × V), rows = rs.map (fun g => (g.first, V.dct (hdk g))) ∧ ∀ g ∈ rs, ∃ sv, SvOk vs g.start sv ∧ hdk g = headV g sv := by
  induction h with
  | nil => exact fun _ => ⟨fun _ => [], rfl, fun _ h => (nomatch h)⟩
  | @snoc rs rows g sv h1 h2 ih =>
    intro hU
    refine oA hU.init fun hU1 hU2 => ?_
    refine oEA (ih hU1) fun hdk e hp => ?_
    refine ⟨fun x => if x.first = g.first then headV g sv else hdk x, ?_, fun x hx => ?_⟩
    · rw [List.map_append, e]
      congr 1
      · refine List.map_congr_left fun x hx => ?_
        have := hU2 x hx
        dsimp only
        rw [if_neg (by lia)]
      · simp
    · rcases List.mem_append.mp hx with hx | hx
      · have := hU2 x hx
        refine oEA (hp x hx) fun sv' a b => ?_
        exact ⟨sv', a, by dsimp only; rw [if_neg (by lia)]; exact b⟩
      · rw [List.mem_singleton.mp hx]
        exact ⟨sv, h2, by dsimp only; rw [if_pos rfl]⟩
section
noncomputable def lawCel : List (Str × Nat) := [("heard", 2), ("count", 3), ("due", 4), ("ranges", 5), ("shelf", 6)]
noncomputable def lawMem : List M := [.tab 0 445 [], .tab 1 654 [], .cel none, .cel none, .cel none, .cel none, .cel none]
noncomputable def lm1 (b : Bowl) (rs : List Rg) : List M := [.tab 0 445 [], .tab 1 654 [], .cel none, .cel none, .cel none, .cel (some (.ptr 9)), .cel (some (.ptr 11)), bowlL b, bowlD 7 b, .lst (rs.map rgV),
  .nsd (lc [("table", .ptr 12), ("trailer", .ptr 13)]), .ins 370 10, .dci [], .dct [], .nsd (lc [("table", .ptr 16), ("trailer", .ptr 17)]), .ins 370 14, .dci [], .dct []]
noncomputable def lmF (t0 t1 : List (Nat × Nat)) (h d e : Option V) (rs : List Rg) (b : Bowl) (vs : List Int) (tr1 tr2 : List (Str × V)) : List M := [.tab 0 445 t0, .tab 1 654 t1, .cel h, .cel d, .cel e, .cel (some (.lst (rs.map rgV))), .cel (some (.ptr 10)), bowlL b, bowlD 7 b,
  .nsd (lc [("table", .ptr 11), ("trailer", .ptr 12)]), .ins 370 9, .dci (tabV vs), .dct tr1, .nsd (lc [("table", .ptr 15), ("trailer", .ptr 16)]), .ins 370 13, .dci [], .dct tr2]
theorem style_at {k : Nat} (h : k < 6) : ∃ s, (strsV ["D", "R", "r", "A", "a", ""])[k]? = some (V.str s) ∧ s ∈ styleList := by
  match k, h with
  | 0, _ => exact ⟨_, rfl, by decide⟩
  | 1, _ => exact ⟨_, rfl, by decide⟩
  | 2, _ => exact ⟨_, rfl, by decide⟩
  | 3, _ => exact ⟨_, rfl, by decide⟩
  | 4, _ => exact ⟨_, rfl, by decide⟩
  | 5, _ => exact ⟨_, rfl, by decide⟩
theorem pref_at {k : Nat} (h : k < 3) : ∃ s, (strsV ["", "x-", "1"])[k]? = some (V.str s) ∧ s ∈ prefList := by
  match k, h with
  | 0, _ => exact ⟨_, rfl, by decide⟩
  | 1, _ => exact ⟨_, rfl, by decide⟩
  | 2, _ => exact ⟨_, rfl, by decide⟩
theorem W0.asgCs {c : Cx} {σ : St} {PX : Fl → St → Prop} {x : Str} {e : Expr} {pos xp : Pos} {i : Nat} (hc : c.cel.lookup x = some i) (h : WE c e σ fun v m => ∃ ov, m[i]? = some (.cel ov) ∧ PX .nxt ⟨σ.loc, m.set i (.cel (some v))⟩) (hk : c.sc.names.lookup x = some .cell)
    (hs : ∀ env : Env, env.scope = c.sc → swapsWith e (some (Expr.Name x xp)) pos.line env = pure false) : W0 c (.Assign [.Name x xp] e pos) σ PX :=
  fun hf s fz ml Q E R k kr => W0.asgC hc h hk (hs c.env R.ok.es) hf s fz ml Q E R k kr
local macro_rules | `(tactic| walk_at "ws") => `(tactic| refine WE.cel rfl rfl ?_ (by first | exact .inl rfl | exact .inr rfl))
section
variable {c : Cx} {P : V → List M → Prop} {loc : List (Str × V)} {b : Bowl} {rs : List Rg}
theorem w_beanA {most : Int} (hl : 1 ≤ c.X.lv) (h0 : 0 < most) (h1 : most ≤ 100) (hb : Bok b) (h : P (.int (b.bean most)) (lm1 (b.next most) rs)) : WL c (callV (.ref 621)) [.ptr 8, .int most] ⟨loc, lm1 b rs⟩ P :=
  w_bean (k := 7) (q := 8) (b := b) hl (by decide) h0 h1 rfl rfl hb.len hb.lat h
theorem w_beanF {t0 t1 : List (Nat × Nat)} {hh d e : Option V} {vs : List Int} {tr1 tr2 : List (Str × V)} {most : Int} (hl : 1 ≤ c.X.lv) (h0 : 0 < most) (h1 : most ≤ 100) (hb : Bok b) (h : P (.int (b.bean most)) (lmF t0 t1 hh d e rs (b.next most) vs tr1 tr2)) : WL c (callV (.ref 621)) [.ptr 8, .int most] ⟨loc, lmF t0 t1 hh d e rs b vs tr1 tr2⟩ P :=
  w_bean (k := 7) (q := 8) (b := b) hl (by decide) h0 h1 rfl rfl hb.len hb.lat h
end
theorem oldL_is {n : Nat} : ∀ {l : List Int}, oldL n (l.map V.int)
  | [] => trivial
  | x :: l => by rw [List.map_cons]; exact ⟨trivial, oldL_is⟩
theorem look_lt {k : Nat} {x : Str} {i : Nat} : ∀ {l : List (Str × Nat)}, (l.all fun p => decide (p.2 < k)) = true → l.lookup x = some i → i < k
  | [], _, h => by cases h
  | (y, j) :: r, q, h => by
    rw [List.all_cons, Bool.and_eq_true] at q
    rw [List.lookup_cons] at h
    split at h
    · cases h; exact of_decide_eq_true q.1
    · exact look_lt q.2 h
theorem MvF.look {k : Nat} {vs : List V} {x : Str} {v' : V} : ∀ {l l' : List (Str × V)}, MvF k vs l l' → l'.lookup x = some v' → ∃ v, l.lookup x = some v ∧ Mv k vs v v'
  | _, _, .nil, h => by cases h
  | _, _, .cons (x := y) p q, h => by
    rw [List.lookup_cons] at h ⊢
    split at h
    · cases h; exact ⟨_, rfl, p⟩
    · exact q.look h
noncomputable def rootV (ks : List (Str × V)) : List (Str × V) := lc [("Root", .dct (lc [("PageLabels", .dct ks)]))]
noncomputable def LawEnd (fl : Fl) (σ : St) : Prop := fl = .ret (.bool true) ∧ ∃ l0 l1 r, σ.mem = .tab 0 445 l0 :: .tab 1 654 l1 :: r
theorem w_law {X' : Cb} {oc : Value} {od : Option Addr} {name qual : Str} {params : Arguments} {body : List Stmt} {scope : Scope} {dV kV doc pm cdv ct : Value} {an : Option Addr} {osl : Array (Option Value)} {xs : List Int} (hlv : 60 ≤ X'.lv) (hout : X'.outer = []) (hcc : X'.ccd = .ref 656) (hcd : CodeHd X'.h₀ 656 654)
    (ho : (wrt.heap_1 X'.w.params).lookup 657 = some ⟨oc, od, .func (fnOf name qual params body scope dV kV doc pm an cdv ct), osl⟩) (hf : Cx.IsFn ⟨X', scope, lawCel, 7⟩) (hlen : xs.length ≤ 63) :
    WX ⟨X', scope, lawCel, 7⟩ body ⟨lc [("script", .lst (xs.map V.int))], lawMem⟩ LawEnd := by
  have ho' : ∃ oc od name qual params body scope dV kV doc pm an cdv ct osl, (wrt.heap_1 X'.w.params).lookup 657 = some ⟨oc, od, .func (fnOf name qual params body scope dV kV doc pm an cdv ct), osl⟩ ∧ ∀ (hf : Cx.IsFn ⟨X', scope, lawCel, 7⟩), WX ⟨X', scope, lawCel, 7⟩ body ⟨lc [("script", .lst (xs.map V.int))], lawMem⟩ LawEnd := by
    refine ⟨_, _, _, _, _, _, _, _, _, _, _, _, _, _, _, by k_is, fun hf => ?_⟩
    refine WX.cons ?_
    refine W0.unpX (xs := ["bowl", "ranges", "first"]) rfl ?_ (by rintro ⟨⟩ ⟨⟩; rfl) (by rintro ⟨⟩ ⟨⟩; rfl)
    refine WE.tup ?_
    refine WA.cons ?_
    refine WE.callG (by k_is) (by k_is) ?_
    repeat walk_at "ws"
    refine w_bowl (by show 2 ≤ X'.lv; lia) (by lia) ?_
    refine WA.cons ?_
    refine WE.lstC ?_
    refine WA.nil ?_
    refine ⟨Nat.zero_le _, ?_⟩
    repeat walk_at "ws"
    refine ⟨Nat.le_of_ble_eq_true rfl, ?_⟩
    refine ⟨_, _, rfl, .loc rfl (.cel rfl rfl rfl (.loc rfl .nil)), ?_⟩
    try dsimp only
    show WX _ _ ⟨lc [("first", .int 0), ("bowl", .ptr 8), ("script", _)], [.tab 0 445 [], .tab 1 654 [], .cel none, .cel none, .cel none, .cel (some (.ptr 9)), .cel none, bowlL (bowl0 xs), bowlD 7 (bowl0 xs), .lst []]⟩ _
    refine WX.cons ?_
    refine W0.unpX (xs := ["shelf", "other"]) rfl ?_ (by rintro ⟨⟩ ⟨⟩; rfl) (by rintro ⟨⟩ ⟨⟩; rfl)
    refine WE.tup ?_
    refine WA.cons ?_
    refine WE.callG0 (by k_is) (by k_is) ?_
    refine w_Shelf (by show 2 ≤ X'.lv; lia) (by intro q; cases q) ?_
    refine WA.cons ?_
    refine WE.callG0 (by k_is) (by k_is) ?_
    refine w_Shelf (by show 2 ≤ X'.lv; lia) (by intro q; cases q) ?_
    repeat walk_at "ws"
    refine ⟨Nat.le_of_ble_eq_true rfl, ?_⟩
    refine ⟨_, _, rfl, .cel rfl rfl rfl (.loc rfl .nil), ?_⟩
    try dsimp only
    show WX _ _ ⟨lc [("other", .ptr 15), ("first", .int 0), ("bowl", .ptr 8), ("script", _)], lm1 (bowl0 xs) []⟩ _
    refine WX.cons ?_
    refine W0.forL (fun items loc m => ∃ b rs f, Bok b ∧ m = lm1 b rs ∧ 0 ≤ f ∧ RsOk rs f ∧ 1 ≤ rs.length + items.length ∧ rs.length + items.length ≤ 3 ∧ loc = lc [("first", .int f), ("bowl", .ptr 8), ("other", .ptr 15)]) ?_ ?_ ?_
    · refine WE.callT (by k_is) rfl (by decide) ?_
      refine WA.cons ?_
      repeat walk_at "ws"
      refine WE.callG (by k_is) (by k_is) ?_
      repeat walk_at "ws"
      refine w_beanA (by show 1 ≤ X'.lv; lia) (by decide) (by decide) bok0 ?_
      repeat walk_at "ws"
      refine oA (bean_range (b := bowl0 xs) (m := 3) (by decide)) fun r1 r2 => ?_
      refine WL.range1 ?_
      refine oE (Int.eq_ofNat_of_zero_le (show 0 ≤ 1 + (bowl0 xs).bean 3 by lia)) fun n hn => ?_
      rw [hn]
      exact ⟨_, rng_src (by lia), oldL_ints (f := fun i : Nat => (i : Int)), lc [("first", _), ("bowl", _), ("other", _)], .cons rfl (.cons rfl (.cons rfl .nil)), (bowl0 xs).next 3, [], 0, bok0.next, rfl, by decide, ⟨fun g hg => (nomatch hg), trivial⟩, by simp; lia, by simp; lia, rfl⟩
    · rintro X2 hw2 hl2 x rest loc m ⟨b, rs, f, hb, rfl, hf0, hR, hn1, hn3, rfl⟩
      have hl2 : X2.lv = X'.lv := hl2
      refine ⟨_, .name rfl, ?_⟩
      refine WX.cons ?_
      refine W0.unpS ["style", "prefix"] rfl ?_ (by rintro ⟨⟩ ⟨⟩; rfl) (by rintro ⟨⟩ ⟨⟩; rfl)
      refine WE.tup ?_
      refine WA.cons ?_
      refine WE.sub ?_
      refine WE.tup ?_
      repeat walk_at "ws"
      refine ⟨by decide, ?_⟩
      refine WE.callG (by k_is) (by k_is) ?_
      repeat walk_at "ws"
      refine w_beanA (by show 1 ≤ X2.lv; lia) (by decide) (by decide) hb ?_
      refine oA (bean_range (b := b) (m := 6) (by decide)) fun r1 r2 => ?_
      refine oEA (style_at (k := (b.bean 6).toNat) (by lia)) fun st hst hst2 => ?_
      refine W2.item_t (vs := strsV ["D", "R", "r", "A", "a", ""]) (j := (b.bean 6).toNat) (v := .str st) (by lia) (by lia) (seqIndex_of (by lia) (by simpa [strsV] using r2)) hst ?_
      have hb1 := hb.next (m := 6)
      generalize b.next 6 = b1 at *
      refine WA.cons ?_
      refine WE.sub ?_
      refine WE.tup ?_
      repeat walk_at "ws"
      refine ⟨by decide, ?_⟩
      refine WE.callG (by k_is) (by k_is) ?_
      repeat walk_at "ws"
      refine w_beanA (by show 1 ≤ X2.lv; lia) (by decide) (by decide) hb1 ?_
      refine oA (bean_range (b := b1) (m := 3) (by decide)) fun r3 r4 => ?_
      refine oEA (pref_at (k := (b1.bean 3).toNat) (by lia)) fun pr hpr hpr2 => ?_
      refine W2.item_t (vs := strsV ["", "x-", "1"]) (j := (b1.bean 3).toNat) (v := .str pr) (by lia) (by lia) (seqIndex_of (by lia) (by simpa [strsV] using r4)) hpr ?_
      have hb2 := hb1.next (m := 3)
      generalize b1.next 3 = b2 at *
      repeat walk_at "ws"
      refine ⟨Nat.le_of_ble_eq_true rfl, ?_⟩
      refine ⟨_, rfl, rfl, ?_⟩
      try dsimp only
      show WX _ _ ⟨lc [("style", .str st), ("prefix", .str pr), ("turn", _), ("first", .int f), ("bowl", .ptr 8), ("other", .ptr 15)], lm1 b2 rs⟩ _
      repeat walk_at "ws"
      refine WE.callG (by k_is) (by k_is) ?_
      repeat walk_at "ws"
      refine w_beanA (by show 1 ≤ X2.lv; lia) (by decide) (by decide) hb2 ?_
      refine oA (bean_range (b := b2) (m := 3) (by decide)) fun r5 r6 => ?_
      have hb3 := hb2.next (m := 3)
      generalize b2.next 3 = b3 at *
      repeat walk_at "ws"
      refine WE.methB (id := "list.append") ?_
      repeat walk_at "ws"
      refine ⟨Meth.lst (.cell rfl) PySem.F.slot_list_append PySem.F.type_list_append, ?_⟩
      refine WA.cons ?_
      refine WE.tup ?_
      repeat walk_at "ws"
      refine WE.callG0 (by k_is) (by k_is) ?_
      refine w_starts (by show 1 ≤ X2.lv; lia) ?_
      refine WE.callG (by k_is) (by k_is) ?_
      repeat walk_at "ws"
      refine w_beanA (by show 1 ≤ X2.lv; lia) (by decide) (by decide) hb3 ?_
      refine oA (bean_range (b := b3) (m := 12) (by decide)) fun r7 r8 => ?_
      obtain ⟨sv, hsv⟩ : ∃ sv, startsL[(b3.bean 12).toNat]? = some sv := ⟨_, List.getElem?_eq_getElem (by show (b3.bean 12).toNat < 12; lia)⟩
      refine W2.item_t (j := (b3.bean 12).toNat) (v := .int sv) (by lia) (by lia) (seqIndex_of (by lia) (by show _ < ((12 : Nat) : Int); lia)) (by rw [List.getElem?_map, hsv]; rfl) ?_
      have hb4 := hb3.next (m := 12)
      generalize b3.next 12 = b4 at *
      repeat walk_at "ws"
      refine ⟨Nat.le_of_ble_eq_true rfl, ?_⟩
      repeat walk_at "ws"
      refine WL.append (i := 9) (vs := rs.map rgV) rfl (by rw [List.length_map]; lia) ?_
      try dsimp only
      show WX _ _ ⟨_, lm1 b4 rs |>.set 9 (.lst (rs.map rgV ++ [rgV ⟨f + b2.bean 3, st, pr, sv⟩]))⟩ _
      rw [show (lm1 b4 rs).set 9 (.lst (rs.map rgV ++ [rgV ⟨f + b2.bean 3, st, pr, sv⟩])) = lm1 b4 (rs ++ [⟨f + b2.bean 3, st, pr, sv⟩]) by unfold lm1; rw [List.map_append]; rfl]
      repeat walk_at "ws"
      exact ⟨lc [("first", _), ("bowl", _), ("other", _)], .cons rfl (.cons rfl (.cons rfl .nil)), b4, rs ++ [⟨f + b2.bean 3, st, pr, sv⟩], f + b2.bean 3 + 1, hb4, rfl, by lia, hR.snoc hst2 hpr2 (by dsimp only; lia) (by dsimp only; lia) (by dsimp only; lia), by simp at hn1 ⊢; lia, by simp at hn3 ⊢; lia, rfl⟩
    · rintro loc' loc m H ⟨b, rs, f, hb, rfl, hf0, hR, hn1, hn3, rfl⟩
      refine WX.loc H ?_
      refine WX.frz (k := 9) (vs := rs.map rgV) (A := [.tab 0 445 [], .tab 1 654 [], .cel none, .cel none, .cel none, .cel (some (.ptr 9)), .cel (some (.ptr 11)), bowlL b, bowlD 7 b]) (A' := [.tab 0 445 [], .tab 1 654 [], .cel none, .cel none, .cel none, .cel (some (.lst (rs.map rgV))), .cel (some (.ptr 10)), bowlL b, bowlD 7 b]) (B' := [.nsd (lc [("table", .ptr 11), ("trailer", .ptr 12)]), .ins 370 9, .dci (tabV []), .dct [], .nsd (lc [("table", .ptr 15), ("trailer", .ptr 16)]), .ins 370 13, .dci [], .dct []]) (loc' := lc [("first", .int f), ("bowl", .ptr 8), ("other", .ptr 14)]) rfl rfl rfl oldL_rgs ?_ ?_ (by show 7 ≤ 9; decide) (fun x i => look_lt (l := lawCel) (by decide)) (fun x v' => MvF.look (k := 9) (l := lc [("first", .int f), ("bowl", .ptr 8), ("other", .ptr 15)]) (.cons (.leaf (by unfold old; trivial)) (.cons (.lo (by decide)) (.cons (.hi (i := 14) (by decide)) .nil)))) ?_
      · exact .cons (.tab (by decide)) (.cons (.tab (by decide)) (.cons .celN (.cons .celN (.cons .celN (.cons (.cel .hit) (.cons (.cel (.hi (by decide))) (.cons (.lst oldL_is) (.cons (.dct (.cons (.lo (by decide)) (.cons (.leaf (by unfold old; trivial)) (.cons (.leaf (by unfold old; trivial)) .nil)))) .nil))))))))
      · exact .cons (.nsd (.cons (.hi (by decide)) (.cons (.hi (by decide)) .nil))) (.cons (.insH (by decide)) (.cons (.dci (trivial)) (.cons (.dct .nil) (.cons (.nsd (.cons (.hi (by decide)) (.cons (.hi (by decide)) .nil))) (.cons (.insH (by decide)) (.cons (.dci (trivial)) (.cons (.dct .nil) .nil)))))))
      show WX _ _ ⟨_, lmF [] [] none none none rs b [] [] []⟩ _
      have hst : ∀ g ∈ rs, g.style ∈ styleList ∧ g.pre ∈ prefList := fun g hg => ⟨(hR.st g hg).1, (hR.st g hg).2.1⟩
      obtain ⟨il, hil, hilG⟩ : ∃ il : Bool, Spec.same (.list (toDL ((rs.filter fun g => !(decide ((0:Int) < g.start) && decide (g.start < 1000001))).map rgV))) (.list (toDL [])) = il ∧ (il = true ↔ Good rs) := by
        refine ⟨_, rfl, ?_⟩
        rw [same_nil, List.isEmpty_iff, List.map_eq_nil_iff, List.filter_eq_nil_iff]
        constructor
        · intro h g hg
          have := h g hg
          simp at this
          lia
        · intro h g hg
          have := h g hg
          simp
          lia
      refine WX.cons ?_
      refine W0.asg ?_
      refine WE.cmp ?_
      refine WE.lmap rs rgV rgV (fun g => !(decide ((0:Int) < g.start) && decide (g.start < 1000001))) (lmF [] [] none none none rs b [] [] []) ?_ ?_ ?_
      · repeat walk_at "ws"
        exact ⟨.lst, by lia, rfl⟩
      · intro g hg
        refine ⟨_, .name rfl, fun X2 hw2 hl2 => ?_⟩
        show WT _ _ _ _
        repeat walk_at "ws"
        refine W2.item_t (j := 3) (v := .int g.start) (by decide) (by decide) rfl rfl ?_
        repeat walk_at "ws"
        by_cases h0 : (0 : Int) < g.start
        · rw [decide_eq_true h0]
          refine Eq.mpr (if_pos rfl) ?_
          repeat walk_at "ws"
          refine ⟨rfl, by rw [Bool.true_and], fun _ => ?_⟩
          repeat walk_at "ws"
          exact ⟨rfl, rfl⟩
        · rw [decide_eq_false h0]
          refine Eq.mpr (if_neg (by decide)) ?_
          exact ⟨rfl, rfl, fun _ => by
            repeat walk_at "ws"
            exact ⟨rfl, rfl⟩⟩
      · refine WE.lst ?_
        repeat walk_at "ws"
        refine ⟨by decide, ?_⟩
        refine W2.eq_l .tree .tree (plain_rgs _) rfl (shaped_rgsS fun g hg => hst g ((List.mem_filter.mp hg).1)) (by decide) nomix_nil ?_
        rw [hil]
        clear hil
        refine WX.cons ?_
        refine W0.setItem ?_
        refine WE.dct (fun X2 hw2 hl2 => ?_)
        have hl2 : X2.lv = X'.lv := hl2
        try dsimp only
        refine WD.cons ?_
        repeat walk_at "ws"
        refine ⟨_, rfl, ?_⟩
        refine WE.callG (by k_is) (by k_is) ?_
        repeat walk_at "ws"
        refine w_lawtree (i := 10) (j := 9) (t := 11) (r := 12) (k := 7) (q := 8) (tr := []) (by show 8 ≤ X2.lv; lia) (by lia) hst ⟨rfl, rfl, rfl, by show 11 < 17; decide, by show 7 < 17; decide, by show 8 < 17; decide, by decide, by decide, by decide, by decide, by decide, by decide, by decide, by decide, by decide, by decide, by decide, by decide⟩ rfl rfl rfl hb (fun b2 vs rows hb2 hrows => ?_)
        refine WD.nil ?_
        show WE _ _ ⟨_, lmF [] [] none none none rs b2 vs [] []⟩ _
        repeat walk_at "ws"
        refine W1.attr (C := 370) (.cell rfl rfl) rfl rfl (by k_is) (by k_is) (by k_is) (by k_is) ?_
        repeat walk_at "ws"
        refine WS.dct (i := 12) (ks := []) rfl (by decide) ?_
        refine oEA (rows_fun hrows hR.up) fun hdk e91 hh => ?_
        subst e91
        show WX _ _ ⟨lc [("is_let", .bool il), ("first", .int f), ("bowl", .ptr 8), ("other", .ptr 14)], lmF [] [] none none none rs b2 vs (rootV (lc [("Nums", .lst (rowV (rs.map fun g => (g.first, V.dct (hdk g)))))])) []⟩ _
        generalize hroot : rootV (lc [("Nums", .lst (rowV (rs.map fun g => (g.first, V.dct (hdk g)))))]) = root
        have hne : rs ≠ [] := by intro q; subst q; simp at hn1
        by_cases hG : Good rs
        · obtain rfl : il = true := hilG.mpr hG
          refine WX.cons ?_
          refine W0.unpX (xs := ["heard", "written"]) rfl ?_ (by rintro ⟨⟩ ⟨⟩; rfl) (by rintro ⟨⟩ ⟨⟩; rfl)
          refine WE.tup ?_
          refine WA.cons ?_
          refine WE.callG (by k_is) (by k_is) ?_
          refine WA.cons ?_
          refine WE.lam (j := 1) hf rfl hcc (fun _ => hcd) (by decide) (names_free rfl) (fun q1 => ?_)
          repeat walk_at "ws"
          refine w_kept (P := fun v m => Good rs ∧ v = .lst (rs.map rgV) ∧ m = lmF [] [(479, 0)] none none none rs b2 vs root []) (PR := fun m => ¬ Good rs ∧ ∃ l, m = lmF [] [(479, 0)] none none none rs b2 vs root [] ++ l) (by show 1 ≤ X'.lv; lia) hout ?_ ?_ ?_
          · intro X3 sc3 hw3 hl3 hm3
            have hl3 : X3.lv = X'.lv - 1 := hl3
            refine WC.lam [] (by show 1 ≤ X3.lv; lia) (fun _ _ _ _ us fz ml hu => ⟨[], by rw [l_nil hu]; rfl, by rfl⟩) rfl (fun X4 hw4 hl4 hm4 => ?_) (by decide) rfl rfl rfl
            have hl4 : X4.lv = X3.lv - 1 := hl4
            refine WER.callG (by k_is) (by k_is) ?_
            repeat walk_at "ws"
            subst hroot
            refine w_readl (i := 10) (j := 9) (t := 11) (r := 12) (tb := tabV vs) (good := Good rs) (hdk := hdk) (by show 12 ≤ X4.lv; lia) (by lia) hne ⟨rfl, rfl, rfl, rfl⟩ rfl rfl rfl (fun n g hg => ?_) (fun m g hg => ?_) (fun c' σ' _ h8 => w_checkR (by lia) (fun g hg => ⟨(hst g hg).1, (hR.st g hg).2.2.1⟩) hR.up (fun h => ⟨h, rfl⟩) (fun h => ⟨h, rfl⟩)) (fun h => ⟨h, rfl, rfl⟩) (fun h l => ⟨h, l, rfl⟩)
            · refine oEA (hh g hg) fun sv h1 h2 => ?_
              rw [h2]; exact old_head h1
            · refine oEA (hh g hg) fun sv h1 h2 => ?_
              rw [h2]; exact ⟨head_is h1, hst g hg⟩
          · rintro v m ⟨_, rfl, rfl⟩
            refine WA.cons ?_
            refine WE.callG (by k_is) (by k_is) ?_
            refine WA.cons ?_
            refine WE.lam (j := 1) hf rfl hcc (fun _ => hcd) (by decide) (names_free rfl) (fun q2 => ?_)
            repeat walk_at "ws"
            refine w_kept (P := fun v m => Good rs ∧ v = .dct (lc [("Nums", .lst (rowV (rs.map wpair)))]) ∧ ∃ l, m = lmF l [(480, 0), (479, 0)] none none none rs b2 vs root []) (PR := fun m => ¬ Good rs ∧ m = lmF [] [(480, 0), (479, 0)] none none none rs b2 vs root []) (by show 1 ≤ X'.lv; lia) hout ?_ ?_ ?_
            · intro X3 sc3 hw3 hl3 hm3
              have hl3 : X3.lv = X'.lv - 1 := hl3
              refine WC.lam [] (by show 1 ≤ X3.lv; lia) (fun _ _ _ _ us fz ml hu => ⟨[], by rw [l_nil hu]; rfl, by rfl⟩) rfl (fun X4 hw4 hl4 hm4 => ?_) (by decide) rfl rfl rfl
              have hl4 : X4.lv = X3.lv - 1 := hl4
              refine WER.callG (by k_is) (by k_is) ?_
              repeat walk_at "ws"
              exact w_writel (j := 0) (by show 10 ≤ X4.lv; lia) (by lia) hne (fun g hg => ⟨(hst g hg).1, (hst g hg).2, (hR.st g hg).2.2.1⟩) hR.up rfl (fun h l => ⟨h, rfl, l, rfl⟩) (fun h => ⟨h, rfl⟩)
            · rintro v m ⟨_, rfl, l0, rfl⟩
              repeat walk_at "ws"
              refine ⟨Nat.le_of_ble_eq_true rfl, ?_⟩
              refine ⟨_, _, rfl, .cel rfl rfl rfl (.loc rfl .nil), ?_⟩
              try dsimp only
              show WX _ _ ⟨lc [("written", .dct (lc [("Nums", .lst (rowV (rs.map wpair)))])), ("is_let", .bool true), ("first", .int f), ("bowl", .ptr 8), ("other", .ptr 14)], lmF l0 [(480, 0), (479, 0)] (some (.lst (rs.map rgV))) none none rs b2 vs root []⟩ _
              have hgo := hR.okG hG
              refine WX.cons ?_
              refine W0.if_ ?_
              refine WT.not ?_
              refine WT.plain ?_
              repeat walk_at "ws"
              refine W2.ne_l .tree .tree (plain_rgs _) (plain_rgs _) (shaped_rgsS hst) (shaped_rgsS hst) (noMix_rgs rs) ?_
              rw [show Spec.same (.list (toDL (rs.map rgV))) (.list (toDL (rs.map rgV))) = true from same_rgs rs]
              repeat walk_at "ws"
              refine WE.dct (fun X2 hw2 hl2 => ?_)
              try dsimp only
              refine WD.cons ?_
              repeat walk_at "ws"
              refine ⟨_, rfl, ?_⟩
              repeat walk_at "ws"
              refine WD.nil ?_
              repeat walk_at "ws"
              refine W1.attr (C := 370) (.cell rfl rfl) rfl rfl (by k_is) (by k_is) (by k_is) (by k_is) ?_
              repeat walk_at "ws"
              refine WS.dct (i := 16) (ks := []) rfl (by decide) ?_
              show WX _ _ ⟨lc [("written", .dct (lc [("Nums", .lst (rowV (rs.map wpair)))])), ("is_let", .bool true), ("first", .int f), ("bowl", .ptr 8), ("other", .ptr 14)], lmF l0 [(480, 0), (479, 0)] (some (.lst (rs.map rgV))) none none rs b2 vs root (rootV (lc [("Nums", .lst (rowV (rs.map wpair)))]))⟩ _
              refine WX.cons ?_
              refine W0.asgC (i := 3) rfl ?_
              refine WE.callG (by k_is) (by k_is) ?_
              repeat walk_at "ws"
              refine w_beanF (by show 1 ≤ X'.lv; lia) (by decide) (by decide) hb2 ?_
              refine ⟨_, rfl, ?_⟩
              refine oA (bean_range (b := b2) (m := 4) (by decide)) fun r1 r2 => ?_
              refine oE (Int.eq_ofNat_of_zero_le r1) fun n hn => ?_
              rw [hn]
              have hn3' : n ≤ 3 := by lia
              generalize b2.next 4 = b3
              try dsimp only
              show WX _ _ ⟨_, lmF l0 [(480, 0), (479, 0)] (some (.lst (rs.map rgV))) (some (.int n)) none rs b3 vs root (rootV (lc [("Nums", .lst (rowV (rs.map wpair)))]))⟩ _
              refine WX.cons ?_
              refine W0.asgCs (i := 4) rfl ?_ rfl (by rintro ⟨⟩ ⟨⟩; rfl)
              refine WE.lmap (List.range n) (fun i : Nat => V.int i) (fun i : Nat => V.str (labelS rs i)) (fun _ => true) (lmF l0 [(480, 0), (479, 0)] (some (.lst (rs.map rgV))) (some (.int n)) none rs b3 vs root (rootV (lc [("Nums", .lst (rowV (rs.map wpair)))]))) ?_ ?_ ?_
              · refine WE.callT (by k_is) rfl (by decide) ?_
                repeat walk_at "ws"
                refine WL.range1 ?_
                exact ⟨rng_src (by lia), by rw [List.length_range]; lia, rfl⟩
              · intro i hi
                have hi : i < n := List.mem_range.mp hi
                refine ⟨_, .name rfl, fun X2 hw2 hl2 => ⟨rfl, rfl, fun _ => ?_⟩⟩
                have hl2 : X2.lv = X'.lv := hl2
                refine WE.callG (by k_is) (by k_is) ?_
                repeat walk_at "ws"
                exact w_lawlabel (by show 15 ≤ X2.lv; lia) (by intro q; cases q) (by lia) (by lia) (by lia) hgo ⟨rfl, rfl⟩
              · rw [List.filter_eq_self.mpr (fun _ _ => rfl)]
                refine ⟨_, rfl, ?_⟩
                try dsimp only
                show WX _ _ ⟨_, lmF l0 [(480, 0), (479, 0)] (some (.lst (rs.map rgV))) (some (.int n)) (some (.lst ((List.range n).map fun i : Nat => V.str (labelS rs i)))) rs b3 vs root (rootV (lc [("Nums", .lst (rowV (rs.map wpair)))]))⟩ _
                repeat walk_at "ws"
                obtain ⟨labs, hlabs⟩ : ∃ labs : List Str, labs = (List.range n).map fun i : Nat => labelS rs i := ⟨_, rfl⟩
                have hlab : ((List.range n).map fun i : Nat => V.str (labelS rs i)) = labs.map V.str := by rw [hlabs, List.map_map]; rfl
                have hlabA : ∀ x ∈ labs, AscS x := fun x hx => by
                  rw [hlabs] at hx
                  refine oEA (List.mem_map.mp hx) fun i hi e92 => ?_
                  subst e92
                  have hi := List.mem_range.mp hi
                  exact (lab_facts hgo (by lia) (by lia)).1
                have hlabP : plainL ((List.range n).map fun i : Nat => V.str (labelS rs i)) = true := by rw [hlab]; exact plain_strs labs
                have hlabD : toDL ((List.range n).map fun i : Nat => V.str (labelS rs i)) = labs.map PyData.str := by rw [hlab]; exact toDL_strs labs
                refine WE.callG (by k_is) (by k_is) ?_
                repeat walk_at "ws"
                refine WR.no ?_
                refine w_readl (i := 14) (j := 13) (t := 15) (r := 16) (tb := []) (good := Good rs) (hdk := fun g => ldV g.style g.pre g.start) (by show 12 ≤ X'.lv; lia) (by lia) hne ⟨rfl, rfl, rfl, rfl⟩ rfl rfl rfl (fun n g hg => old_ld) (fun m g hg => ⟨ld_is, hst g hg⟩) (fun c' σ' _ h8 => w_checkR (by lia) (fun g hg => ⟨(hst g hg).1, (hR.st g hg).2.2.1⟩) hR.up (fun h => ⟨h, rfl⟩) (fun h => ⟨h, rfl⟩)) (fun h => ?_) (fun h => absurd hG h)
                repeat walk_at "ws"
                refine W2.ne_l .tree .tree (plain_rgs _) (plain_rgs _) (shaped_rgsS hst) (shaped_rgsS hst) (noMix_rgs rs) ?_
                rw [show Spec.same (.list (toDL (rs.map rgV))) (.list (toDL (rs.map rgV))) = true from same_rgs rs]
                repeat walk_at "ws"
                refine WE.callG (by k_is) (by k_is) ?_
                repeat walk_at "ws"
                refine w_labels (by show 15 ≤ X'.lv; lia) (by intro q; cases q) hn3' hgo ?_
                repeat walk_at "ws"
                refine W2.ne_l .tree .tree hlabP hlabP (by rw [hlabD]; exact shaped_strs labs hlabA) (by rw [hlabD]; exact shaped_strs labs hlabA) (by rw [hlab]; exact noMix_strs labs) ?_
                rw [show Spec.same (.list (toDL ((List.range n).map fun i : Nat => V.str (labelS rs i)))) (.list (toDL ((List.range n).map fun i : Nat => V.str (labelS rs i)))) = true by rw [hlab]; exact same_strs labs]
                repeat walk_at "ws"
                obtain ⟨ixs, hixs⟩ : ∃ ixs : List Int, ixs = (List.range n).map fun i : Nat => ((firstIx rs n (labelS rs i) : Nat) : Int) := ⟨_, rfl⟩
                have hix : (((List.range n).filter fun _ => true).map fun i : Nat => V.int ((firstIx rs n (labelS rs i) : Nat) : Int)) = ixs.map V.int := by rw [List.filter_eq_self.mpr (fun _ _ => rfl), hixs, List.map_map]; rfl
                refine WE.lmap (List.range n) (fun i : Nat => V.str (labelS rs i)) (fun i : Nat => V.int ((firstIx rs n (labelS rs i) : Nat) : Int)) (fun _ => true) (lmF l0 [(480, 0), (479, 0)] (some (.lst (rs.map rgV))) (some (.int n)) (some (.lst ((List.range n).map fun i : Nat => V.str (labelS rs i)))) rs b3 vs root (rootV (lc [("Nums", .lst (rowV (rs.map wpair)))]))) ?_ ?_ ?_
                · repeat walk_at "ws"
                  exact ⟨.lst, by rw [List.length_range]; lia, rfl⟩
                · intro i hi
                  have hi : i < n := List.mem_range.mp hi
                  refine oA (lab_facts (rs := rs) (i := i) hgo (by lia) (by lia)) fun hA hL => ?_
                  refine ⟨_, .name rfl, fun X2 hw2 hl2 => ⟨rfl, rfl, fun _ => ?_⟩⟩
                  have hl2 : X2.lv = X'.lv := hl2
                  refine WE.callG (by k_is) (by k_is) ?_
                  repeat walk_at "ws"
                  exact w_indexof (by show 20 ≤ X2.lv; lia) (by intro q; cases q) hn3' (by lia) hgo hR.up hL hA (fun z hz => ⟨by rw [fu_first hi hz], rfl⟩)
                rw [hix]
                refine WE.lmap (List.range n) (fun i : Nat => V.str (labelS rs i)) (fun i : Nat => V.int ((firstIx rs n (labelS rs i) : Nat) : Int)) (fun _ => true) (lmF l0 [(480, 0), (479, 0)] (some (.lst (rs.map rgV))) (some (.int n)) (some (.lst ((List.range n).map fun i : Nat => V.str (labelS rs i)))) rs b3 vs root (rootV (lc [("Nums", .lst (rowV (rs.map wpair)))]))) ?_ ?_ ?_
                · repeat walk_at "ws"
                  exact ⟨.lst, by rw [List.length_range]; lia, rfl⟩
                · intro i hi
                  have hi : i < n := List.mem_range.mp hi
                  refine ⟨_, .name rfl, fun X2 hw2 hl2 => ⟨rfl, rfl, fun _ => ?_⟩⟩
                  refine WE.methB (id := "list.index") ?_
                  repeat walk_at "ws"
                  refine ⟨Meth.lst .tree PySem.F.slot_list_index PySem.F.type_list_index, ?_⟩
                  repeat walk_at "ws"
                  rw [hlab]
                  refine WL.index_s (j := firstIx rs n (labelS rs i)) .tree ?_ ?_ ?_ ⟨rfl, rfl⟩
                  · rw [hlabs, List.getElem?_map, List.getElem?_range (firstIx_lt hi)]
                    exact congrArg some (firstIx_at hi)
                  · intro j hj
                    rw [hlabs, List.getElem?_map, List.getElem?_range (Nat.lt_trans hj (firstIx_lt hi))]
                    exact fun q => firstIx_min hj (Option.some.inj q)
                  · rw [hlabs, List.length_map, List.length_range]; lia
                rw [hix]
                refine W2.eq_l .tree .tree (plain_ints _) (plain_ints _) shaped_ints shaped_ints (noMix_ints ixs) ?_
                rw [show Spec.same (.list (toDL (ixs.map V.int))) (.list (toDL (ixs.map V.int))) = true from same_ints ixs]
                exact ⟨rfl, _, _, _, rfl⟩
            · rintro m ⟨hn, _⟩
              exact absurd hG hn
          · rintro m ⟨hn, _⟩
            exact absurd hG hn
        · obtain rfl : il = false := by
            cases il with
            | false => rfl
            | true => exact absurd (hilG.mp rfl) hG
          refine WX.cons ?_
          refine W0.unpX (xs := ["heard", "written"]) rfl ?_ (by rintro ⟨⟩ ⟨⟩; rfl) (by rintro ⟨⟩ ⟨⟩; rfl)
          refine WE.tup ?_
          refine WA.cons ?_
          refine WE.callG (by k_is) (by k_is) ?_
          refine WA.cons ?_
          refine WE.lam (j := 1) hf rfl hcc (fun _ => hcd) (by decide) (names_free rfl) (fun q1 => ?_)
          repeat walk_at "ws"
          refine w_kept (P := fun v m => Good rs ∧ v = .lst (rs.map rgV) ∧ m = lmF [] [(479, 0)] none none none rs b2 vs root []) (PR := fun m => ¬ Good rs ∧ ∃ l, m = lmF [] [(479, 0)] none none none rs b2 vs root [] ++ l) (by show 1 ≤ X'.lv; lia) hout ?_ ?_ ?_
          · intro X3 sc3 hw3 hl3 hm3
            have hl3 : X3.lv = X'.lv - 1 := hl3
            refine WC.lam [] (by show 1 ≤ X3.lv; lia) (fun _ _ _ _ us fz ml hu => ⟨[], by rw [l_nil hu]; rfl, by rfl⟩) rfl (fun X4 hw4 hl4 hm4 => ?_) (by decide) rfl rfl rfl
            have hl4 : X4.lv = X3.lv - 1 := hl4
            refine WER.callG (by k_is) (by k_is) ?_
            repeat walk_at "ws"
            subst hroot
            refine w_readl (i := 10) (j := 9) (t := 11) (r := 12) (tb := tabV vs) (good := Good rs) (hdk := hdk) (by show 12 ≤ X4.lv; lia) (by lia) hne ⟨rfl, rfl, rfl, rfl⟩ rfl rfl rfl (fun n g hg => ?_) (fun m g hg => ?_) (fun c' σ' _ h8 => w_checkR (by lia) (fun g hg => ⟨(hst g hg).1, (hR.st g hg).2.2.1⟩) hR.up (fun h => ⟨h, rfl⟩) (fun h => ⟨h, rfl⟩)) (fun h => ⟨h, rfl, rfl⟩) (fun h l => ⟨h, l, rfl⟩)
            · refine oEA (hh g hg) fun sv h1 h2 => ?_
              rw [h2]; exact old_head h1
            · refine oEA (hh g hg) fun sv h1 h2 => ?_
              rw [h2]; exact ⟨head_is h1, hst g hg⟩
          · rintro v m ⟨hn, _⟩
            exact absurd hn hG
          · rintro m ⟨_, l1, rfl⟩
            refine WA.cons ?_
            refine WE.callG (by k_is) (by k_is) ?_
            refine WA.cons ?_
            refine WE.lam (j := 1) hf rfl hcc (fun _ => hcd) (by decide) (names_free rfl) (fun q2 => ?_)
            repeat walk_at "ws"
            refine w_kept (P := fun v m => Good rs ∧ v = .dct (lc [("Nums", .lst (rowV (rs.map wpair)))]) ∧ ∃ l, m = lmF l [(480, 0), (479, 0)] none none none rs b2 vs root [] ++ l1) (PR := fun m => ¬ Good rs ∧ m = lmF [] [(480, 0), (479, 0)] none none none rs b2 vs root [] ++ l1) (by show 1 ≤ X'.lv; lia) hout ?_ ?_ ?_
            · intro X3 sc3 hw3 hl3 hm3
              have hl3 : X3.lv = X'.lv - 1 := hl3
              refine WC.lam [] (by show 1 ≤ X3.lv; lia) (fun _ _ _ _ us fz ml hu => ⟨[], by rw [l_nil hu]; rfl, by rfl⟩) rfl (fun X4 hw4 hl4 hm4 => ?_) (by decide) rfl rfl rfl
              have hl4 : X4.lv = X3.lv - 1 := hl4
              refine WER.callG (by k_is) (by k_is) ?_
              repeat walk_at "ws"
              exact w_writel (j := 0) (by show 10 ≤ X4.lv; lia) (by lia) hne (fun g hg => ⟨(hst g hg).1, (hst g hg).2, (hR.st g hg).2.2.1⟩) hR.up rfl (fun h l => ⟨h, rfl, l, rfl⟩) (fun h => ⟨h, rfl⟩)
            · rintro v m ⟨hn, _⟩
              exact absurd hn hG
            · rintro m ⟨_, rfl⟩
              repeat walk_at "ws"
              refine ⟨Nat.le_of_ble_eq_true rfl, ?_⟩
              refine ⟨_, _, rfl, .cel rfl rfl rfl (.loc rfl .nil), ?_⟩
              try dsimp only
              show WX _ _ ⟨lc [("written", .none), ("is_let", .bool false), ("first", .int f), ("bowl", .ptr 8), ("other", .ptr 14)], lmF [] [(480, 0), (479, 0)] (some .none) none none rs b2 vs root [] ++ l1⟩ _
              refine WX.cons ?_
              refine W0.if_ ?_
              refine WT.not ?_
              refine WT.plain ?_
              repeat walk_at "ws"
              refine WE.and2 ?_
              repeat walk_at "ws"
              exact ⟨rfl, _, _, _, rfl⟩
  refine oEEEEEEEEEEEEEEEA ho' fun oc' od' name' qual' params' body' scope' dV' kV' doc' pm' an' cdv' ct' osl' e k => ?_
  have e2 := Option.some.inj (e.symm.trans ho)
  have e3 : Data.func (fnOf name' qual' params' body' scope' dV' kV' doc' pm' an' cdv' ct') = Data.func (fnOf name qual params body scope dV kV doc pm an cdv ct) := congrArg Obj.data e2
  have e4 := Data.func.inj e3
  have e5 : scope' = scope := congrArg FuncData.scope e4
  have e6 : body' = body := FuncBody.stmts.inj (congrArg FuncData.body e4)
  subst e5 e6
  exact k hf
end
theorem are_ints {w : World} {Zb : Addr → Obj → Prop} {fz : Led} {ad : List Addr} {us : List Value} {is : List Int} (h : IntsAre us is) : isL w Zb fz ad (is.map V.int) us := by
  induction h with
  | nil => rfl
  | cons n t _ ih => rw [List.map_cons]; exact ⟨_, _, rfl, by exact ⟨t, rfl⟩, ih⟩
theorem list_told {P : Params} {s₁ : Heap} {tabs : List (Addr × Addr)} {a : Addr} {vals : List Value} {xs : List Int} (w1 : Well P s₁ (Value.ref a) (ofPy (PyData.list (List.map PyData.int xs)))) (lf : (ghostOf s₁ tabs).IsList a vals.toArray) : ∃ n, (ghostOf s₁ tabs).get? a = some (listOf vals.toArray n) := by
  refine hold fun _ hK9 => ?_
  refine oEAAE lf fun o h1 h2 n h3 => ?_
  refine hK9 ?_
  have h4 := of_hideAll _ h1
  change Well _ _ _ (.list _) at w1
  cases w1 with
  | list g _ =>
    rw [h4] at g
    obtain rfl := Option.some.inj g
    refine ⟨n, ?_⟩
    rw [h1]
    dsimp only at h3
    rw [h3]
theorem post_true {R : WRecords} {args ds : List WData} : (WShape.has R (.bool true) .bool && WTm.holds R (.eq .res (.lit (.bool true))) { args := args, res := some (.bool true), after := ds }) = true := by
  simp [WTm.holds, WTm.value, WShape.has, WShape.arms, W.same]
theorem pw {a b : Nat} {l : List Nat} (h : a < b) (p : (b :: l).Pairwise (· < ·)) : (a :: b :: l).Pairwise (· < ·) :=
  .cons (fun x hx => by
    rcases List.mem_cons.mp hx with rfl | hx
    · exact h
    · exact Nat.lt_trans h (List.rel_of_pairwise_cons p hx)) p
theorem nd7 {L : Nat} (h1 : 445 < L) (h2 : 654 < L) : ([445, 654, L + 1, L + 1 + 1, L + 1 + 1 + 1, L + 1 + 1 + 1 + 1, L + 1 + 1 + 1 + 1 + 1] : List Nat).Nodup := by
  have c : ([445, 654, L + 1, L + 1 + 1, L + 1 + 1 + 1, L + 1 + 1 + 1 + 1, L + 1 + 1 + 1 + 1 + 1] : List Nat).Pairwise (· < ·) :=
    pw (by decide) (pw (Nat.lt_succ_of_lt h2) (pw (Nat.lt_succ_self _) (pw (Nat.lt_succ_self _) (pw (Nat.lt_succ_self _) (pw (Nat.lt_succ_self _) (List.pairwise_singleton _ _))))))
  exact c.imp Nat.ne_of_lt
theorem lt7 {L q : Nat} (h1 : 445 < L) (h : q ∈ ([445, 654, L + 1, L + 1 + 1, L + 1 + 1 + 1, L + 1 + 1 + 1 + 1, L + 1 + 1 + 1 + 1 + 1] : List Nat)) : 1 < q := by
  have c : ∀ x ∈ ([445, 654, L + 1, L + 1 + 1, L + 1 + 1 + 1, L + 1 + 1 + 1 + 1, L + 1 + 1 + 1 + 1 + 1] : List Nat), 1 < x :=
    have p : 1 < L := Nat.lt_trans (by decide) h1
    have p1 := Nat.lt_succ_of_lt p
    have p2 := Nat.lt_succ_of_lt p1
    have p3 := Nat.lt_succ_of_lt p2
    have p4 := Nat.lt_succ_of_lt p3
    List.forall_mem_cons.mpr ⟨by decide, List.forall_mem_cons.mpr ⟨by decide, List.forall_mem_cons.mpr ⟨p1, List.forall_mem_cons.mpr ⟨p2, List.forall_mem_cons.mpr ⟨p3, List.forall_mem_cons.mpr ⟨p4, List.forall_mem_cons.mpr ⟨Nat.lt_succ_of_lt p4, List.forall_mem_nil _⟩⟩⟩⟩⟩⟩⟩
  exact c q h
noncomputable abbrev led7 (L : Addr) (w0 w1 w2 w3 w4 : Obj) : Led := [(445, tabObj #[]), (654, tabObj #[]), (L + 1, w0), (L + 1 + 1, w1), (L + 1 + 1 + 1, w2), (L + 1 + 1 + 1 + 1, w3), (L + 1 + 1 + 1 + 1 + 1, w4)]
theorem law_run {w : World} {s : Shared} {loose : List Str} {mean : ExcName → Option Value} {mg mb : Str → Option Value} {G : Heap} {L fa a : Addr} {name nm qual : Str} {body : List Stmt} {scope : Scope} {m : Str → Option Value} {w0 w1 w2 w3 w4 : Obj} {vals : List Value} {xs : List Int} {n : Nat}
    {params : Arguments} {dV kV doc pm cdv ct oc : Value} {an od : Option Addr} {osl : Array (Option Value)} {Q : Flow → Shared → Prop} {E : Value → Shared → Prop}
    (ho : (wrt.heap_1 w.params).lookup 657 = some ⟨oc, od, .func (fnOf nm qual params body scope dV kV doc pm an cdv ct), osl⟩)
    (X : (wrt.heap_1 w.params).In G) (T : Top topProg loose mean mg mb G) (K : Below callerA G [] G) (F : Fr G L s.heap m)
    (N : News G L s.heap [(L + 1 + 1 + 1 + 1 + 1, w4), (L + 1 + 1 + 1 + 1, w3), (L + 1 + 1 + 1, w2), (L + 1 + 1, w1), (L + 1, w0), (445, tabObj #[]), (654, tabObj #[])])
    (d0 : w0.data = .cell none) (d1 : w1.data = .cell none) (d2 : w2.data = .cell none) (d3 : w3.data = .cell none) (d4 : w4.data = .cell none)
    (hscr : m "script" = some (.ref a)) (hlist : G.get? a = some (listOf vals.toArray n)) (hI : IntsAre vals xs) (h63 : xs.length ≤ 63) (hcd : CodeHd G 656 654) (l0 : 445 < L ∧ 654 < L)
    (hk : scope.kind = .function) (hcel : ∀ x i, lawCel.lookup x = some i → ∃ b, (cellsFrom (L + 1) scope.names []).lookup x = some b ∧ ([445, 654, L + 1, L + 1 + 1, L + 1 + 1 + 1, L + 1 + 1 + 1 + 1, L + 1 + 1 + 1 + 1 + 1] : List Addr)[i]? = some b)
    (hQ : ∀ h' tk', (∀ b o, G.get? b = some o → h'.get? b = some o) → GrownAt 445 h' → GrownAt 654 h' → Q (.ret (.bool true)) { s with heap := h', toks := tk' }) :
    wpAny (model thePr w) (callerA.deeper (envOfC name scope L fa (.ref 656))) (execs body (envOfC name scope L fa (.ref 656))) Q E s := by
  let X1 : Cb := Cb.mk w 60 topProg loose mean mg mb 302 7 (some []) name scope fa (.ref 656) (cellsFrom (L + 1) scope.names []) [] callerA G G L (fun b o => G.get? b = some o) [] (envX name scope L fa (.ref 656) (cellsFrom (L + 1) scope.names [])) none
  have ok1 : Cx.Ok ⟨X1, scope, lawCel, 7⟩ := by
    refine ⟨K, X, T, hk, ?_, ?_, fun a o z => z, fun a o z => X a o z, rfl, hk, rfl, rfl, ?_, ?_⟩
    · show 302 + 60 < 900; decide
    · show 7 + 20 * 60 < 9000; decide
    · intro x pos u m f s Q E hx hd FF NN LAA hfx hq
      obtain rfl : f = m := LAA
      exact nameX_L FF hfx hq hk hx hd
    · intro x pos cc ob u s Q E hx hd hd2 hl hg hdat hq
      rcases hx with hx | hx
      · exact wpAny_Name (wpAny_loadName_cell hk hx hl ⟨ob, hg, hdat⟩ hq) hd
      · exact wpAny_Name (wpAny_loadName_free hk hx hl ⟨ob, hg, hdat⟩ hq hd2) hd
  have R1 : Rel ⟨X1, scope, lawCel, 7⟩ ⟨lc [("script", .lst (xs.map V.int))], lawMem⟩ [] [(445, tabObj #[]), (654, tabObj #[]), (L + 1, w0), (L + 1 + 1, w1), (L + 1 + 1 + 1, w2), (L + 1 + 1 + 1 + 1, w3), (L + 1 + 1 + 1 + 1 + 1, w4)] s.heap := by
    refine ⟨ok1, ⟨m, m, F, rfl, fun x v hx => ?_⟩, fun q hq => N q ?_, ?_, ?_, fun x i hx => ?_, Nat.le_refl 7, fun q hq => ?_⟩
    · unfold lc at hx
      rw [List.lookup_cons] at hx
      split at hx
      · rename_i e
        have e := eq_of_beq e
        cases hx
        subst e
        refine ⟨_, hscr, ?_⟩
        exact ⟨a, _, vals, n, rfl, .inl hlist, rfl, rfl, are_ints hI⟩
      · cases hx
    · have hq : q ∈ led7 L w0 w1 w2 w3 w4 := hq
      simp only [led7, List.mem_cons, List.not_mem_nil, or_false] at hq ⊢
      rcases hq with h | h | h | h | h | h | h <;> simp [h]
    · exact nd7 l0.1 l0.2
    · unfold lawMem
      refine ⟨_, _, rfl, ⟨rfl, #[], rfl, trivial, fun _ _ => rfl⟩, _, _, rfl, ⟨rfl, #[], rfl, trivial, fun _ _ => rfl⟩, _, _, rfl, ⟨_, d0, trivial⟩, _, _, rfl, ⟨_, d1, trivial⟩, _, _, rfl, ⟨_, d2, trivial⟩, _, _, rfl, ⟨_, d3, trivial⟩, _, _, rfl, ⟨_, d4, trivial⟩, rfl⟩
    · exact hcel x i hx
    · have hq : q ∈ led7 L w0 w1 w2 w3 w4 := hq
      exact lt7 (L := L) l0.1 (List.mem_map_of_mem (f := Prod.fst) hq)
  refine w_law (X' := X1) (xs := xs) (Nat.le_refl _) rfl rfl hcd ho ⟨rfl, rfl, rfl⟩ h63 ⟨rfl, rfl, rfl⟩ s _ _ Q E R1 ?_ ?_
  · intro f σ' fz' ml' h' tk' u q87 x1 R2 hu
    refine oAEEE q87 fun e90 l0' l1' r hm => ?_
    subst e90
    refine oEA hu fun u' e91 hu' => ?_
    subst e91
    subst hu'
    obtain ⟨m', f', F', _⟩ := R2.fr
    have M0 := R2.mem
    rw [hm] at M0
    refine hold fun _ hK9 => ?_
    refine oEEAAEEAA M0 fun p0 r0 e92 q93 p1 r1 e96 q97 _ => ?_
    subst e92
    refine oAEA q93 fun i1 ps1 i2 _ => ?_
    subst e96
    refine oAEA q97 fun j1 ps2 j2 _ => ?_
    refine hK9 ?_
    have i1 : some p0.1 = some 445 := i1
    have j1 : some p1.1 = some 654 := j1
    refine hQ h' tk' F'.keep ⟨ps1, ?_⟩ ⟨ps2, ?_⟩
    · have := (R2.news p0 (by simp)).1
      rw [Option.some.inj i1, i2] at this
      exact this
    · have := (R2.news p1 (by simp)).1
      rw [Option.some.inj j1, j2] at this
      exact this
  · intro σ' fz' ml' h' tk' u q86
    refine oA q86 fun q _ => ?_
    cases q
end Mine
end
section
open PySem PySem.W PyProof.Rows PySem.Spec PySem.Calls
namespace Mine.hd
theorem tw14685462170515437407 : True := trivial
theorem tw7519716089354478335 : True := trivial
theorem tw3309697970292668127 : True := trivial
theorem tw14400467628812073631 : True := trivial
theorem tw442638132926106271 : True := trivial
theorem tw5245234834050458271 : True := trivial
theorem tw10543509907540572799 : True := trivial
theorem tw12611767792052310623 : True := trivial
theorem tw2284436838669742495 : True := trivial
theorem tw5505332120971382143 : True := trivial
theorem tw1954109241102656831 : True := trivial
theorem tw4478166936697009375 : True := trivial
theorem tw3530705653197291679 : True := trivial
theorem tw12070051907170230399 : True := trivial
theorem tw6931407450589930559 : True := trivial
theorem tw6423634429210846174 : True := trivial
theorem tw14620637471214046174 : True := trivial
theorem tw8047900516022102942 : True := trivial
theorem tw10772546034069785438 : True := trivial
theorem tw12744807935193187038 : True := trivial
theorem tw7510230149288206974 : True := trivial
theorem tw9763420282994701918 : True := trivial
theorem tw3480954088277226078 : True := trivial
theorem tw9533747618267967006 : True := trivial
theorem tw2329189449893159454 : True := trivial
theorem tw17739348878880393726 : True := trivial
theorem tw17901334829092211166 : True := trivial
theorem tw8664936974563722654 : True := trivial
theorem tw13431754692932380062 : True := trivial
theorem tw17681399029576232318 : True := trivial
theorem tw13638418597567726942 : True := trivial
theorem tw4172343393113369950 : True := trivial
theorem tw16259696140248634718 : True := trivial
theorem tw6838551448383532254 : True := trivial
theorem tw6123773746684550334 : True := trivial
theorem tw9673543361469618366 : True := trivial
theorem tw7746578258024575070 : True := trivial
theorem tw11631869004601391166 : True := trivial
theorem tw16194383521188589630 : True := trivial
theorem tw3182187488490625086 : True := trivial
theorem tw9277588360372424766 : True := trivial
theorem tw9571657101598308349 : True := trivial
theorem tw15833661619300960221 : True := trivial
theorem tw221497870779424605 : True := trivial
theorem tw8226494294326810461 : True := trivial
theorem tw845060206244984605 : True := trivial
theorem tw15967140613478806237 : True := trivial
theorem tw3704167492566942397 : True := trivial
theorem tw3646829019195819677 : True := trivial
theorem tw7763873220885509757 : True := trivial
theorem tw5608270528595127837 : True := trivial
theorem tw10792051664901133789 : True := trivial
theorem tw4478177076189095293 : True := trivial
theorem tw6924109203229866365 : True := trivial
theorem tw16868993833207775613 : True := trivial
theorem tw2457190517430149469 : True := trivial
theorem tw17714235663813219645 : True := trivial
theorem tw4363365295628954845 : True := trivial
theorem tw17605410148220273821 : True := trivial
theorem tw7010584846471099517 : True := trivial
theorem tw922143313871775805 : True := trivial
theorem tw13289513938125300765 : True := trivial
theorem tw18219297243305740317 : True := trivial
theorem tw17986969038992634876 : True := trivial
theorem tw11117797201346649052 : True := trivial
theorem tw14852329139284432860 : True := trivial
theorem tw1331086792558400476 : True := trivial
theorem tw1683482310774553532 : True := trivial
theorem tw4402725079659364252 : True := trivial
theorem tw1194904439430580092 : True := trivial
theorem tw4182648748547736412 : True := trivial
theorem tw2252305205657439004 : True := trivial
theorem tw2327210489368252092 : True := trivial
theorem tw17599816209265215132 : True := trivial
theorem tw3451239065008710300 : True := trivial
theorem tw1699103778626983548 : True := trivial
theorem tw7578210074245671484 : True := trivial
theorem tw2887051446865420828 : True := trivial
theorem tw7085514621470718492 : True := trivial
theorem tw16091413853298234908 : True := trivial
theorem tw12591134339009171964 : True := trivial
theorem tw15615420239508185596 : True := trivial
theorem tw395138700845864316 : True := trivial
theorem tw11319097763535126812 : True := trivial
theorem tw1118553966540926140 : True := trivial
theorem tw13770079208771991547 : True := trivial
theorem tw15642763164714097627 : True := trivial
theorem tw461538923250603899 : True := trivial
theorem tw404451572033071931 : True := trivial
theorem tw17177331786930743035 : True := trivial
theorem tw9719896912496429819 : True := trivial
theorem tw2068664650715991707 : True := trivial
theorem tw3085183777334472315 : True := trivial
theorem tw17491317419825422843 : True := trivial
theorem tw13828106393651249627 : True := trivial
theorem tw10024716035694756283 : True := trivial
theorem tw6767318904944593275 : True := trivial
theorem tw14478148883734587675 : True := trivial
theorem tw15675198926951892251 : True := trivial
theorem tw128412058910260475 : True := trivial
theorem tw11079593142295127227 : True := trivial
theorem tw14353793391729792155 : True := trivial
theorem tw15103106377680225435 : True := trivial
theorem tw11032806212648032379 : True := trivial
theorem tw13372043803930879067 : True := trivial
theorem tw1610171440888473627 : True := trivial
theorem tw8273930003744585626 : True := trivial
theorem tw13038990169509382042 : True := trivial
theorem tw11652457597714270106 : True := trivial
theorem tw12394076208661396346 : True := trivial
theorem tw11232374478483605306 : True := trivial
theorem tw7598622570094877466 : True := trivial
theorem tw16157073509204512506 : True := trivial
theorem tw14960593345356199642 : True := trivial
theorem tw5373601922739893978 : True := trivial
theorem tw361575752280415930 : True := trivial
theorem tw7526368328331116154 : True := trivial
theorem tw1600037746751723098 : True := trivial
theorem tw9421340871869096474 : True := trivial
theorem tw6868836192036940282 : True := trivial
theorem tw1147470481896660410 : True := trivial
theorem tw464777395874653626 : True := trivial
theorem tw5592360268479517082 : True := trivial
theorem tw2114630138375439770 : True := trivial
theorem tw12050417470231563642 : True := trivial
theorem tw541196102884509978 : True := trivial
theorem tw11953376511379268794 : True := trivial
theorem tw15673258824015622330 : True := trivial
theorem tw5902613922787404954 : True := trivial
theorem tw7854228177987924090 : True := trivial
theorem tw13047593935725612058 : True := trivial
theorem tw17047115858639842297 : True := trivial
theorem tw22551697357593593 : True := trivial
theorem tw6982297934935202809 : True := trivial
theorem tw8081886968326746073 : True := trivial
theorem tw17330945745186091897 : True := trivial
theorem tw17574625026820762457 : True := trivial
theorem tw16772102934027710169 : True := trivial
theorem tw881544763273948857 : True := trivial
theorem tw3953601041324332601 : True := trivial
theorem tw11054480109507316185 : True := trivial
theorem tw10784824025267889561 : True := trivial
theorem tw1222794163293265305 : True := trivial
theorem tw15411387601460861337 : True := trivial
theorem tw18291419657060728153 : True := trivial
theorem tw2845679848157327705 : True := trivial
theorem tw2603259988358896889 : True := trivial
theorem tw15213948185873263833 : True := trivial
theorem tw728884934406724761 : True := trivial
theorem tw1588505670450824345 : True := trivial
theorem tw732345407407602841 : True := trivial
theorem tw4788038989552484473 : True := trivial
theorem tw13342606739435360313 : True := trivial
theorem tw4065347644161347641 : True := trivial
theorem tw12994019391074448376 : True := trivial
theorem tw15987713032478767096 : True := trivial
theorem tw10860895700388868024 : True := trivial
theorem tw8770205317985620760 : True := trivial
theorem tw8516288146210602744 : True := trivial
theorem tw10727248033764811480 : True := trivial
theorem tw12769127236821124696 : True := trivial
theorem tw15048261121198461528 : True := trivial
theorem tw14176624398918483544 : True := trivial
theorem tw13267510147771200024 : True := trivial
theorem tw26425463804135960 : True := trivial
theorem tw13866372431405929976 : True := trivial
theorem tw5511420028821071320 : True := trivial
theorem tw15759970867653108152 : True := trivial
theorem tw14768889098011018680 : True := trivial
theorem tw2274498078352570744 : True := trivial
theorem tw18093812233618175256 : True := trivial
theorem tw2799067240506288376 : True := trivial
theorem tw17650839729002327288 : True := trivial
theorem tw5562173858411828344 : True := trivial
theorem tw18300207936620678264 : True := trivial
theorem tw16456969618363192440 : True := trivial
theorem tw9345676750909349944 : True := trivial
theorem tw15946388913382835224 : True := trivial
theorem tw2951005344575393816 : True := trivial
theorem tw6140570298594658328 : True := trivial
theorem tw2788664435532181463 : True := trivial
theorem tw11136197038861592535 : True := trivial
theorem tw11389486352061984695 : True := trivial
theorem tw2134215046882385847 : True := trivial
theorem tw10879034167726328663 : True := trivial
theorem tw3381375190539634487 : True := trivial
theorem tw307737655149646647 : True := trivial
theorem tw11402939732021071671 : True := trivial
theorem tw12393119488966705847 : True := trivial
theorem tw7292484366425897655 : True := trivial
theorem tw15416985209724490359 : True := trivial
theorem tw16064382804478563927 : True := trivial
theorem tw13783031573616600631 : True := trivial
theorem tw3442329435671937591 : True := trivial
theorem tw16970440968685349367 : True := trivial
theorem tw5283464899586487735 : True := trivial
theorem tw2448417245163862455 : True := trivial
theorem tw2216850387143573719 : True := trivial
theorem tw14029546391885035639 : True := trivial
theorem tw15615537253650120727 : True := trivial
theorem tw15367242080415987702 : True := trivial
theorem tw6184460063843016694 : True := trivial
theorem tw9440118169554580438 : True := trivial
theorem tw4138081844389336918 : True := trivial
theorem tw1011335219593555734 : True := trivial
theorem tw7369741819223213686 : True := trivial
theorem tw3814350955762905654 : True := trivial
theorem tw17420951861521290806 : True := trivial
theorem tw16155205043701107222 : True := trivial
theorem tw7752767780024739350 : True := trivial
theorem tw17863302656999482806 : True := trivial
theorem tw11213053971927718326 : True := trivial
theorem tw15610959940260225430 : True := trivial
theorem tw16713699803418581334 : True := trivial
theorem tw16473244170626142550 : True := trivial
theorem tw1413172679324656950 : True := trivial
theorem tw1848646778235469078 : True := trivial
theorem tw8343274005884668182 : True := trivial
theorem tw8965841893048198262 : True := trivial
theorem tw10919297434634762262 : True := trivial
theorem tw6820862383352777685 : True := trivial
theorem tw1425423193147277237 : True := trivial
theorem tw9366941133304187829 : True := trivial
theorem tw3941438180925939637 : True := trivial
theorem tw9427301549700849589 : True := trivial
theorem tw1666387254794493845 : True := trivial
theorem tw13483081372092288885 : True := trivial
theorem tw13609717118414637909 : True := trivial
theorem tw16302227732802510677 : True := trivial
theorem tw15508949281206285077 : True := trivial
theorem tw7494724483528729301 : True := trivial
theorem tw12173100003817136821 : True := trivial
theorem tw16357263729072622229 : True := trivial
theorem tw3571134770919094901 : True := trivial
theorem tw9886212827616641653 : True := trivial
theorem tw17673860158736603733 : True := trivial
theorem tw2608437505485318709 : True := trivial
theorem tw14103535550066685397 : True := trivial
theorem tw6442067068224118133 : True := trivial
theorem tw13225837485096350037 : True := trivial
theorem tw9496365245306024149 : True := trivial
theorem tw11162318198679636149 : True := trivial
theorem tw6598312636042714100 : True := trivial
theorem tw1439246655266547700 : True := trivial
theorem tw5629675986466331604 : True := trivial
theorem tw17542962492245011380 : True := trivial
theorem tw226724450230711188 : True := trivial
theorem tw6136932545381038964 : True := trivial
theorem tw1997569388931296116 : True := trivial
theorem tw697623264460660564 : True := trivial
theorem tw9131607905817354932 : True := trivial
theorem tw18293732401869909652 : True := trivial
theorem tw11256106856564762260 : True := trivial
theorem tw7540741092611519060 : True := trivial
theorem tw4014540891139286612 : True := trivial
theorem tw7366208706002141716 : True := trivial
theorem tw6998783941825042932 : True := trivial
theorem tw15422856539912107476 : True := trivial
theorem tw6547078798241139092 : True := trivial
theorem tw7540655947842036084 : True := trivial
theorem tw6164396464334811476 : True := trivial
theorem tw15529170255622000948 : True := trivial
theorem tw4367231431732253908 : True := trivial
theorem tw4851647983119433812 : True := trivial
theorem tw18103420901670897651 : True := trivial
theorem tw8789358453043137523 : True := trivial
theorem tw13409441903868389331 : True := trivial
theorem tw4015398097383911347 : True := trivial
theorem tw16640546478005224243 : True := trivial
theorem tw920214292312260371 : True := trivial
theorem tw3008623586974134963 : True := trivial
theorem tw4115565904173853331 : True := trivial
theorem tw18103342009636024947 : True := trivial
theorem tw11151547217846952531 : True := trivial
theorem tw5363564295841288755 : True := trivial
theorem tw7793673504863384051 : True := trivial
theorem tw16432713993328977331 : True := trivial
theorem tw16006246977917349235 : True := trivial
theorem tw16502264421070913907 : True := trivial
theorem tw16945582573551092051 : True := trivial
theorem tw7289634563603522867 : True := trivial
theorem tw5238241317806426387 : True := trivial
theorem tw5657824000916062451 : True := trivial
theorem tw5567388512258382067 : True := trivial
theorem tw10806950440038215891 : True := trivial
theorem tw9184186324627900627 : True := trivial
theorem tw3694398316872202419 : True := trivial
theorem tw8538877666451538035 : True := trivial
theorem tw17429513623812275283 : True := trivial
theorem tw10601615944963115059 : True := trivial
theorem tw15083628210047938546 : True := trivial
theorem tw1097998534492414930 : True := trivial
theorem tw8112040973832200146 : True := trivial
theorem tw7296583596125217682 : True := trivial
theorem tw6293948785866598258 : True := trivial
theorem tw9298403506768410418 : True := trivial
theorem tw10525666975642140466 : True := trivial
theorem tw14560493823538711346 : True := trivial
theorem tw8053944837975664402 : True := trivial
theorem tw1580110805410547442 : True := trivial
theorem tw16257038226119295666 : True := trivial
theorem tw250903467453971090 : True := trivial
theorem tw17377529257436501650 : True := trivial
theorem tw5282504435634884242 : True := trivial
theorem tw2167537188350426706 : True := trivial
theorem tw5366084841770067474 : True := trivial
theorem tw7754304195085646258 : True := trivial
theorem tw15813434630575017362 : True := trivial
theorem tw14772383043592177042 : True := trivial
theorem tw9499510787657705874 : True := trivial
theorem tw15166520500009309586 : True := trivial
theorem tw9641152695372364146 : True := trivial
theorem tw8025032847418708242 : True := trivial
theorem tw8683856772340465682 : True := trivial
theorem tw6759412095888398321 : True := trivial
theorem tw16029623286316568529 : True := trivial
theorem tw5716766192118558609 : True := trivial
theorem tw16053994301053490033 : True := trivial
theorem tw6578402527460240241 : True := trivial
theorem tw7317836474542784337 : True := trivial
theorem tw6545403380812914513 : True := trivial
theorem tw4990156530697904881 : True := trivial
theorem tw8117029840178788049 : True := trivial
theorem tw5961118342813265553 : True := trivial
theorem tw12113243949977362033 : True := trivial
theorem tw3828038474966422129 : True := trivial
theorem tw13220430256171166289 : True := trivial
theorem tw8015326511298524721 : True := trivial
theorem tw11034497122203965937 : True := trivial
theorem tw7082855905992002993 : True := trivial
theorem tw16056359734778111409 : True := trivial
theorem tw15852365999677673905 : True := trivial
theorem tw16634568088961857937 : True := trivial
theorem tw17903497710992402801 : True := trivial
theorem tw6882427118574961969 : True := trivial
theorem tw100483095206116625 : True := trivial
theorem tw14705683404202351889 : True := trivial
theorem tw280609765759037681 : True := trivial
theorem tw432457690288141553 : True := trivial
theorem tw5247051413645994129 : True := trivial
theorem tw15527848837575444561 : True := trivial
theorem tw876933089483189297 : True := trivial
theorem tw13322179722446271537 : True := trivial
theorem tw13790719812936386609 : True := trivial
theorem tw3434918251397683217 : True := trivial
theorem tw15279998641719260112 : True := trivial
theorem tw12614811148066621264 : True := trivial
theorem tw15595854959937240912 : True := trivial
theorem tw8351282476255451920 : True := trivial
theorem tw11551083187376567056 : True := trivial
theorem tw13518370688599389936 : True := trivial
theorem tw4856431653887292112 : True := trivial
theorem tw1712922718373300912 : True := trivial
theorem tw7382370116671421104 : True := trivial
theorem tw13285133528070534704 : True := trivial
theorem tw16853341256802265648 : True := trivial
theorem tw7891253978561527248 : True := trivial
theorem tw10491609206876299696 : True := trivial
theorem tw1017328040139425936 : True := trivial
theorem tw8801323125487838256 : True := trivial
theorem tw402640490398009360 : True := trivial
theorem tw10111801491309104144 : True := trivial
theorem tw1197925565968671727 : True := trivial
theorem tw16649331688326792143 : True := trivial
theorem tw8879563391730754479 : True := trivial
theorem tw13315533130655954831 : True := trivial
theorem tw9657781627882305391 : True := trivial
theorem tw11319892378374348655 : True := trivial
theorem tw2101469004524951375 : True := trivial
theorem tw6990203504111849199 : True := trivial
theorem tw5987830557187376847 : True := trivial
theorem tw11709330566771433103 : True := trivial
theorem tw10012880186880212623 : True := trivial
theorem tw12631932088317031055 : True := trivial
theorem tw595665005123775055 : True := trivial
theorem tw3759623122121258479 : True := trivial
theorem tw6082411064634330575 : True := trivial
theorem tw8587404781116728655 : True := trivial
theorem tw2442259710966052079 : True := trivial
theorem tw15616948245753086127 : True := trivial
theorem tw1452849714261714991 : True := trivial
theorem tw6818987989461384207 : True := trivial
theorem tw9345929723534960622 : True := trivial
theorem tw14553816603554493358 : True := trivial
theorem tw16722109127936396110 : True := trivial
theorem tw4159134105002834734 : True := trivial
theorem tw9555612238305686254 : True := trivial
theorem tw1781861727890032366 : True := trivial
theorem tw3429492842335990350 : True := trivial
theorem tw185848376630758926 : True := trivial
theorem tw9617658007855726926 : True := trivial
theorem tw17311223219408574766 : True := trivial
theorem tw4654797750381630734 : True := trivial
theorem tw14294001040229213422 : True := trivial
theorem tw12471131715012749390 : True := trivial
theorem tw7880807054014371918 : True := trivial
theorem tw14980023328507725902 : True := trivial
theorem tw11801993109049149486 : True := trivial
theorem tw9398405308114057262 : True := trivial
theorem tw10614716105012338702 : True := trivial
theorem tw1088296927520436173 : True := trivial
theorem tw13929354066492186541 : True := trivial
theorem tw10404513684093684653 : True := trivial
theorem tw17606422857730326317 : True := trivial
theorem tw16240987189780228909 : True := trivial
theorem tw4068527845204499245 : True := trivial
theorem tw5036846961687405229 : True := trivial
theorem tw6184208073178115725 : True := trivial
theorem tw853570095554691725 : True := trivial
theorem tw16828841361933241965 : True := trivial
theorem tw3404104791013757517 : True := trivial
theorem tw4377701919642642989 : True := trivial
theorem tw8457440626546761165 : True := trivial
theorem tw16345102440705955213 : True := trivial
theorem tw16919406825032445293 : True := trivial
theorem tw13321331477185743149 : True := trivial
theorem tw1013155817946168525 : True := trivial
theorem tw16332348944364537037 : True := trivial
theorem tw257007361410690125 : True := trivial
theorem tw1409312971732116557 : True := trivial
theorem tw15837987909243819085 : True := trivial
theorem tw16171809288044610508 : True := trivial
theorem tw12023040214023829324 : True := trivial
theorem tw6819123309680001836 : True := trivial
theorem tw15368132723985388332 : True := trivial
theorem tw10292235466723388172 : True := trivial
theorem tw7270182246851987180 : True := trivial
theorem tw12588582704262371052 : True := trivial
theorem tw17948085552500728524 : True := trivial
theorem tw8004679753235328684 : True := trivial
theorem tw5130813555471234732 : True := trivial
theorem tw6482722132109649516 : True := trivial
theorem tw12575139184659369484 : True := trivial
theorem tw12092154237167983948 : True := trivial
theorem tw16299908979028503884 : True := trivial
theorem tw14060154772996877548 : True := trivial
theorem tw1043307727769730188 : True := trivial
theorem tw6186238094035137676 : True := trivial
theorem tw12647368939536790636 : True := trivial
theorem tw1836080755315867724 : True := trivial
theorem tw4136554803537287180 : True := trivial
theorem tw4315991029959535628 : True := trivial
theorem tw6264232113106981867 : True := trivial
theorem tw978945382295711627 : True := trivial
theorem tw8716120427605611371 : True := trivial
theorem tw6196171512934965099 : True := trivial
theorem tw8242931771332617035 : True := trivial
theorem tw2999033326186475339 : True := trivial
theorem tw8727321023445011275 : True := trivial
theorem tw9748044761591592747 : True := trivial
theorem tw15089522573102190283 : True := trivial
theorem tw9741134391959003819 : True := trivial
theorem tw7534799579077118603 : True := trivial
theorem tw6683769817339685419 : True := trivial
theorem tw17054507655720011243 : True := trivial
theorem tw15463257786427224491 : True := trivial
theorem tw9170477692918782315 : True := trivial
theorem tw11917015161858427179 : True := trivial
theorem tw18176940659606848779 : True := trivial
theorem tw12832683148521936107 : True := trivial
theorem tw3443669649825651883 : True := trivial
theorem tw13277076834127875243 : True := trivial
theorem tw11128854368766332075 : True := trivial
theorem tw12239354291974867115 : True := trivial
theorem tw9271970288684553227 : True := trivial
theorem tw4478964076566166474 : True := trivial
theorem tw12112201142124510154 : True := trivial
theorem tw12487502673411948298 : True := trivial
theorem tw10170382586518783626 : True := trivial
theorem tw9132557439983319658 : True := trivial
theorem tw4360684699965382250 : True := trivial
theorem tw10603584201595350602 : True := trivial
theorem tw6528754448969337418 : True := trivial
theorem tw14492701947808656938 : True := trivial
theorem tw17447410573909459338 : True := trivial
theorem tw4383666589626881386 : True := trivial
theorem tw5416991563250132298 : True := trivial
theorem tw7654286748164834634 : True := trivial
theorem tw16794629799341752650 : True := trivial
theorem tw9406673726873002282 : True := trivial
theorem tw6804821044290156842 : True := trivial
theorem tw6898005170327248138 : True := trivial
theorem tw13217225542625558698 : True := trivial
theorem tw6906073325868019850 : True := trivial
theorem tw15042006015671813226 : True := trivial
theorem tw18264374347568628810 : True := trivial
theorem tw3915529967508079626 : True := trivial
theorem tw5148922909946612681 : True := trivial
theorem tw9566141503761928105 : True := trivial
theorem tw15801637453660337897 : True := trivial
theorem tw663384727985864361 : True := trivial
theorem tw17925215291927510665 : True := trivial
theorem tw5009564483982726761 : True := trivial
theorem tw3350844169311001129 : True := trivial
theorem tw8184699220007379433 : True := trivial
theorem tw9244321171653502345 : True := trivial
theorem tw14906377314874228009 : True := trivial
theorem tw8652628183442184457 : True := trivial
theorem tw4225703048834024713 : True := trivial
theorem tw18166333605607142505 : True := trivial
theorem tw8959176491354863721 : True := trivial
theorem tw189712035060473897 : True := trivial
theorem tw3259873300814134281 : True := trivial
theorem tw11011131195910976488 : True := trivial
theorem tw6627881031435992008 : True := trivial
theorem tw17975533764899295144 : True := trivial
theorem tw4870687313549177768 : True := trivial
theorem tw302100336521851816 : True := trivial
theorem tw162610821266807592 : True := trivial
theorem tw4297731678662094536 : True := trivial
theorem tw4642405928176397000 : True := trivial
theorem tw2708950531961675432 : True := trivial
theorem tw18268791191939849864 : True := trivial
theorem tw6038821095411175016 : True := trivial
theorem tw14457593812595234344 : True := trivial
theorem tw12949589719889679912 : True := trivial
theorem tw10883786394301105576 : True := trivial
theorem tw16920754564084929960 : True := trivial
theorem tw10246146449241189800 : True := trivial
theorem tw13642289790063256904 : True := trivial
theorem tw8671608845466749128 : True := trivial
theorem tw3154846284449791112 : True := trivial
theorem tw4282304852377368616 : True := trivial
theorem tw190519026028168232 : True := trivial
theorem tw8545014587354053640 : True := trivial
theorem tw701787995468756871 : True := trivial
theorem tw7028611270464810887 : True := trivial
theorem tw6469175993241445255 : True := trivial
theorem tw17672654358674132775 : True := trivial
theorem tw8960069828448710407 : True := trivial
theorem tw5054737718236178183 : True := trivial
theorem tw7068711184596962023 : True := trivial
theorem tw11660266114150955751 : True := trivial
theorem tw12058812876911547015 : True := trivial
theorem tw12901994302517312135 : True := trivial
theorem tw13280443560766958183 : True := trivial
theorem tw9557236495431379559 : True := trivial
theorem tw3109861748172591687 : True := trivial
theorem tw9783614193127449063 : True := trivial
theorem tw5635641802508607975 : True := trivial
theorem tw8977307856219701671 : True := trivial
theorem tw17353292581356140935 : True := trivial
theorem tw17062030032774818151 : True := trivial
theorem tw17919194246423945575 : True := trivial
theorem tw15683763237869141255 : True := trivial
theorem tw17893044597097874663 : True := trivial
theorem tw10844753989422098599 : True := trivial
theorem tw15043168886218598503 : True := trivial
theorem tw1589133516308662214 : True := trivial
theorem tw8934143017859847078 : True := trivial
theorem tw9386895884608548742 : True := trivial
theorem tw7153062008950511462 : True := trivial
theorem tw13893168526513508166 : True := trivial
theorem tw11587034568685482758 : True := trivial
theorem tw8990313861142287110 : True := trivial
theorem tw1506431575118746342 : True := trivial
theorem tw4993660671451451078 : True := trivial
theorem tw1865391376527767206 : True := trivial
theorem tw13903934854276604550 : True := trivial
theorem tw2195365466389143174 : True := trivial
theorem tw17562767543260142214 : True := trivial
theorem tw17258206423299326598 : True := trivial
theorem tw10424393626065333798 : True := trivial
theorem tw3795277891434052102 : True := trivial
theorem tw2386827423013361158 : True := trivial
theorem tw13066319289922817542 : True := trivial
theorem tw991583007596301734 : True := trivial
theorem tw11778180911958503814 : True := trivial
theorem tw7523672394736509286 : True := trivial
theorem tw212345690472687942 : True := trivial
theorem tw16211521421427940678 : True := trivial
theorem tw8268277133935991078 : True := trivial
theorem tw7628703163842673926 : True := trivial
theorem tw13466754112058979494 : True := trivial
theorem tw13181700845877081190 : True := trivial
theorem tw6555240042291301478 : True := trivial
theorem tw17491280204586788870 : True := trivial
theorem tw5505005885091257285 : True := trivial
theorem tw6438293893037913957 : True := trivial
theorem tw11251137523995926341 : True := trivial
theorem tw15790720579355451973 : True := trivial
theorem tw7721951785955056133 : True := trivial
theorem tw5976792059365374437 : True := trivial
theorem tw1847840615245081061 : True := trivial
theorem tw4021928978595405253 : True := trivial
theorem tw12399718760709695909 : True := trivial
theorem tw15910714762333108613 : True := trivial
theorem tw11893437276241958245 : True := trivial
theorem tw10258999931320997221 : True := trivial
theorem tw9702936160620672325 : True := trivial
theorem tw6305734824756694309 : True := trivial
theorem tw7355570028127101125 : True := trivial
theorem tw8356816923877370021 : True := trivial
theorem tw13931416462566266981 : True := trivial
theorem tw3789350110615891812 : True := trivial
theorem tw8458067239894703972 : True := trivial
theorem tw18241275227582772068 : True := trivial
theorem tw8684328023851190084 : True := trivial
theorem tw1241404454085649124 : True := trivial
theorem tw5732804406350252772 : True := trivial
theorem tw17001982702790524580 : True := trivial
theorem tw2323474266016966308 : True := trivial
theorem tw10949625832625181284 : True := trivial
theorem tw8493152586797012548 : True := trivial
theorem tw11465210709893060100 : True := trivial
theorem tw3219085151875037572 : True := trivial
theorem tw8068729725432388964 : True := trivial
theorem tw13855946660403688772 : True := trivial
theorem tw14892549342360969540 : True := trivial
theorem tw10507497572311344420 : True := trivial
theorem tw1299046323782801668 : True := trivial
theorem tw5278057926702712004 : True := trivial
theorem tw6785817131721698500 : True := trivial
theorem tw6407587892757256292 : True := trivial
theorem tw6320253292602491972 : True := trivial
theorem tw14896477498954680388 : True := trivial
theorem tw6060742912462422084 : True := trivial
theorem tw16477043939570097188 : True := trivial
theorem tw17843490464661113860 : True := trivial
theorem tw519851828213033955 : True := trivial
theorem tw18293851220164018083 : True := trivial
theorem tw11631947586910100387 : True := trivial
theorem tw2480057099694739299 : True := trivial
theorem tw9908193460736022307 : True := trivial
theorem tw11513968764499736323 : True := trivial
theorem tw9153386212771759811 : True := trivial
theorem tw17087091549796120035 : True := trivial
theorem tw1760603350576429475 : True := trivial
theorem tw6411954120941647267 : True := trivial
theorem tw11754176132448286083 : True := trivial
theorem tw2783992281797965187 : True := trivial
theorem tw5174551420813472067 : True := trivial
theorem tw3229955645248102723 : True := trivial
theorem tw1033889070964956483 : True := trivial
theorem tw17130151131035750659 : True := trivial
theorem tw16904818350239718627 : True := trivial
theorem tw2304311442786299043 : True := trivial
theorem tw5318216170032084099 : True := trivial
theorem tw18281850538092046467 : True := trivial
theorem tw1882180444382439491 : True := trivial
theorem tw8228950375871286339 : True := trivial
theorem tw18245042118932799458 : True := trivial
theorem tw9960721518486171458 : True := trivial
theorem tw1627912709990685506 : True := trivial
theorem tw7525542149764818722 : True := trivial
theorem tw5190246844813560578 : True := trivial
theorem tw3919010098100093602 : True := trivial
theorem tw5549315172176941698 : True := trivial
theorem tw5781342201191254626 : True := trivial
theorem tw11713075325732132258 : True := trivial
theorem tw12271959270614036898 : True := trivial
theorem tw17588044629489971554 : True := trivial
theorem tw758273949599710562 : True := trivial
theorem tw4702841417184801058 : True := trivial
theorem tw12936449754285732098 : True := trivial
theorem tw13919464512627920130 : True := trivial
theorem tw9430268157657104642 : True := trivial
theorem tw4272726840584523970 : True := trivial
theorem tw9731375825926819010 : True := trivial
theorem tw5480042469492414594 : True := trivial
theorem tw14745743045033390146 : True := trivial
theorem tw10905682514733158466 : True := trivial
theorem tw8609351116199087170 : True := trivial
theorem tw11210553801493137410 : True := trivial
theorem tw7914949630228597729 : True := trivial
theorem tw12602439190401603521 : True := trivial
theorem tw6046454685291232161 : True := trivial
theorem tw5343241284826551009 : True := trivial
theorem tw10678649693572172417 : True := trivial
theorem tw18343703819029505601 : True := trivial
theorem tw17336936450418997793 : True := trivial
theorem tw2315301623876862497 : True := trivial
theorem tw16037735763661986305 : True := trivial
theorem tw15220180469806662145 : True := trivial
theorem tw7512474625130614241 : True := trivial
theorem tw4086058157674990017 : True := trivial
theorem tw4111692666942324129 : True := trivial
theorem tw16858285156579221889 : True := trivial
theorem tw1168947359784239393 : True := trivial
theorem tw7610815399733428385 : True := trivial
theorem tw12127338746724423809 : True := trivial
theorem tw10752148897807903841 : True := trivial
theorem tw381697539089829889 : True := trivial
theorem tw17252143746492648416 : True := trivial
theorem tw14598272352848978880 : True := trivial
theorem tw15643275761693703936 : True := trivial
theorem tw17183224562656869120 : True := trivial
theorem tw16694946328126371552 : True := trivial
theorem tw12070654863422294720 : True := trivial
theorem tw16154546982801380032 : True := trivial
theorem tw4494801613693538912 : True := trivial
theorem tw1359830224848277088 : True := trivial
theorem tw15344866539931968096 : True := trivial
theorem tw8134915037123179040 : True := trivial
theorem tw7023726343779634624 : True := trivial
theorem tw17387473266821786944 : True := trivial
theorem tw8381844023166312768 : True := trivial
theorem tw10458740792067480800 : True := trivial
theorem tw17950676927832955104 : True := trivial
theorem tw5292301768408028288 : True := trivial
theorem tw4706079058837389440 : True := trivial
theorem tw16412773359747925120 : True := trivial
theorem tw6276725880618359904 : True := trivial
theorem tw4523669819894539328 : True := trivial
theorem tw1800889605409440832 : True := trivial
theorem tw8735263284916673568 : True := trivial
theorem tw4971549296188076032 : True := trivial
theorem tw2867327485932766208 : True := trivial
theorem tw6896595763078694529 : True := trivial
theorem tw6640165302454552479 : True := trivial
end Mine.hd
set_option Elab.async true in
theorem Mine.hd : PySem.Challenge.rw_qd0130_01.Holds := by
  w_on
  o_law
  k_head
  case hw => w_witness2
  k_go0
  all_goals try k_fold
  rename_i xs hs hlay0 hLx hrx hl2 as9 as8 a vals as5 hL ra w1 r0 hI hr hc1 hc2 hD h1 tk1 o4 o3 o2 o1 o0 e4 e3 e2 e1 e0 X0 X' T' K' F' ch N' l0
  obtain ⟨n, hlist⟩ := Mine.list_told w1 lifted
  refine Mine.law_run (a := a) (vals := vals) (xs := xs) (n := n) (by k_is) X' T' K' F' N' e0 e1 e2 e3 e4 ?_ hlist hI (by lia) codeHd l0 rfl ?_ ?_
  · rfl
  · intro x i hx
    simp only [Mine.lawCel, List.lookup_cons, List.lookup_nil] at hx
    (repeat' split at hx) <;> first | (cases hx; done) | (rename_i e; have e := eq_of_beq e; subst e; cases hx; exact ⟨_, rfl, rfl⟩)
  · intro h' tk' hkeep g1 g2
    exact ⟨⟨.inl ⟨.bool true, .bool true, [], rfl, fun _ => rfl, .bool true, Mine.post_true, fun _ => ⟨List.nodup_nil, fun _ h => (nomatch h)⟩⟩, hkeep, rfl, ‹_›⟩, g1, g2, trivial⟩
theorem PySem.Challenge.cw_qd0130_01_holds : PySem.Challenge.rw_qd0130_01.Holds :=
  Mine.hd
end
