import PyProof.Rows.All
import Wide.All
import OpenK.AllK
import Wide.FinOn
import PyProof.Rows.StrSub
import PyProof.NeData
import PyProof.P3Eq
import KE.KSortTup
import PyProof.TupleOfSeq
import PyProof.ListRange
import PyProof.Rows.SortStr
import Lean
import PySem.Challenge.RW_pc0239_01
open PySem PySem.W PyProof.Rows
set_option Elab.async false
set_option maxRecDepth 100000
set_option autoImplicit false
set_option linter.unusedVariables false
set_option linter.unusedSimpArgs false
set_option compiler.extract_closed false
set_option maxHeartbeats 4000000
namespace Mine
theorem el0_2  {P0 : Prop} {P1 : Prop} {G : Prop} (h : P0 ∧ P1) (k : P0 → P1 → G) : G := k (h.1) (h.2)
theorem el0_3  {P0 : Prop} {P1 : Prop} {P2 : Prop} {G : Prop} (h : P0 ∧ P1 ∧ P2) (k : P0 → P1 → P2 → G) : G := k (h.1) (h.2.1) (h.2.2)
theorem el0_4  {P0 : Prop} {P1 : Prop} {P2 : Prop} {P3 : Prop} {G : Prop} (h : P0 ∧ P1 ∧ P2 ∧ P3) (k : P0 → P1 → P2 → P3 → G) : G := k (h.1) (h.2.1) (h.2.2.1) (h.2.2.2)
theorem el0_5  {P0 : Prop} {P1 : Prop} {P2 : Prop} {P3 : Prop} {P4 : Prop} {G : Prop} (h : P0 ∧ P1 ∧ P2 ∧ P3 ∧ P4) (k : P0 → P1 → P2 → P3 → P4 → G) : G := k (h.1) (h.2.1) (h.2.2.1) (h.2.2.2.1) (h.2.2.2.2)
theorem el0_8  {P0 : Prop} {P1 : Prop} {P2 : Prop} {P3 : Prop} {P4 : Prop} {P5 : Prop} {P6 : Prop} {P7 : Prop} {G : Prop} (h : P0 ∧ P1 ∧ P2 ∧ P3 ∧ P4 ∧ P5 ∧ P6 ∧ P7) (k : P0 → P1 → P2 → P3 → P4 → P5 → P6 → P7 → G) : G := k (h.1) (h.2.1) (h.2.2.1) (h.2.2.2.1) (h.2.2.2.2.1) (h.2.2.2.2.2.1) (h.2.2.2.2.2.2.1) (h.2.2.2.2.2.2.2)
theorem el0_15  {P0 : Prop} {P1 : Prop} {P2 : Prop} {P3 : Prop} {P4 : Prop} {P5 : Prop} {P6 : Prop} {P7 : Prop} {P8 : Prop} {P9 : Prop} {P10 : Prop} {P11 : Prop} {P12 : Prop} {P13 : Prop} {P14 : Prop} {G : Prop} (h : P0 ∧ P1 ∧ P2 ∧ P3 ∧ P4 ∧ P5 ∧ P6 ∧ P7 ∧ P8 ∧ P9 ∧ P10 ∧ P11 ∧ P12 ∧ P13 ∧ P14) (k : P0 → P1 → P2 → P3 → P4 → P5 → P6 → P7 → P8 → P9 → P10 → P11 → P12 → P13 → P14 → G) : G := k (h.1) (h.2.1) (h.2.2.1) (h.2.2.2.1) (h.2.2.2.2.1) (h.2.2.2.2.2.1) (h.2.2.2.2.2.2.1) (h.2.2.2.2.2.2.2.1) (h.2.2.2.2.2.2.2.2.1) (h.2.2.2.2.2.2.2.2.2.1) (h.2.2.2.2.2.2.2.2.2.2.1) (h.2.2.2.2.2.2.2.2.2.2.2.1) (h.2.2.2.2.2.2.2.2.2.2.2.2.1) (h.2.2.2.2.2.2.2.2.2.2.2.2.2.1) (h.2.2.2.2.2.2.2.2.2.2.2.2.2.2)
theorem el1_1 {A0 : Type} {P0 : A0 → Prop} {G : Prop} (h : ∃ (x0 : A0), P0 x0) (k : ∀ (x0 : A0), P0 x0 → G) : G := h.elim fun x0 h0 => k x0 h0
theorem el1_2 {A0 : Type} {P0 : A0 → Prop} {P1 : A0 → Prop} {G : Prop} (h : ∃ (x0 : A0), P0 x0 ∧ P1 x0) (k : ∀ (x0 : A0), P0 x0 → P1 x0 → G) : G := h.elim fun x0 h0 => k x0 h0.1 h0.2
theorem el1_3 {A0 : Type} {P0 : A0 → Prop} {P1 : A0 → Prop} {P2 : A0 → Prop} {G : Prop} (h : ∃ (x0 : A0), P0 x0 ∧ P1 x0 ∧ P2 x0) (k : ∀ (x0 : A0), P0 x0 → P1 x0 → P2 x0 → G) : G := h.elim fun x0 h0 => k x0 h0.1 h0.2.1 h0.2.2
theorem el1_4 {A0 : Type} {P0 : A0 → Prop} {P1 : A0 → Prop} {P2 : A0 → Prop} {P3 : A0 → Prop} {G : Prop} (h : ∃ (x0 : A0), P0 x0 ∧ P1 x0 ∧ P2 x0 ∧ P3 x0) (k : ∀ (x0 : A0), P0 x0 → P1 x0 → P2 x0 → P3 x0 → G) : G := h.elim fun x0 h0 => k x0 h0.1 h0.2.1 h0.2.2.1 h0.2.2.2
theorem el1_5 {A0 : Type} {P0 : A0 → Prop} {P1 : A0 → Prop} {P2 : A0 → Prop} {P3 : A0 → Prop} {P4 : A0 → Prop} {G : Prop} (h : ∃ (x0 : A0), P0 x0 ∧ P1 x0 ∧ P2 x0 ∧ P3 x0 ∧ P4 x0) (k : ∀ (x0 : A0), P0 x0 → P1 x0 → P2 x0 → P3 x0 → P4 x0 → G) : G := h.elim fun x0 h0 => k x0 h0.1 h0.2.1 h0.2.2.1 h0.2.2.2.1 h0.2.2.2.2
theorem el2_1 {A0 : Type} {A1 : Type} {P0 : A0 → A1 → Prop} {G : Prop} (h : ∃ (x0 : A0) (x1 : A1), P0 x0 x1) (k : ∀ (x0 : A0) (x1 : A1), P0 x0 x1 → G) : G := h.elim fun x0 h0 => h0.elim fun x1 h1 => k x0 x1 h1
theorem el2_2 {A0 : Type} {A1 : Type} {P0 : A0 → A1 → Prop} {P1 : A0 → A1 → Prop} {G : Prop} (h : ∃ (x0 : A0) (x1 : A1), P0 x0 x1 ∧ P1 x0 x1) (k : ∀ (x0 : A0) (x1 : A1), P0 x0 x1 → P1 x0 x1 → G) : G := h.elim fun x0 h0 => h0.elim fun x1 h1 => k x0 x1 h1.1 h1.2
theorem el2_3 {A0 : Type} {A1 : Type} {P0 : A0 → A1 → Prop} {P1 : A0 → A1 → Prop} {P2 : A0 → A1 → Prop} {G : Prop} (h : ∃ (x0 : A0) (x1 : A1), P0 x0 x1 ∧ P1 x0 x1 ∧ P2 x0 x1) (k : ∀ (x0 : A0) (x1 : A1), P0 x0 x1 → P1 x0 x1 → P2 x0 x1 → G) : G := h.elim fun x0 h0 => h0.elim fun x1 h1 => k x0 x1 h1.1 h1.2.1 h1.2.2
theorem el2_4 {A0 : Type} {A1 : Type} {P0 : A0 → A1 → Prop} {P1 : A0 → A1 → Prop} {P2 : A0 → A1 → Prop} {P3 : A0 → A1 → Prop} {G : Prop} (h : ∃ (x0 : A0) (x1 : A1), P0 x0 x1 ∧ P1 x0 x1 ∧ P2 x0 x1 ∧ P3 x0 x1) (k : ∀ (x0 : A0) (x1 : A1), P0 x0 x1 → P1 x0 x1 → P2 x0 x1 → P3 x0 x1 → G) : G := h.elim fun x0 h0 => h0.elim fun x1 h1 => k x0 x1 h1.1 h1.2.1 h1.2.2.1 h1.2.2.2
theorem el2_5 {A0 : Type} {A1 : Type} {P0 : A0 → A1 → Prop} {P1 : A0 → A1 → Prop} {P2 : A0 → A1 → Prop} {P3 : A0 → A1 → Prop} {P4 : A0 → A1 → Prop} {G : Prop} (h : ∃ (x0 : A0) (x1 : A1), P0 x0 x1 ∧ P1 x0 x1 ∧ P2 x0 x1 ∧ P3 x0 x1 ∧ P4 x0 x1) (k : ∀ (x0 : A0) (x1 : A1), P0 x0 x1 → P1 x0 x1 → P2 x0 x1 → P3 x0 x1 → P4 x0 x1 → G) : G := h.elim fun x0 h0 => h0.elim fun x1 h1 => k x0 x1 h1.1 h1.2.1 h1.2.2.1 h1.2.2.2.1 h1.2.2.2.2
theorem el2_6 {A0 : Type} {A1 : Type} {P0 : A0 → A1 → Prop} {P1 : A0 → A1 → Prop} {P2 : A0 → A1 → Prop} {P3 : A0 → A1 → Prop} {P4 : A0 → A1 → Prop} {P5 : A0 → A1 → Prop} {G : Prop} (h : ∃ (x0 : A0) (x1 : A1), P0 x0 x1 ∧ P1 x0 x1 ∧ P2 x0 x1 ∧ P3 x0 x1 ∧ P4 x0 x1 ∧ P5 x0 x1) (k : ∀ (x0 : A0) (x1 : A1), P0 x0 x1 → P1 x0 x1 → P2 x0 x1 → P3 x0 x1 → P4 x0 x1 → P5 x0 x1 → G) : G := h.elim fun x0 h0 => h0.elim fun x1 h1 => k x0 x1 h1.1 h1.2.1 h1.2.2.1 h1.2.2.2.1 h1.2.2.2.2.1 h1.2.2.2.2.2
theorem el3_1 {A0 : Type} {A1 : Type} {A2 : Type} {P0 : A0 → A1 → A2 → Prop} {G : Prop} (h : ∃ (x0 : A0) (x1 : A1) (x2 : A2), P0 x0 x1 x2) (k : ∀ (x0 : A0) (x1 : A1) (x2 : A2), P0 x0 x1 x2 → G) : G := h.elim fun x0 h0 => h0.elim fun x1 h1 => h1.elim fun x2 h2 => k x0 x1 x2 h2
theorem el3_2 {A0 : Type} {A1 : Type} {A2 : Type} {P0 : A0 → A1 → A2 → Prop} {P1 : A0 → A1 → A2 → Prop} {G : Prop} (h : ∃ (x0 : A0) (x1 : A1) (x2 : A2), P0 x0 x1 x2 ∧ P1 x0 x1 x2) (k : ∀ (x0 : A0) (x1 : A1) (x2 : A2), P0 x0 x1 x2 → P1 x0 x1 x2 → G) : G := h.elim fun x0 h0 => h0.elim fun x1 h1 => h1.elim fun x2 h2 => k x0 x1 x2 h2.1 h2.2
theorem el3_3 {A0 : Type} {A1 : Type} {A2 : Type} {P0 : A0 → A1 → A2 → Prop} {P1 : A0 → A1 → A2 → Prop} {P2 : A0 → A1 → A2 → Prop} {G : Prop} (h : ∃ (x0 : A0) (x1 : A1) (x2 : A2), P0 x0 x1 x2 ∧ P1 x0 x1 x2 ∧ P2 x0 x1 x2) (k : ∀ (x0 : A0) (x1 : A1) (x2 : A2), P0 x0 x1 x2 → P1 x0 x1 x2 → P2 x0 x1 x2 → G) : G := h.elim fun x0 h0 => h0.elim fun x1 h1 => h1.elim fun x2 h2 => k x0 x1 x2 h2.1 h2.2.1 h2.2.2
theorem el3_4 {A0 : Type} {A1 : Type} {A2 : Type} {P0 : A0 → A1 → A2 → Prop} {P1 : A0 → A1 → A2 → Prop} {P2 : A0 → A1 → A2 → Prop} {P3 : A0 → A1 → A2 → Prop} {G : Prop} (h : ∃ (x0 : A0) (x1 : A1) (x2 : A2), P0 x0 x1 x2 ∧ P1 x0 x1 x2 ∧ P2 x0 x1 x2 ∧ P3 x0 x1 x2) (k : ∀ (x0 : A0) (x1 : A1) (x2 : A2), P0 x0 x1 x2 → P1 x0 x1 x2 → P2 x0 x1 x2 → P3 x0 x1 x2 → G) : G := h.elim fun x0 h0 => h0.elim fun x1 h1 => h1.elim fun x2 h2 => k x0 x1 x2 h2.1 h2.2.1 h2.2.2.1 h2.2.2.2
theorem el3_5 {A0 : Type} {A1 : Type} {A2 : Type} {P0 : A0 → A1 → A2 → Prop} {P1 : A0 → A1 → A2 → Prop} {P2 : A0 → A1 → A2 → Prop} {P3 : A0 → A1 → A2 → Prop} {P4 : A0 → A1 → A2 → Prop} {G : Prop} (h : ∃ (x0 : A0) (x1 : A1) (x2 : A2), P0 x0 x1 x2 ∧ P1 x0 x1 x2 ∧ P2 x0 x1 x2 ∧ P3 x0 x1 x2 ∧ P4 x0 x1 x2) (k : ∀ (x0 : A0) (x1 : A1) (x2 : A2), P0 x0 x1 x2 → P1 x0 x1 x2 → P2 x0 x1 x2 → P3 x0 x1 x2 → P4 x0 x1 x2 → G) : G := h.elim fun x0 h0 => h0.elim fun x1 h1 => h1.elim fun x2 h2 => k x0 x1 x2 h2.1 h2.2.1 h2.2.2.1 h2.2.2.2.1 h2.2.2.2.2
theorem el3_6 {A0 : Type} {A1 : Type} {A2 : Type} {P0 : A0 → A1 → A2 → Prop} {P1 : A0 → A1 → A2 → Prop} {P2 : A0 → A1 → A2 → Prop} {P3 : A0 → A1 → A2 → Prop} {P4 : A0 → A1 → A2 → Prop} {P5 : A0 → A1 → A2 → Prop} {G : Prop} (h : ∃ (x0 : A0) (x1 : A1) (x2 : A2), P0 x0 x1 x2 ∧ P1 x0 x1 x2 ∧ P2 x0 x1 x2 ∧ P3 x0 x1 x2 ∧ P4 x0 x1 x2 ∧ P5 x0 x1 x2) (k : ∀ (x0 : A0) (x1 : A1) (x2 : A2), P0 x0 x1 x2 → P1 x0 x1 x2 → P2 x0 x1 x2 → P3 x0 x1 x2 → P4 x0 x1 x2 → P5 x0 x1 x2 → G) : G := h.elim fun x0 h0 => h0.elim fun x1 h1 => h1.elim fun x2 h2 => k x0 x1 x2 h2.1 h2.2.1 h2.2.2.1 h2.2.2.2.1 h2.2.2.2.2.1 h2.2.2.2.2.2
theorem el4_3 {A0 : Type} {A1 : Type} {A2 : Type} {A3 : Type} {P0 : A0 → A1 → A2 → A3 → Prop} {P1 : A0 → A1 → A2 → A3 → Prop} {P2 : A0 → A1 → A2 → A3 → Prop} {G : Prop} (h : ∃ (x0 : A0) (x1 : A1) (x2 : A2) (x3 : A3), P0 x0 x1 x2 x3 ∧ P1 x0 x1 x2 x3 ∧ P2 x0 x1 x2 x3) (k : ∀ (x0 : A0) (x1 : A1) (x2 : A2) (x3 : A3), P0 x0 x1 x2 x3 → P1 x0 x1 x2 x3 → P2 x0 x1 x2 x3 → G) : G := h.elim fun x0 h0 => h0.elim fun x1 h1 => h1.elim fun x2 h2 => h2.elim fun x3 h3 => k x0 x1 x2 x3 h3.1 h3.2.1 h3.2.2
theorem el4_5 {A0 : Type} {A1 : Type} {A2 : Type} {A3 : Type} {P0 : A0 → A1 → A2 → A3 → Prop} {P1 : A0 → A1 → A2 → A3 → Prop} {P2 : A0 → A1 → A2 → A3 → Prop} {P3 : A0 → A1 → A2 → A3 → Prop} {P4 : A0 → A1 → A2 → A3 → Prop} {G : Prop} (h : ∃ (x0 : A0) (x1 : A1) (x2 : A2) (x3 : A3), P0 x0 x1 x2 x3 ∧ P1 x0 x1 x2 x3 ∧ P2 x0 x1 x2 x3 ∧ P3 x0 x1 x2 x3 ∧ P4 x0 x1 x2 x3) (k : ∀ (x0 : A0) (x1 : A1) (x2 : A2) (x3 : A3), P0 x0 x1 x2 x3 → P1 x0 x1 x2 x3 → P2 x0 x1 x2 x3 → P3 x0 x1 x2 x3 → P4 x0 x1 x2 x3 → G) : G := h.elim fun x0 h0 => h0.elim fun x1 h1 => h1.elim fun x2 h2 => h2.elim fun x3 h3 => k x0 x1 x2 x3 h3.1 h3.2.1 h3.2.2.1 h3.2.2.2.1 h3.2.2.2.2
theorem el4_6 {A0 : Type} {A1 : Type} {A2 : Type} {A3 : Type} {P0 : A0 → A1 → A2 → A3 → Prop} {P1 : A0 → A1 → A2 → A3 → Prop} {P2 : A0 → A1 → A2 → A3 → Prop} {P3 : A0 → A1 → A2 → A3 → Prop} {P4 : A0 → A1 → A2 → A3 → Prop} {P5 : A0 → A1 → A2 → A3 → Prop} {G : Prop} (h : ∃ (x0 : A0) (x1 : A1) (x2 : A2) (x3 : A3), P0 x0 x1 x2 x3 ∧ P1 x0 x1 x2 x3 ∧ P2 x0 x1 x2 x3 ∧ P3 x0 x1 x2 x3 ∧ P4 x0 x1 x2 x3 ∧ P5 x0 x1 x2 x3) (k : ∀ (x0 : A0) (x1 : A1) (x2 : A2) (x3 : A3), P0 x0 x1 x2 x3 → P1 x0 x1 x2 x3 → P2 x0 x1 x2 x3 → P3 x0 x1 x2 x3 → P4 x0 x1 x2 x3 → P5 x0 x1 x2 x3 → G) : G := h.elim fun x0 h0 => h0.elim fun x1 h1 => h1.elim fun x2 h2 => h2.elim fun x3 h3 => k x0 x1 x2 x3 h3.1 h3.2.1 h3.2.2.1 h3.2.2.2.1 h3.2.2.2.2.1 h3.2.2.2.2.2
theorem el4_7 {A0 : Type} {A1 : Type} {A2 : Type} {A3 : Type} {P0 : A0 → A1 → A2 → A3 → Prop} {P1 : A0 → A1 → A2 → A3 → Prop} {P2 : A0 → A1 → A2 → A3 → Prop} {P3 : A0 → A1 → A2 → A3 → Prop} {P4 : A0 → A1 → A2 → A3 → Prop} {P5 : A0 → A1 → A2 → A3 → Prop} {P6 : A0 → A1 → A2 → A3 → Prop} {G : Prop} (h : ∃ (x0 : A0) (x1 : A1) (x2 : A2) (x3 : A3), P0 x0 x1 x2 x3 ∧ P1 x0 x1 x2 x3 ∧ P2 x0 x1 x2 x3 ∧ P3 x0 x1 x2 x3 ∧ P4 x0 x1 x2 x3 ∧ P5 x0 x1 x2 x3 ∧ P6 x0 x1 x2 x3) (k : ∀ (x0 : A0) (x1 : A1) (x2 : A2) (x3 : A3), P0 x0 x1 x2 x3 → P1 x0 x1 x2 x3 → P2 x0 x1 x2 x3 → P3 x0 x1 x2 x3 → P4 x0 x1 x2 x3 → P5 x0 x1 x2 x3 → P6 x0 x1 x2 x3 → G) : G := h.elim fun x0 h0 => h0.elim fun x1 h1 => h1.elim fun x2 h2 => h2.elim fun x3 h3 => k x0 x1 x2 x3 h3.1 h3.2.1 h3.2.2.1 h3.2.2.2.1 h3.2.2.2.2.1 h3.2.2.2.2.2.1 h3.2.2.2.2.2.2
theorem el5_3 {A0 : Type} {A1 : Type} {A2 : Type} {A3 : Type} {A4 : Type} {P0 : A0 → A1 → A2 → A3 → A4 → Prop} {P1 : A0 → A1 → A2 → A3 → A4 → Prop} {P2 : A0 → A1 → A2 → A3 → A4 → Prop} {G : Prop} (h : ∃ (x0 : A0) (x1 : A1) (x2 : A2) (x3 : A3) (x4 : A4), P0 x0 x1 x2 x3 x4 ∧ P1 x0 x1 x2 x3 x4 ∧ P2 x0 x1 x2 x3 x4) (k : ∀ (x0 : A0) (x1 : A1) (x2 : A2) (x3 : A3) (x4 : A4), P0 x0 x1 x2 x3 x4 → P1 x0 x1 x2 x3 x4 → P2 x0 x1 x2 x3 x4 → G) : G := h.elim fun x0 h0 => h0.elim fun x1 h1 => h1.elim fun x2 h2 => h2.elim fun x3 h3 => h3.elim fun x4 h4 => k x0 x1 x2 x3 x4 h4.1 h4.2.1 h4.2.2
theorem el5_4 {A0 : Type} {A1 : Type} {A2 : Type} {A3 : Type} {A4 : Type} {P0 : A0 → A1 → A2 → A3 → A4 → Prop} {P1 : A0 → A1 → A2 → A3 → A4 → Prop} {P2 : A0 → A1 → A2 → A3 → A4 → Prop} {P3 : A0 → A1 → A2 → A3 → A4 → Prop} {G : Prop} (h : ∃ (x0 : A0) (x1 : A1) (x2 : A2) (x3 : A3) (x4 : A4), P0 x0 x1 x2 x3 x4 ∧ P1 x0 x1 x2 x3 x4 ∧ P2 x0 x1 x2 x3 x4 ∧ P3 x0 x1 x2 x3 x4) (k : ∀ (x0 : A0) (x1 : A1) (x2 : A2) (x3 : A3) (x4 : A4), P0 x0 x1 x2 x3 x4 → P1 x0 x1 x2 x3 x4 → P2 x0 x1 x2 x3 x4 → P3 x0 x1 x2 x3 x4 → G) : G := h.elim fun x0 h0 => h0.elim fun x1 h1 => h1.elim fun x2 h2 => h2.elim fun x3 h3 => h3.elim fun x4 h4 => k x0 x1 x2 x3 x4 h4.1 h4.2.1 h4.2.2.1 h4.2.2.2
theorem el5_6 {A0 : Type} {A1 : Type} {A2 : Type} {A3 : Type} {A4 : Type} {P0 : A0 → A1 → A2 → A3 → A4 → Prop} {P1 : A0 → A1 → A2 → A3 → A4 → Prop} {P2 : A0 → A1 → A2 → A3 → A4 → Prop} {P3 : A0 → A1 → A2 → A3 → A4 → Prop} {P4 : A0 → A1 → A2 → A3 → A4 → Prop} {P5 : A0 → A1 → A2 → A3 → A4 → Prop} {G : Prop} (h : ∃ (x0 : A0) (x1 : A1) (x2 : A2) (x3 : A3) (x4 : A4), P0 x0 x1 x2 x3 x4 ∧ P1 x0 x1 x2 x3 x4 ∧ P2 x0 x1 x2 x3 x4 ∧ P3 x0 x1 x2 x3 x4 ∧ P4 x0 x1 x2 x3 x4 ∧ P5 x0 x1 x2 x3 x4) (k : ∀ (x0 : A0) (x1 : A1) (x2 : A2) (x3 : A3) (x4 : A4), P0 x0 x1 x2 x3 x4 → P1 x0 x1 x2 x3 x4 → P2 x0 x1 x2 x3 x4 → P3 x0 x1 x2 x3 x4 → P4 x0 x1 x2 x3 x4 → P5 x0 x1 x2 x3 x4 → G) : G := h.elim fun x0 h0 => h0.elim fun x1 h1 => h1.elim fun x2 h2 => h2.elim fun x3 h3 => h3.elim fun x4 h4 => k x0 x1 x2 x3 x4 h4.1 h4.2.1 h4.2.2.1 h4.2.2.2.1 h4.2.2.2.2.1 h4.2.2.2.2.2
theorem el5_7 {A0 : Type} {A1 : Type} {A2 : Type} {A3 : Type} {A4 : Type} {P0 : A0 → A1 → A2 → A3 → A4 → Prop} {P1 : A0 → A1 → A2 → A3 → A4 → Prop} {P2 : A0 → A1 → A2 → A3 → A4 → Prop} {P3 : A0 → A1 → A2 → A3 → A4 → Prop} {P4 : A0 → A1 → A2 → A3 → A4 → Prop} {P5 : A0 → A1 → A2 → A3 → A4 → Prop} {P6 : A0 → A1 → A2 → A3 → A4 → Prop} {G : Prop} (h : ∃ (x0 : A0) (x1 : A1) (x2 : A2) (x3 : A3) (x4 : A4), P0 x0 x1 x2 x3 x4 ∧ P1 x0 x1 x2 x3 x4 ∧ P2 x0 x1 x2 x3 x4 ∧ P3 x0 x1 x2 x3 x4 ∧ P4 x0 x1 x2 x3 x4 ∧ P5 x0 x1 x2 x3 x4 ∧ P6 x0 x1 x2 x3 x4) (k : ∀ (x0 : A0) (x1 : A1) (x2 : A2) (x3 : A3) (x4 : A4), P0 x0 x1 x2 x3 x4 → P1 x0 x1 x2 x3 x4 → P2 x0 x1 x2 x3 x4 → P3 x0 x1 x2 x3 x4 → P4 x0 x1 x2 x3 x4 → P5 x0 x1 x2 x3 x4 → P6 x0 x1 x2 x3 x4 → G) : G := h.elim fun x0 h0 => h0.elim fun x1 h1 => h1.elim fun x2 h2 => h2.elim fun x3 h3 => h3.elim fun x4 h4 => k x0 x1 x2 x3 x4 h4.1 h4.2.1 h4.2.2.1 h4.2.2.2.1 h4.2.2.2.2.1 h4.2.2.2.2.2.1 h4.2.2.2.2.2.2
theorem el6_4 {A0 : Type} {A1 : Type} {A2 : Type} {A3 : Type} {A4 : Type} {A5 : Type} {P0 : A0 → A1 → A2 → A3 → A4 → A5 → Prop} {P1 : A0 → A1 → A2 → A3 → A4 → A5 → Prop} {P2 : A0 → A1 → A2 → A3 → A4 → A5 → Prop} {P3 : A0 → A1 → A2 → A3 → A4 → A5 → Prop} {G : Prop} (h : ∃ (x0 : A0) (x1 : A1) (x2 : A2) (x3 : A3) (x4 : A4) (x5 : A5), P0 x0 x1 x2 x3 x4 x5 ∧ P1 x0 x1 x2 x3 x4 x5 ∧ P2 x0 x1 x2 x3 x4 x5 ∧ P3 x0 x1 x2 x3 x4 x5) (k : ∀ (x0 : A0) (x1 : A1) (x2 : A2) (x3 : A3) (x4 : A4) (x5 : A5), P0 x0 x1 x2 x3 x4 x5 → P1 x0 x1 x2 x3 x4 x5 → P2 x0 x1 x2 x3 x4 x5 → P3 x0 x1 x2 x3 x4 x5 → G) : G := h.elim fun x0 h0 => h0.elim fun x1 h1 => h1.elim fun x2 h2 => h2.elim fun x3 h3 => h3.elim fun x4 h4 => h4.elim fun x5 h5 => k x0 x1 x2 x3 x4 x5 h5.1 h5.2.1 h5.2.2.1 h5.2.2.2
theorem el7_3 {A0 : Type} {A1 : Type} {A2 : Type} {A3 : Type} {A4 : Type} {A5 : Type} {A6 : Type} {P0 : A0 → A1 → A2 → A3 → A4 → A5 → A6 → Prop} {P1 : A0 → A1 → A2 → A3 → A4 → A5 → A6 → Prop} {P2 : A0 → A1 → A2 → A3 → A4 → A5 → A6 → Prop} {G : Prop} (h : ∃ (x0 : A0) (x1 : A1) (x2 : A2) (x3 : A3) (x4 : A4) (x5 : A5) (x6 : A6), P0 x0 x1 x2 x3 x4 x5 x6 ∧ P1 x0 x1 x2 x3 x4 x5 x6 ∧ P2 x0 x1 x2 x3 x4 x5 x6) (k : ∀ (x0 : A0) (x1 : A1) (x2 : A2) (x3 : A3) (x4 : A4) (x5 : A5) (x6 : A6), P0 x0 x1 x2 x3 x4 x5 x6 → P1 x0 x1 x2 x3 x4 x5 x6 → P2 x0 x1 x2 x3 x4 x5 x6 → G) : G := h.elim fun x0 h0 => h0.elim fun x1 h1 => h1.elim fun x2 h2 => h2.elim fun x3 h3 => h3.elim fun x4 h4 => h4.elim fun x5 h5 => h5.elim fun x6 h6 => k x0 x1 x2 x3 x4 x5 x6 h6.1 h6.2.1 h6.2.2
theorem el7_7 {A0 : Type} {A1 : Type} {A2 : Type} {A3 : Type} {A4 : Type} {A5 : Type} {A6 : Type} {P0 : A0 → A1 → A2 → A3 → A4 → A5 → A6 → Prop} {P1 : A0 → A1 → A2 → A3 → A4 → A5 → A6 → Prop} {P2 : A0 → A1 → A2 → A3 → A4 → A5 → A6 → Prop} {P3 : A0 → A1 → A2 → A3 → A4 → A5 → A6 → Prop} {P4 : A0 → A1 → A2 → A3 → A4 → A5 → A6 → Prop} {P5 : A0 → A1 → A2 → A3 → A4 → A5 → A6 → Prop} {P6 : A0 → A1 → A2 → A3 → A4 → A5 → A6 → Prop} {G : Prop} (h : ∃ (x0 : A0) (x1 : A1) (x2 : A2) (x3 : A3) (x4 : A4) (x5 : A5) (x6 : A6), P0 x0 x1 x2 x3 x4 x5 x6 ∧ P1 x0 x1 x2 x3 x4 x5 x6 ∧ P2 x0 x1 x2 x3 x4 x5 x6 ∧ P3 x0 x1 x2 x3 x4 x5 x6 ∧ P4 x0 x1 x2 x3 x4 x5 x6 ∧ P5 x0 x1 x2 x3 x4 x5 x6 ∧ P6 x0 x1 x2 x3 x4 x5 x6) (k : ∀ (x0 : A0) (x1 : A1) (x2 : A2) (x3 : A3) (x4 : A4) (x5 : A5) (x6 : A6), P0 x0 x1 x2 x3 x4 x5 x6 → P1 x0 x1 x2 x3 x4 x5 x6 → P2 x0 x1 x2 x3 x4 x5 x6 → P3 x0 x1 x2 x3 x4 x5 x6 → P4 x0 x1 x2 x3 x4 x5 x6 → P5 x0 x1 x2 x3 x4 x5 x6 → P6 x0 x1 x2 x3 x4 x5 x6 → G) : G := h.elim fun x0 h0 => h0.elim fun x1 h1 => h1.elim fun x2 h2 => h2.elim fun x3 h3 => h3.elim fun x4 h4 => h4.elim fun x5 h5 => h5.elim fun x6 h6 => k x0 x1 x2 x3 x4 x5 x6 h6.1 h6.2.1 h6.2.2.1 h6.2.2.2.1 h6.2.2.2.2.1 h6.2.2.2.2.2.1 h6.2.2.2.2.2.2
theorem el8_3 {A0 : Type} {A1 : Type} {A2 : Type} {A3 : Type} {A4 : Type} {A5 : Type} {A6 : Type} {A7 : Type} {P0 : A0 → A1 → A2 → A3 → A4 → A5 → A6 → A7 → Prop} {P1 : A0 → A1 → A2 → A3 → A4 → A5 → A6 → A7 → Prop} {P2 : A0 → A1 → A2 → A3 → A4 → A5 → A6 → A7 → Prop} {G : Prop} (h : ∃ (x0 : A0) (x1 : A1) (x2 : A2) (x3 : A3) (x4 : A4) (x5 : A5) (x6 : A6) (x7 : A7), P0 x0 x1 x2 x3 x4 x5 x6 x7 ∧ P1 x0 x1 x2 x3 x4 x5 x6 x7 ∧ P2 x0 x1 x2 x3 x4 x5 x6 x7) (k : ∀ (x0 : A0) (x1 : A1) (x2 : A2) (x3 : A3) (x4 : A4) (x5 : A5) (x6 : A6) (x7 : A7), P0 x0 x1 x2 x3 x4 x5 x6 x7 → P1 x0 x1 x2 x3 x4 x5 x6 x7 → P2 x0 x1 x2 x3 x4 x5 x6 x7 → G) : G := h.elim fun x0 h0 => h0.elim fun x1 h1 => h1.elim fun x2 h2 => h2.elim fun x3 h3 => h3.elim fun x4 h4 => h4.elim fun x5 h5 => h5.elim fun x6 h6 => h6.elim fun x7 h7 => k x0 x1 x2 x3 x4 x5 x6 x7 h7.1 h7.2.1 h7.2.2
theorem el8_9 {A0 : Type} {A1 : Type} {A2 : Type} {A3 : Type} {A4 : Type} {A5 : Type} {A6 : Type} {A7 : Type} {P0 : A0 → A1 → A2 → A3 → A4 → A5 → A6 → A7 → Prop} {P1 : A0 → A1 → A2 → A3 → A4 → A5 → A6 → A7 → Prop} {P2 : A0 → A1 → A2 → A3 → A4 → A5 → A6 → A7 → Prop} {P3 : A0 → A1 → A2 → A3 → A4 → A5 → A6 → A7 → Prop} {P4 : A0 → A1 → A2 → A3 → A4 → A5 → A6 → A7 → Prop} {P5 : A0 → A1 → A2 → A3 → A4 → A5 → A6 → A7 → Prop} {P6 : A0 → A1 → A2 → A3 → A4 → A5 → A6 → A7 → Prop} {P7 : A0 → A1 → A2 → A3 → A4 → A5 → A6 → A7 → Prop} {P8 : A0 → A1 → A2 → A3 → A4 → A5 → A6 → A7 → Prop} {G : Prop} (h : ∃ (x0 : A0) (x1 : A1) (x2 : A2) (x3 : A3) (x4 : A4) (x5 : A5) (x6 : A6) (x7 : A7), P0 x0 x1 x2 x3 x4 x5 x6 x7 ∧ P1 x0 x1 x2 x3 x4 x5 x6 x7 ∧ P2 x0 x1 x2 x3 x4 x5 x6 x7 ∧ P3 x0 x1 x2 x3 x4 x5 x6 x7 ∧ P4 x0 x1 x2 x3 x4 x5 x6 x7 ∧ P5 x0 x1 x2 x3 x4 x5 x6 x7 ∧ P6 x0 x1 x2 x3 x4 x5 x6 x7 ∧ P7 x0 x1 x2 x3 x4 x5 x6 x7 ∧ P8 x0 x1 x2 x3 x4 x5 x6 x7) (k : ∀ (x0 : A0) (x1 : A1) (x2 : A2) (x3 : A3) (x4 : A4) (x5 : A5) (x6 : A6) (x7 : A7), P0 x0 x1 x2 x3 x4 x5 x6 x7 → P1 x0 x1 x2 x3 x4 x5 x6 x7 → P2 x0 x1 x2 x3 x4 x5 x6 x7 → P3 x0 x1 x2 x3 x4 x5 x6 x7 → P4 x0 x1 x2 x3 x4 x5 x6 x7 → P5 x0 x1 x2 x3 x4 x5 x6 x7 → P6 x0 x1 x2 x3 x4 x5 x6 x7 → P7 x0 x1 x2 x3 x4 x5 x6 x7 → P8 x0 x1 x2 x3 x4 x5 x6 x7 → G) : G := h.elim fun x0 h0 => h0.elim fun x1 h1 => h1.elim fun x2 h2 => h2.elim fun x3 h3 => h3.elim fun x4 h4 => h4.elim fun x5 h5 => h5.elim fun x6 h6 => h6.elim fun x7 h7 => k x0 x1 x2 x3 x4 x5 x6 x7 h7.1 h7.2.1 h7.2.2.1 h7.2.2.2.1 h7.2.2.2.2.1 h7.2.2.2.2.2.1 h7.2.2.2.2.2.2.1 h7.2.2.2.2.2.2.2.1 h7.2.2.2.2.2.2.2.2
theorem el8_10 {A0 : Type} {A1 : Type} {A2 : Type} {A3 : Type} {A4 : Type} {A5 : Type} {A6 : Type} {A7 : Type} {P0 : A0 → A1 → A2 → A3 → A4 → A5 → A6 → A7 → Prop} {P1 : A0 → A1 → A2 → A3 → A4 → A5 → A6 → A7 → Prop} {P2 : A0 → A1 → A2 → A3 → A4 → A5 → A6 → A7 → Prop} {P3 : A0 → A1 → A2 → A3 → A4 → A5 → A6 → A7 → Prop} {P4 : A0 → A1 → A2 → A3 → A4 → A5 → A6 → A7 → Prop} {P5 : A0 → A1 → A2 → A3 → A4 → A5 → A6 → A7 → Prop} {P6 : A0 → A1 → A2 → A3 → A4 → A5 → A6 → A7 → Prop} {P7 : A0 → A1 → A2 → A3 → A4 → A5 → A6 → A7 → Prop} {P8 : A0 → A1 → A2 → A3 → A4 → A5 → A6 → A7 → Prop} {P9 : A0 → A1 → A2 → A3 → A4 → A5 → A6 → A7 → Prop} {G : Prop} (h : ∃ (x0 : A0) (x1 : A1) (x2 : A2) (x3 : A3) (x4 : A4) (x5 : A5) (x6 : A6) (x7 : A7), P0 x0 x1 x2 x3 x4 x5 x6 x7 ∧ P1 x0 x1 x2 x3 x4 x5 x6 x7 ∧ P2 x0 x1 x2 x3 x4 x5 x6 x7 ∧ P3 x0 x1 x2 x3 x4 x5 x6 x7 ∧ P4 x0 x1 x2 x3 x4 x5 x6 x7 ∧ P5 x0 x1 x2 x3 x4 x5 x6 x7 ∧ P6 x0 x1 x2 x3 x4 x5 x6 x7 ∧ P7 x0 x1 x2 x3 x4 x5 x6 x7 ∧ P8 x0 x1 x2 x3 x4 x5 x6 x7 ∧ P9 x0 x1 x2 x3 x4 x5 x6 x7) (k : ∀ (x0 : A0) (x1 : A1) (x2 : A2) (x3 : A3) (x4 : A4) (x5 : A5) (x6 : A6) (x7 : A7), P0 x0 x1 x2 x3 x4 x5 x6 x7 → P1 x0 x1 x2 x3 x4 x5 x6 x7 → P2 x0 x1 x2 x3 x4 x5 x6 x7 → P3 x0 x1 x2 x3 x4 x5 x6 x7 → P4 x0 x1 x2 x3 x4 x5 x6 x7 → P5 x0 x1 x2 x3 x4 x5 x6 x7 → P6 x0 x1 x2 x3 x4 x5 x6 x7 → P7 x0 x1 x2 x3 x4 x5 x6 x7 → P8 x0 x1 x2 x3 x4 x5 x6 x7 → P9 x0 x1 x2 x3 x4 x5 x6 x7 → G) : G := h.elim fun x0 h0 => h0.elim fun x1 h1 => h1.elim fun x2 h2 => h2.elim fun x3 h3 => h3.elim fun x4 h4 => h4.elim fun x5 h5 => h5.elim fun x6 h6 => h6.elim fun x7 h7 => k x0 x1 x2 x3 x4 x5 x6 x7 h7.1 h7.2.1 h7.2.2.1 h7.2.2.2.1 h7.2.2.2.2.1 h7.2.2.2.2.2.1 h7.2.2.2.2.2.2.1 h7.2.2.2.2.2.2.2.1 h7.2.2.2.2.2.2.2.2.1 h7.2.2.2.2.2.2.2.2.2
theorem in0_3  {P0 : Prop} {P1 : Prop} {P2 : Prop} (p0 : P0) (p1 : P1) (p2 : P2) : P0 ∧ P1 ∧ P2 := ⟨p0, p1, p2⟩
theorem in0_4  {P0 : Prop} {P1 : Prop} {P2 : Prop} {P3 : Prop} (p0 : P0) (p1 : P1) (p2 : P2) (p3 : P3) : P0 ∧ P1 ∧ P2 ∧ P3 := ⟨p0, p1, p2, p3⟩
theorem in0_5  {P0 : Prop} {P1 : Prop} {P2 : Prop} {P3 : Prop} {P4 : Prop} (p0 : P0) (p1 : P1) (p2 : P2) (p3 : P3) (p4 : P4) : P0 ∧ P1 ∧ P2 ∧ P3 ∧ P4 := ⟨p0, p1, p2, p3, p4⟩
theorem in0_8  {P0 : Prop} {P1 : Prop} {P2 : Prop} {P3 : Prop} {P4 : Prop} {P5 : Prop} {P6 : Prop} {P7 : Prop} (p0 : P0) (p1 : P1) (p2 : P2) (p3 : P3) (p4 : P4) (p5 : P5) (p6 : P6) (p7 : P7) : P0 ∧ P1 ∧ P2 ∧ P3 ∧ P4 ∧ P5 ∧ P6 ∧ P7 := ⟨p0, p1, p2, p3, p4, p5, p6, p7⟩
theorem in1_2 {A0 : Type} {P0 : A0 → Prop} {P1 : A0 → Prop} (x0 : A0) (p0 : P0 x0) (p1 : P1 x0) : ∃ (x0 : A0), P0 x0 ∧ P1 x0 := ⟨x0, p0, p1⟩
theorem in1_3 {A0 : Type} {P0 : A0 → Prop} {P1 : A0 → Prop} {P2 : A0 → Prop} (x0 : A0) (p0 : P0 x0) (p1 : P1 x0) (p2 : P2 x0) : ∃ (x0 : A0), P0 x0 ∧ P1 x0 ∧ P2 x0 := ⟨x0, p0, p1, p2⟩
theorem in1_5 {A0 : Type} {P0 : A0 → Prop} {P1 : A0 → Prop} {P2 : A0 → Prop} {P3 : A0 → Prop} {P4 : A0 → Prop} (x0 : A0) (p0 : P0 x0) (p1 : P1 x0) (p2 : P2 x0) (p3 : P3 x0) (p4 : P4 x0) : ∃ (x0 : A0), P0 x0 ∧ P1 x0 ∧ P2 x0 ∧ P3 x0 ∧ P4 x0 := ⟨x0, p0, p1, p2, p3, p4⟩
theorem in2_1 {A0 : Type} {A1 : Type} {P0 : A0 → A1 → Prop} (x0 : A0) (x1 : A1) (p0 : P0 x0 x1) : ∃ (x0 : A0) (x1 : A1), P0 x0 x1 := ⟨x0, x1, p0⟩
theorem in2_2 {A0 : Type} {A1 : Type} {P0 : A0 → A1 → Prop} {P1 : A0 → A1 → Prop} (x0 : A0) (x1 : A1) (p0 : P0 x0 x1) (p1 : P1 x0 x1) : ∃ (x0 : A0) (x1 : A1), P0 x0 x1 ∧ P1 x0 x1 := ⟨x0, x1, p0, p1⟩
theorem in2_3 {A0 : Type} {A1 : Type} {P0 : A0 → A1 → Prop} {P1 : A0 → A1 → Prop} {P2 : A0 → A1 → Prop} (x0 : A0) (x1 : A1) (p0 : P0 x0 x1) (p1 : P1 x0 x1) (p2 : P2 x0 x1) : ∃ (x0 : A0) (x1 : A1), P0 x0 x1 ∧ P1 x0 x1 ∧ P2 x0 x1 := ⟨x0, x1, p0, p1, p2⟩
theorem in2_5 {A0 : Type} {A1 : Type} {P0 : A0 → A1 → Prop} {P1 : A0 → A1 → Prop} {P2 : A0 → A1 → Prop} {P3 : A0 → A1 → Prop} {P4 : A0 → A1 → Prop} (x0 : A0) (x1 : A1) (p0 : P0 x0 x1) (p1 : P1 x0 x1) (p2 : P2 x0 x1) (p3 : P3 x0 x1) (p4 : P4 x0 x1) : ∃ (x0 : A0) (x1 : A1), P0 x0 x1 ∧ P1 x0 x1 ∧ P2 x0 x1 ∧ P3 x0 x1 ∧ P4 x0 x1 := ⟨x0, x1, p0, p1, p2, p3, p4⟩
theorem in3_1 {A0 : Type} {A1 : Type} {A2 : Type} {P0 : A0 → A1 → A2 → Prop} (x0 : A0) (x1 : A1) (x2 : A2) (p0 : P0 x0 x1 x2) : ∃ (x0 : A0) (x1 : A1) (x2 : A2), P0 x0 x1 x2 := ⟨x0, x1, x2, p0⟩
theorem in3_2 {A0 : Type} {A1 : Type} {A2 : Type} {P0 : A0 → A1 → A2 → Prop} {P1 : A0 → A1 → A2 → Prop} (x0 : A0) (x1 : A1) (x2 : A2) (p0 : P0 x0 x1 x2) (p1 : P1 x0 x1 x2) : ∃ (x0 : A0) (x1 : A1) (x2 : A2), P0 x0 x1 x2 ∧ P1 x0 x1 x2 := ⟨x0, x1, x2, p0, p1⟩
theorem in3_3 {A0 : Type} {A1 : Type} {A2 : Type} {P0 : A0 → A1 → A2 → Prop} {P1 : A0 → A1 → A2 → Prop} {P2 : A0 → A1 → A2 → Prop} (x0 : A0) (x1 : A1) (x2 : A2) (p0 : P0 x0 x1 x2) (p1 : P1 x0 x1 x2) (p2 : P2 x0 x1 x2) : ∃ (x0 : A0) (x1 : A1) (x2 : A2), P0 x0 x1 x2 ∧ P1 x0 x1 x2 ∧ P2 x0 x1 x2 := ⟨x0, x1, x2, p0, p1, p2⟩
theorem in3_4 {A0 : Type} {A1 : Type} {A2 : Type} {P0 : A0 → A1 → A2 → Prop} {P1 : A0 → A1 → A2 → Prop} {P2 : A0 → A1 → A2 → Prop} {P3 : A0 → A1 → A2 → Prop} (x0 : A0) (x1 : A1) (x2 : A2) (p0 : P0 x0 x1 x2) (p1 : P1 x0 x1 x2) (p2 : P2 x0 x1 x2) (p3 : P3 x0 x1 x2) : ∃ (x0 : A0) (x1 : A1) (x2 : A2), P0 x0 x1 x2 ∧ P1 x0 x1 x2 ∧ P2 x0 x1 x2 ∧ P3 x0 x1 x2 := ⟨x0, x1, x2, p0, p1, p2, p3⟩
theorem in3_5 {A0 : Type} {A1 : Type} {A2 : Type} {P0 : A0 → A1 → A2 → Prop} {P1 : A0 → A1 → A2 → Prop} {P2 : A0 → A1 → A2 → Prop} {P3 : A0 → A1 → A2 → Prop} {P4 : A0 → A1 → A2 → Prop} (x0 : A0) (x1 : A1) (x2 : A2) (p0 : P0 x0 x1 x2) (p1 : P1 x0 x1 x2) (p2 : P2 x0 x1 x2) (p3 : P3 x0 x1 x2) (p4 : P4 x0 x1 x2) : ∃ (x0 : A0) (x1 : A1) (x2 : A2), P0 x0 x1 x2 ∧ P1 x0 x1 x2 ∧ P2 x0 x1 x2 ∧ P3 x0 x1 x2 ∧ P4 x0 x1 x2 := ⟨x0, x1, x2, p0, p1, p2, p3, p4⟩
theorem in3_6 {A0 : Type} {A1 : Type} {A2 : Type} {P0 : A0 → A1 → A2 → Prop} {P1 : A0 → A1 → A2 → Prop} {P2 : A0 → A1 → A2 → Prop} {P3 : A0 → A1 → A2 → Prop} {P4 : A0 → A1 → A2 → Prop} {P5 : A0 → A1 → A2 → Prop} (x0 : A0) (x1 : A1) (x2 : A2) (p0 : P0 x0 x1 x2) (p1 : P1 x0 x1 x2) (p2 : P2 x0 x1 x2) (p3 : P3 x0 x1 x2) (p4 : P4 x0 x1 x2) (p5 : P5 x0 x1 x2) : ∃ (x0 : A0) (x1 : A1) (x2 : A2), P0 x0 x1 x2 ∧ P1 x0 x1 x2 ∧ P2 x0 x1 x2 ∧ P3 x0 x1 x2 ∧ P4 x0 x1 x2 ∧ P5 x0 x1 x2 := ⟨x0, x1, x2, p0, p1, p2, p3, p4, p5⟩
theorem in4_2 {A0 : Type} {A1 : Type} {A2 : Type} {A3 : Type} {P0 : A0 → A1 → A2 → A3 → Prop} {P1 : A0 → A1 → A2 → A3 → Prop} (x0 : A0) (x1 : A1) (x2 : A2) (x3 : A3) (p0 : P0 x0 x1 x2 x3) (p1 : P1 x0 x1 x2 x3) : ∃ (x0 : A0) (x1 : A1) (x2 : A2) (x3 : A3), P0 x0 x1 x2 x3 ∧ P1 x0 x1 x2 x3 := ⟨x0, x1, x2, x3, p0, p1⟩
theorem in4_3 {A0 : Type} {A1 : Type} {A2 : Type} {A3 : Type} {P0 : A0 → A1 → A2 → A3 → Prop} {P1 : A0 → A1 → A2 → A3 → Prop} {P2 : A0 → A1 → A2 → A3 → Prop} (x0 : A0) (x1 : A1) (x2 : A2) (x3 : A3) (p0 : P0 x0 x1 x2 x3) (p1 : P1 x0 x1 x2 x3) (p2 : P2 x0 x1 x2 x3) : ∃ (x0 : A0) (x1 : A1) (x2 : A2) (x3 : A3), P0 x0 x1 x2 x3 ∧ P1 x0 x1 x2 x3 ∧ P2 x0 x1 x2 x3 := ⟨x0, x1, x2, x3, p0, p1, p2⟩
theorem in4_4 {A0 : Type} {A1 : Type} {A2 : Type} {A3 : Type} {P0 : A0 → A1 → A2 → A3 → Prop} {P1 : A0 → A1 → A2 → A3 → Prop} {P2 : A0 → A1 → A2 → A3 → Prop} {P3 : A0 → A1 → A2 → A3 → Prop} (x0 : A0) (x1 : A1) (x2 : A2) (x3 : A3) (p0 : P0 x0 x1 x2 x3) (p1 : P1 x0 x1 x2 x3) (p2 : P2 x0 x1 x2 x3) (p3 : P3 x0 x1 x2 x3) : ∃ (x0 : A0) (x1 : A1) (x2 : A2) (x3 : A3), P0 x0 x1 x2 x3 ∧ P1 x0 x1 x2 x3 ∧ P2 x0 x1 x2 x3 ∧ P3 x0 x1 x2 x3 := ⟨x0, x1, x2, x3, p0, p1, p2, p3⟩
theorem in4_5 {A0 : Type} {A1 : Type} {A2 : Type} {A3 : Type} {P0 : A0 → A1 → A2 → A3 → Prop} {P1 : A0 → A1 → A2 → A3 → Prop} {P2 : A0 → A1 → A2 → A3 → Prop} {P3 : A0 → A1 → A2 → A3 → Prop} {P4 : A0 → A1 → A2 → A3 → Prop} (x0 : A0) (x1 : A1) (x2 : A2) (x3 : A3) (p0 : P0 x0 x1 x2 x3) (p1 : P1 x0 x1 x2 x3) (p2 : P2 x0 x1 x2 x3) (p3 : P3 x0 x1 x2 x3) (p4 : P4 x0 x1 x2 x3) : ∃ (x0 : A0) (x1 : A1) (x2 : A2) (x3 : A3), P0 x0 x1 x2 x3 ∧ P1 x0 x1 x2 x3 ∧ P2 x0 x1 x2 x3 ∧ P3 x0 x1 x2 x3 ∧ P4 x0 x1 x2 x3 := ⟨x0, x1, x2, x3, p0, p1, p2, p3, p4⟩
theorem in4_6 {A0 : Type} {A1 : Type} {A2 : Type} {A3 : Type} {P0 : A0 → A1 → A2 → A3 → Prop} {P1 : A0 → A1 → A2 → A3 → Prop} {P2 : A0 → A1 → A2 → A3 → Prop} {P3 : A0 → A1 → A2 → A3 → Prop} {P4 : A0 → A1 → A2 → A3 → Prop} {P5 : A0 → A1 → A2 → A3 → Prop} (x0 : A0) (x1 : A1) (x2 : A2) (x3 : A3) (p0 : P0 x0 x1 x2 x3) (p1 : P1 x0 x1 x2 x3) (p2 : P2 x0 x1 x2 x3) (p3 : P3 x0 x1 x2 x3) (p4 : P4 x0 x1 x2 x3) (p5 : P5 x0 x1 x2 x3) : ∃ (x0 : A0) (x1 : A1) (x2 : A2) (x3 : A3), P0 x0 x1 x2 x3 ∧ P1 x0 x1 x2 x3 ∧ P2 x0 x1 x2 x3 ∧ P3 x0 x1 x2 x3 ∧ P4 x0 x1 x2 x3 ∧ P5 x0 x1 x2 x3 := ⟨x0, x1, x2, x3, p0, p1, p2, p3, p4, p5⟩
theorem in5_4 {A0 : Type} {A1 : Type} {A2 : Type} {A3 : Type} {A4 : Type} {P0 : A0 → A1 → A2 → A3 → A4 → Prop} {P1 : A0 → A1 → A2 → A3 → A4 → Prop} {P2 : A0 → A1 → A2 → A3 → A4 → Prop} {P3 : A0 → A1 → A2 → A3 → A4 → Prop} (x0 : A0) (x1 : A1) (x2 : A2) (x3 : A3) (x4 : A4) (p0 : P0 x0 x1 x2 x3 x4) (p1 : P1 x0 x1 x2 x3 x4) (p2 : P2 x0 x1 x2 x3 x4) (p3 : P3 x0 x1 x2 x3 x4) : ∃ (x0 : A0) (x1 : A1) (x2 : A2) (x3 : A3) (x4 : A4), P0 x0 x1 x2 x3 x4 ∧ P1 x0 x1 x2 x3 x4 ∧ P2 x0 x1 x2 x3 x4 ∧ P3 x0 x1 x2 x3 x4 := ⟨x0, x1, x2, x3, x4, p0, p1, p2, p3⟩
theorem in5_6 {A0 : Type} {A1 : Type} {A2 : Type} {A3 : Type} {A4 : Type} {P0 : A0 → A1 → A2 → A3 → A4 → Prop} {P1 : A0 → A1 → A2 → A3 → A4 → Prop} {P2 : A0 → A1 → A2 → A3 → A4 → Prop} {P3 : A0 → A1 → A2 → A3 → A4 → Prop} {P4 : A0 → A1 → A2 → A3 → A4 → Prop} {P5 : A0 → A1 → A2 → A3 → A4 → Prop} (x0 : A0) (x1 : A1) (x2 : A2) (x3 : A3) (x4 : A4) (p0 : P0 x0 x1 x2 x3 x4) (p1 : P1 x0 x1 x2 x3 x4) (p2 : P2 x0 x1 x2 x3 x4) (p3 : P3 x0 x1 x2 x3 x4) (p4 : P4 x0 x1 x2 x3 x4) (p5 : P5 x0 x1 x2 x3 x4) : ∃ (x0 : A0) (x1 : A1) (x2 : A2) (x3 : A3) (x4 : A4), P0 x0 x1 x2 x3 x4 ∧ P1 x0 x1 x2 x3 x4 ∧ P2 x0 x1 x2 x3 x4 ∧ P3 x0 x1 x2 x3 x4 ∧ P4 x0 x1 x2 x3 x4 ∧ P5 x0 x1 x2 x3 x4 := ⟨x0, x1, x2, x3, x4, p0, p1, p2, p3, p4, p5⟩
theorem in6_4 {A0 : Type} {A1 : Type} {A2 : Type} {A3 : Type} {A4 : Type} {A5 : Type} {P0 : A0 → A1 → A2 → A3 → A4 → A5 → Prop} {P1 : A0 → A1 → A2 → A3 → A4 → A5 → Prop} {P2 : A0 → A1 → A2 → A3 → A4 → A5 → Prop} {P3 : A0 → A1 → A2 → A3 → A4 → A5 → Prop} (x0 : A0) (x1 : A1) (x2 : A2) (x3 : A3) (x4 : A4) (x5 : A5) (p0 : P0 x0 x1 x2 x3 x4 x5) (p1 : P1 x0 x1 x2 x3 x4 x5) (p2 : P2 x0 x1 x2 x3 x4 x5) (p3 : P3 x0 x1 x2 x3 x4 x5) : ∃ (x0 : A0) (x1 : A1) (x2 : A2) (x3 : A3) (x4 : A4) (x5 : A5), P0 x0 x1 x2 x3 x4 x5 ∧ P1 x0 x1 x2 x3 x4 x5 ∧ P2 x0 x1 x2 x3 x4 x5 ∧ P3 x0 x1 x2 x3 x4 x5 := ⟨x0, x1, x2, x3, x4, x5, p0, p1, p2, p3⟩
theorem in7_7 {A0 : Type} {A1 : Type} {A2 : Type} {A3 : Type} {A4 : Type} {A5 : Type} {A6 : Type} {P0 : A0 → A1 → A2 → A3 → A4 → A5 → A6 → Prop} {P1 : A0 → A1 → A2 → A3 → A4 → A5 → A6 → Prop} {P2 : A0 → A1 → A2 → A3 → A4 → A5 → A6 → Prop} {P3 : A0 → A1 → A2 → A3 → A4 → A5 → A6 → Prop} {P4 : A0 → A1 → A2 → A3 → A4 → A5 → A6 → Prop} {P5 : A0 → A1 → A2 → A3 → A4 → A5 → A6 → Prop} {P6 : A0 → A1 → A2 → A3 → A4 → A5 → A6 → Prop} (x0 : A0) (x1 : A1) (x2 : A2) (x3 : A3) (x4 : A4) (x5 : A5) (x6 : A6) (p0 : P0 x0 x1 x2 x3 x4 x5 x6) (p1 : P1 x0 x1 x2 x3 x4 x5 x6) (p2 : P2 x0 x1 x2 x3 x4 x5 x6) (p3 : P3 x0 x1 x2 x3 x4 x5 x6) (p4 : P4 x0 x1 x2 x3 x4 x5 x6) (p5 : P5 x0 x1 x2 x3 x4 x5 x6) (p6 : P6 x0 x1 x2 x3 x4 x5 x6) : ∃ (x0 : A0) (x1 : A1) (x2 : A2) (x3 : A3) (x4 : A4) (x5 : A5) (x6 : A6), P0 x0 x1 x2 x3 x4 x5 x6 ∧ P1 x0 x1 x2 x3 x4 x5 x6 ∧ P2 x0 x1 x2 x3 x4 x5 x6 ∧ P3 x0 x1 x2 x3 x4 x5 x6 ∧ P4 x0 x1 x2 x3 x4 x5 x6 ∧ P5 x0 x1 x2 x3 x4 x5 x6 ∧ P6 x0 x1 x2 x3 x4 x5 x6 := ⟨x0, x1, x2, x3, x4, x5, x6, p0, p1, p2, p3, p4, p5, p6⟩
theorem in8_9 {A0 : Type} {A1 : Type} {A2 : Type} {A3 : Type} {A4 : Type} {A5 : Type} {A6 : Type} {A7 : Type} {P0 : A0 → A1 → A2 → A3 → A4 → A5 → A6 → A7 → Prop} {P1 : A0 → A1 → A2 → A3 → A4 → A5 → A6 → A7 → Prop} {P2 : A0 → A1 → A2 → A3 → A4 → A5 → A6 → A7 → Prop} {P3 : A0 → A1 → A2 → A3 → A4 → A5 → A6 → A7 → Prop} {P4 : A0 → A1 → A2 → A3 → A4 → A5 → A6 → A7 → Prop} {P5 : A0 → A1 → A2 → A3 → A4 → A5 → A6 → A7 → Prop} {P6 : A0 → A1 → A2 → A3 → A4 → A5 → A6 → A7 → Prop} {P7 : A0 → A1 → A2 → A3 → A4 → A5 → A6 → A7 → Prop} {P8 : A0 → A1 → A2 → A3 → A4 → A5 → A6 → A7 → Prop} (x0 : A0) (x1 : A1) (x2 : A2) (x3 : A3) (x4 : A4) (x5 : A5) (x6 : A6) (x7 : A7) (p0 : P0 x0 x1 x2 x3 x4 x5 x6 x7) (p1 : P1 x0 x1 x2 x3 x4 x5 x6 x7) (p2 : P2 x0 x1 x2 x3 x4 x5 x6 x7) (p3 : P3 x0 x1 x2 x3 x4 x5 x6 x7) (p4 : P4 x0 x1 x2 x3 x4 x5 x6 x7) (p5 : P5 x0 x1 x2 x3 x4 x5 x6 x7) (p6 : P6 x0 x1 x2 x3 x4 x5 x6 x7) (p7 : P7 x0 x1 x2 x3 x4 x5 x6 x7) (p8 : P8 x0 x1 x2 x3 x4 x5 x6 x7) : ∃ (x0 : A0) (x1 : A1) (x2 : A2) (x3 : A3) (x4 : A4) (x5 : A5) (x6 : A6) (x7 : A7), P0 x0 x1 x2 x3 x4 x5 x6 x7 ∧ P1 x0 x1 x2 x3 x4 x5 x6 x7 ∧ P2 x0 x1 x2 x3 x4 x5 x6 x7 ∧ P3 x0 x1 x2 x3 x4 x5 x6 x7 ∧ P4 x0 x1 x2 x3 x4 x5 x6 x7 ∧ P5 x0 x1 x2 x3 x4 x5 x6 x7 ∧ P6 x0 x1 x2 x3 x4 x5 x6 x7 ∧ P7 x0 x1 x2 x3 x4 x5 x6 x7 ∧ P8 x0 x1 x2 x3 x4 x5 x6 x7 := ⟨x0, x1, x2, x3, x4, x5, x6, x7, p0, p1, p2, p3, p4, p5, p6, p7, p8⟩
theorem nsE {A : Type} {a : A} {G : Prop} (h : none = some a) : G := nomatch h
theorem snE {A : Type} {a : A} {G : Prop} (h : some a = none) : G := nomatch h
theorem ftE {G : Prop} (h : false = true) : G := nomatch h
theorem tfE {G : Prop} (h : true = false) : G := nomatch h
theorem prE {A B : Type} {a a' : A} {b b' : B} (h : (a, b) = (a', b')) : a = a' ∧ b = b' := ⟨congrArg Prod.fst h, congrArg Prod.snd h⟩
theorem sprE {A B : Type} {a a' : A} {b b' : B} (h : some (a, b) = some (a', b')) : a = a' ∧ b = b' := prE (Option.some.inj h)

noncomputable abbrev prog : Program := PySem.Challenge.pw_pc0239_01

theorem hide {G : Prop} (h : ∀ P : Prop, (G → P) → P) : G := h G id
/-! ## abstract values and objects -/
inductive AV where
  | none
  | bool (b : Bool)
  | int (i : Int)
  | str (s : Str)
  | ref (a : Addr)
  | lit (v : Value)

noncomputable def absV : Value → AV
  | .none => .none
  | .bool b => .bool b
  | .int i _ => .int i
  | .str s _ => .str s
  | .ref a => .ref a
  | v => .lit v

theorem absV_none {v : Value} (h : absV v = .none) : v = .none := by cases v <;> simp [absV] at h; rfl
theorem absV_bool {v : Value} {b : Bool} (h : absV v = .bool b) : v = .bool b := by cases v <;> simp [absV] at h; rw [h]
theorem absV_int {v : Value} {i : Int} (h : absV v = .int i) : ∃ t, v = .int i t := by cases v <;> simp [absV] at h; exact ⟨_, by rw [h]⟩
theorem absV_str {v : Value} {x : Str} (h : absV v = .str x) : ∃ t, v = .str x t := by cases v <;> simp [absV] at h; exact ⟨_, by rw [h]⟩
theorem absV_ref {v : Value} {a : Addr} (h : absV v = .ref a) : v = .ref a := by cases v <;> simp [absV] at h; rw [h]
theorem absV_lit {v x : Value} (h : absV v = .lit x) : v = x := by cases v <;> simp [absV] at h <;> exact h

inductive AO where
  | list (xs : List AV)
  | arr (xs : List AV)
  | tup (xs : List AV)
  | dict (kvs : List (Str × AV))
  | attrs (kvs : List (Str × AV))
  | inst (C d : Addr)
  | rng (n : Int)

theorem refE {a b : Addr} (h : AV.ref a = AV.ref b) : a = b := by cases h; rfl
theorem srE {a b : Addr} (h : some (AV.ref a) = some (AV.ref b)) : a = b := by cases h; rfl
theorem stE {a b : List AV} (h : some (AO.tup a) = some (AO.tup b)) : a = b := by cases h; rfl
theorem slE {a b : List AV} (h : some (AO.list a) = some (AO.list b)) : a = b := by cases h; rfl
theorem sdE {a b : List (Str × AV)} (h : some (AO.dict a) = some (AO.dict b)) : a = b := by cases h; rfl
theorem siE {a b : Int} (h : some (AV.int a) = some (AV.int b)) : a = b := by cases h; rfl
noncomputable abbrev AH := Addr → Option AO
noncomputable abbrev Loc := Str → Option AV
noncomputable abbrev PH := Addr → Option Obj


noncomputable def kvGet : List (Str × AV) → Str → Option AV
  | [], _ => none
  | (x, v) :: r, k => if x = k then some v else kvGet r k
noncomputable def kvPut : List (Str × AV) → Str → AV → List (Str × AV)
  | [], k, v => [(k, v)]
  | (x, u) :: r, k, v => if x = k then (x, v) :: r else (x, u) :: kvPut r k v

noncomputable abbrev sk (w : World) : KeyKind prog w Str := strKind prog w

noncomputable def Holds (w : World) (h : Heap) (a : Addr) : AO → Prop
  | .list xs => ∃ vs : List Value, h.PlainList a vs.toArray ∧ vs.map absV = xs
  | .arr xs => ∃ vs : List Value, h.IsList a vs.toArray ∧ vs.map absV = xs
  | .tup xs => ∃ vs : List Value, IsTup h a vs.toArray ∧ vs.map absV = xs
  | .dict kvs => ∃ kvs', h.DictOf (sk w) a kvs' ∧ kvs'.map (fun p => (p.1, absV p.2)) = kvs
  | .attrs kvs => ∃ (o : Obj) (es : Array DictEntry) (ep : Nat) (m : Str → Option Value), h.get? a = some o ∧ o.data = .dict es ep ∧ StrKeys es ∧ (∀ x, nsFind es x = m x) ∧ (∀ x, (m x).map absV = kvGet kvs x) ∧ es.size ≤ kvs.length
  | .inst C d => h.get? a = some (instObj C d)
  | .rng n => ∃ t u v, IsRange h a 0 n 1 t u v

theorem Holds.mono {w : World} {h h' : Heap} {a : Addr} {o : AO} (x : Holds w h a o) (e : ∀ ob, h.get? a = some ob → h'.get? a = some ob) : Holds w h' a o := by
  cases o with
  | list xs => obtain ⟨vs, ⟨n, g⟩, r⟩ := x; exact ⟨vs, ⟨n, e _ g⟩, r⟩
  | arr xs => obtain ⟨vs, ⟨ob, g, q⟩, r⟩ := x; exact ⟨vs, ⟨ob, e _ g, q⟩, r⟩
  | tup xs => obtain ⟨vs, ⟨ob, g, q⟩, r⟩ := x; exact ⟨vs, ⟨ob, e _ g, q⟩, r⟩
  | dict kvs => obtain ⟨k, ⟨o, es, ep, g, r⟩, q⟩ := x; exact ⟨k, ⟨o, es, ep, e _ g, r⟩, q⟩
  | attrs kvs => obtain ⟨o, es, ep, m, g, r⟩ := x; exact ⟨o, es, ep, m, e _ g, r⟩
  | inst C d => exact e _ x
  | rng n => obtain ⟨t, u, v, g⟩ := x; exact ⟨t, u, v, e _ g⟩
theorem Holds.some {w : World} {h : Heap} {a : Addr} {o : AO} (x : Holds w h a o) : ∃ ob, h.get? a = some ob := by
  cases o with
  | list xs => obtain ⟨vs, ⟨n, g⟩, r⟩ := x; exact ⟨_, g⟩
  | arr xs => obtain ⟨vs, ⟨ob, g, q⟩, r⟩ := x; exact ⟨_, g⟩
  | tup xs => obtain ⟨vs, ⟨ob, g, q⟩, r⟩ := x; exact ⟨_, g⟩
  | dict kvs => obtain ⟨k, ⟨o, es, ep, g, r⟩, q⟩ := x; exact ⟨_, g⟩
  | attrs kvs => obtain ⟨o, es, ep, m, g, r⟩ := x; exact ⟨_, g⟩
  | inst C d => exact ⟨_, x⟩
  | rng n => obtain ⟨t, u, v, g⟩ := x; exact ⟨_, g⟩
theorem Holds.lt {w : World} {h : Heap} {a : Addr} {o : AO} (x : Holds w h a o) : a < h.objs.size := let ⟨_, g⟩ := x.some; Heap.lt_size g

noncomputable def AH.put (H : AH) (a : Addr) (o : AO) : AH := fun b => if b = a then some o else H b
theorem put_same {H : AH} {a : Addr} {o : AO} : AH.put H a o a = some o := if_pos rfl
theorem put_ne {H : AH} {a b : Addr} {o : AO} (h : b ≠ a) : AH.put H a o b = H b := if_neg h

/-! ## the room and the globals -/
noncomputable def Room (A : Around) (d : Nat) : Prop := A.handled = none ∧ A.depth + d < recursionLimit ∧ A.units + 20 * d < cLine

theorem Room.mono {A : Around} {d e : Nat} (h : Room A d) (l : e ≤ d) : Room A e := ⟨h.1, by have := h.2.1; (first | (simp +arith only; done) | lia | omega), by have := h.2.2; (first | (simp +arith only; done) | lia | omega)⟩
theorem Room.in1 {A : Around} {d : Nat} (h : Room A (d + 1)) : Room A.in1 d := ⟨h.1, by have := h.2.1; show A.depth + d < _; (first | (simp +arith only; done) | lia | omega), by have := h.2.2; show A.units + 1 + 20 * d < _; (first | (simp +arith only; done) | lia | omega)⟩
theorem Room.deeper {A : Around} {d : Nat} (h : Room A (d + 1)) (env : Env) : Room (A.deeper env) d := ⟨h.1, by have := h.2.1; show A.depth + 1 + d < _; (first | (simp +arith only; done) | lia | omega), by have := h.2.2; show A.units + 3 + 20 * d < _; (first | (simp +arith only; done) | lia | omega)⟩
theorem Room.depth {A : Around} {d : Nat} (h : Room A d) : A.depth < recursionLimit := by have := h.2.1; (first | (simp +arith only; done) | lia | omega)
theorem Room.units {A : Around} {d : Nat} (h : Room A d) : A.units < cLine := by have := h.2.2; (first | (simp +arith only; done) | lia | omega)
theorem Room.mark {A : Around} {d : Nat} (h : Room A d) : Room (A.mark none) d := ⟨by show (none : Option Value).or A.handled = none; rw [h.1]; rfl, h.2.1, h.2.2⟩

noncomputable def srcSt (i : Nat) : Stmt := (prog.main.body[i]?).getD (.Pass default)
noncomputable def fnName (i : Nat) : Str := match srcSt i with | .FunctionDef n .. => n | _ => ""
noncomputable def fnParams (i : Nat) : Arguments := match srcSt i with | .FunctionDef _ a .. => a | _ => { posonlyargs := [], args := [], vararg := none, kwonlyargs := [], kw_defaults := [], kwarg := none, defaults := [] }
noncomputable def fnBody (i : Nat) : List Stmt := match srcSt i with | .FunctionDef _ _ b .. => b | _ => []
noncomputable def fnScope (i : Nat) : Scope := match srcSt i with | .FunctionDef _ _ _ _ _ _ sc .. => sc | _ => default



structure Ads where
  fn : Nat → Addr
  cls : Addr
  init : Addr
  keys : Addr
  forced : Addr
  ends : Addr
  res : Addr
  scr : Addr
  ns : List Int

noncomputable def fnList : List Nat := [6, 8, 9, 14, 15, 16, 17, 18, 19, 21, 22, 23, 29, 30, 31, 39, 40, 41, 43, 45, 46, 47, 48, 49, 50, 51, 52]

noncomputable def isLit (x : Str) (s : String) : Bool := x == Str.ofString s

noncomputable def builtinNames : List (Str × Value) := [("len", .builtin "len"), ("isinstance", .builtin "isinstance"), ("abs", .builtin "abs"), ("divmod", .builtin "divmod"), ("sorted", .builtin "sorted"),
  ("tuple", .type "tuple"), ("list", .type "list"), ("str", .type "str"), ("int", .type "int"), ("dict", .type "dict"), ("range", .type "range"), ("zip", .type "zip")]

noncomputable def nameSigns : Str := "abcdefghijklmnopqrstuvwxyzABCDEFGHIJKLMNOPQRSTUVWXYZ_"

/-- what a global name gives -/
noncomputable def gval (ad : Ads) (x : Str) : Option AV :=
  match fnList.find? (fun i => fnName i == x) with
  | some i => some (.ref (ad.fn i))
  | none =>
    match ([("SubScope", AV.ref ad.cls), ("_law_keys", AV.ref ad.keys), ("FORCED", AV.ref ad.forced), ("WORD_ENDS", AV.ref ad.ends), ("RESOLVERS", AV.ref ad.res), ("NAME_SIGNS", AV.str nameSigns)] : List (Str × AV)).lookup x with
    | some v => some v
    | none => (builtinNames.lookup x).map AV.lit

noncomputable def NsB (B : PH) (a : Addr) (m : Str → Option Value) : Prop := ∃ o es ep, B a = some o ∧ o.data = .dict es ep ∧ StrKeys es ∧ ∀ name, nsFind es name = m name
theorem NsB.ns {B : PH} {a : Addr} {m : Str → Option Value} {h : Heap} (x : NsB B a m) (k : ∀ b o, B b = some o → h.get? b = some o) : h.Ns a m :=
  el3_2 x fun o es ep g r => ⟨o, es, ep, k _ _ g, r⟩
theorem NsB.mono {B B' : PH} {a : Addr} {m : Str → Option Value} (x : NsB B a m) (k : ∀ b o, B b = some o → B' b = some o) : NsB B' a m :=
  el3_2 x fun o es ep g r => ⟨o, es, ep, k _ _ g, r⟩

noncomputable def CodeB (B : PH) (cd : Value) (q : Str) : Prop := ∃ c o vs t, cd = .ref c ∧ B c = some o ∧ o.data = .fields vs ∧ vs[1]? = some (.str q t)
theorem CodeB.rec {B : PH} {cd : Value} {q : Str} {h : Heap} (x : CodeB B cd q) (k : ∀ b o, B b = some o → h.get? b = some o) : h.CodeRec cd q :=
  el4_3 x fun c o vs t e g r => ⟨c, o, vs, t, e, k _ _ g, r⟩

/-- a def of the text's stands at a -/
structure FnAt (B : PH) (name : Str) (params : Arguments) (body : List Stmt) (scope : Scope) (a : Addr) : Prop where
  out : ∃ o pm c doc, B a = some o ∧ o.data = .func (Calls.docDef name params body scope pm (.ref c) doc) ∧ CodeB B (.ref c) name

noncomputable def KIn (K : Frag) (B : PH) : Prop := ∀ a o, K.lookup a = some o → B a = some o

noncomputable def attrNames : List Str := ["outer", "package", "blocks", "waiting", "size", "captures", "line"]

/-- what is known of the class SubScope in a written part of the heap -/
structure ClsFacts (ad : Ads) (K : Frag) : Prop where
  get : plainGet K ad.cls "blocks" = true
  dict : hasDictIn K ad.cls = true
  noattr : ∀ x ∈ attrNames, findIn K (.ref ad.cls) x = some Option.none
  sets : findIn K (.ref ad.cls) "__setattr__" = some (some (.builtin "object.__setattr__"))
  over : plainOver K ad.cls = true
  take : ∀ x ∈ attrNames, takerIn K ad.cls x = some Option.none
  makes : makesIn K ad.cls = true
  init : findIn K (.ref ad.cls) "__init__" = some (some (.ref ad.init))
  initT : typeIn K (.ref ad.init) = some (.type "function")
  keep : keepIn K (.ref ad.cls) = true

noncomputable def initSrc : Stmt := match srcSt 13 with | .ClassDef _ _ _ (s :: _) .. => s | _ => .Pass default
noncomputable def stName : Stmt → Str | .FunctionDef n .. => n | _ => ""
noncomputable def stParams : Stmt → Arguments | .FunctionDef _ a .. => a | _ => { posonlyargs := [], args := [], vararg := none, kwonlyargs := [], kw_defaults := [], kwarg := none, defaults := [] }
noncomputable def stBody : Stmt → List Stmt | .FunctionDef _ _ b .. => b | _ => []
noncomputable def stScope : Stmt → Scope | .FunctionDef _ _ _ _ _ _ sc .. => sc | _ => default

/-! the globals' objects -/
noncomputable def forcedL : List Str := ["ENV", "INC", "ARGV", "ARGVOUT", "SIG", "STDIN", "STDOUT", "STDERR", "_"]
noncomputable def endsL : List (Str × AV) := [("$", .str "s"), ("@", .str "a"), ("%", .str "h"), ("&", .str "c"), ("*", .str "g")]
noncomputable def keysL : List Str := ["$x", "@x", "$y", "%y", "$z"]
noncomputable def resL (ad : Ads) : List (Str × AV) := [("name", .ref (ad.fn 21)), ("my", .ref (ad.fn 23)), ("subdef", .ref (ad.fn 29)), ("block", .ref (ad.fn 30)), ("expr", .ref (ad.fn 31))]
/-- an object that stands in what is kept -/
noncomputable def InB (w : World) (B : PH) (a : Addr) (ao : AO) : Prop := ∀ h : Heap, (∀ b o, B b = some o → h.get? b = some o) → Holds w h a ao
theorem InB.mono {w : World} {B B' : PH} {a : Addr} {ao : AO} (x : InB w B a ao) (k : ∀ b o, B b = some o → B' b = some o) : InB w B' a ao := fun h kk => x h fun b o e => kk _ _ (k _ _ e)

structure Gx (ad : Ads) (w : World) (B : PH) : Prop where
  names : ∃ mg mb, NsB B mainGlobals mg ∧ NsB B builtinsNs mb ∧ ∀ x v, gval ad x = some v → ∃ val, absV val = v ∧ (mg x = some val ∨ (mg x = none ∧ mb x = some val))
  lim : ∃ mc, NsB B cStatics mc ∧ mc "sys.recursionlimit" = none
  fns : ∀ i ∈ fnList, FnAt B (fnName i) (fnParams i) (fnBody i) (fnScope i) (ad.fn i)
  low : ∃ o, B sysModules = some o
  cls : ∃ K, KIn K B ∧ ClsFacts ad K
  ini : ∃ o pm c doc, B ad.init = some o ∧ o.data = .func { Calls.docDef (stName initSrc) (stParams initSrc) (stBody initSrc) (stScope initSrc) pm (.ref c) doc with qualname := "SubScope.__init__" } ∧ CodeB B (.ref c) "SubScope.__init__"
  forced : InB w B ad.forced (.tup (forcedL.map .str))
  ends : InB w B ad.ends (.dict endsL)
  keys : InB w B ad.keys (.tup (keysL.map .str))
  res : ∃ l, InB w B ad.res (.dict l) ∧ (∀ x v, kvGet (resL ad) x = some v → kvGet l x = some v) ∧ ∀ x ∈ (["list", "anonsub", "bare"] : List Str), kvGet l x = none
  resLow : (ad.res == sysModules) = false
  scr : InB w B ad.scr (.arr (ad.ns.map .int))

theorem Gx.mono {ad : Ads} {w : World} {B B' : PH} (G : Gx ad w B) (k : ∀ b o, B b = some o → B' b = some o) : Gx ad w B' := by
  refine hide fun PZ kZ => ?_
  obtain ⟨hE1, hE2, f, hE3, hE4, hE5, fo, en, ke, hE6, rlow, sc⟩ := G
  refine kZ ?_
  clear kZ PZ
  refine el2_3 hE1 ?_
  try clear hE1
  intro mg mb g b n
  refine el1_2 hE2 ?_
  try clear hE2
  intro mc c e
  refine el1_1 hE3 ?_
  try clear hE3
  intro o lo
  refine el1_2 hE4 ?_
  try clear hE4
  intro K X Y
  refine el4_3 hE5 ?_
  try clear hE5
  intro o' pm c' doc i1 i2 hE7
  refine el4_3 hE7 ?_
  try clear hE7
  intro cc oo vs t j1 j2 j3
  refine el1_3 hE6 ?_
  try clear hE6
  intro rl r1 r2 r3
  refine ⟨⟨mg, mb, g.mono k, b.mono k, n⟩, ⟨mc, c.mono k, e⟩, fun i hi => ?_, ⟨o, k _ _ lo⟩, ⟨K, fun a o e => k _ _ (X a o e), Y⟩, ⟨o', pm, c', doc, k _ _ i1, i2, ⟨cc, oo, vs, t, j1, k _ _ j2, j3⟩⟩, fo.mono k, en.mono k, ke.mono k, ⟨rl, r1.mono k, r2, r3⟩, rlow, sc.mono k⟩
  refine el4_3 ((f i hi).out) ?_
  intro o pm c doc a1 a2 hE1
  refine el4_3 hE1 ?_
  try clear hE1
  intro cc oo vs t j1 j2 j3
  exact ⟨o, pm, c, doc, k _ _ a1, a2, ⟨cc, oo, vs, t, j1, k _ _ j2, j3⟩⟩

/-! ## the frame and the owned heap -/
structure EnvIs (sc : Scope) (env : Env) : Prop where
  scope : env.scope = sc
  globals : env.globals = mainGlobals
  builtins : env.builtins = builtinsNs
  kind : sc.kind = .function
  fn : (sc.names.lookup (".0" : Str)).isNone = true → env.func.isSome = true

structure Rep (w : World) (B : PH) (env : Env) (h : Heap) (loc : Loc) (H : AH) : Prop where
  ns : ∃ m, h.Ns env.locals m ∧ ∀ x, env.kindOf x = some .local → (m x).map absV = loc x
  cl : ∀ x, env.kindOf x = some .cell → ∃ c v, env.cells.lookup x = some c ∧ h.IsCell c v ∧ v.map absV = loc x
  own : ∀ a o, H a = some o → Holds w h a o
  apart : ∀ a o, H a = some o → a ≠ env.locals ∧ B a = none ∧ ∀ x c, env.kindOf x = some .cell → env.cells.lookup x = some c → c ≠ a
  keep : ∀ b o, B b = some o → h.get? b = some o
  frame : B env.locals = none
  clB : env.func.isSome = true → ∀ x c, env.kindOf x = some .cell → env.cells.lookup x = some c → B c = none
  clD : ∀ x y c, env.kindOf x = some .cell → env.kindOf y = some .cell → env.cells.lookup x = some c → env.cells.lookup y = some c → x = y

/-- everything but the owned part -/
noncomputable def hideH (H : AH) (h : Heap) : PH := fun b => match H b with | some _ => none | none => h.get? b
theorem hideH_some {H : AH} {h : Heap} {b : Addr} {o : Obj} (e : hideH H h b = some o) : h.get? b = some o ∧ H b = none := by
  unfold hideH at e
  cases q : H b with
  | some x => rw [q] at e; exact nsE e
  | none => rw [q] at e; exact ⟨e, rfl⟩
theorem hideH_of {H : AH} {h : Heap} {b : Addr} {o : Obj} (e : h.get? b = some o) (n : H b = none) : hideH H h b = some o := by
  unfold hideH; rw [n]; exact e
theorem hideH_none {H : AH} {h : Heap} {b : Addr} {o : AO} (e : H b = some o) : hideH H h b = none := by unfold hideH; rw [e]

section
variable {w : World} {B : PH} {env : Env} {h : Heap} {loc : Loc} {H : AH}

theorem Rep.hB (R : Rep w B env h loc H) {b : Addr} {o : Obj} (e : B b = some o) : hideH H h b = some o := by
  refine hideH_of (R.keep b o e) ?_
  cases q : H b with
  | none => rfl
  | some x => have := (R.apart b x q).2.1; rw [this] at e; exact nsE e
theorem Rep.gx {ad : Ads} (R : Rep w B env h loc H) (G : Gx ad w B) : Gx ad w (hideH H h) := G.mono fun _ _ e => R.hB e
theorem Rep.fresh (R : Rep w B env h loc H) : H h.objs.size = none := by
  cases q : H h.objs.size with
  | none => rfl
  | some x => exact absurd (R.own _ _ q).lt (Nat.lt_irrefl _)
theorem get_none_of_le {h : Heap} {a : Addr} (l : h.objs.size ≤ a) : h.get? a = none := by
  cases q : h.get? a with
  | none => rfl
  | some o => exact absurd (Heap.lt_size q) (Nat.not_lt.mpr l)
theorem Rep.freshB (R : Rep w B env h loc H) {a : Addr} (l : h.objs.size ≤ a) : B a = none := by
  cases q : B a with
  | none => rfl
  | some o => exact absurd (Heap.lt_size (R.keep _ _ q)) (Nat.not_lt.mpr l)
theorem Rep.locals_lt (R : Rep w B env h loc H) : env.locals < h.objs.size := let ⟨_, n, _⟩ := R.ns; n.lt
theorem Rep.noH_locals (R : Rep w B env h loc H) : H env.locals = none := by
  cases q : H env.locals with
  | none => rfl
  | some x => exact absurd rfl (R.apart _ _ q).1

/-- the heap has grown, the owned objects and the frame stand -/
theorem Rep.grow (R : Rep w B env h loc H) {h' : Heap} (k : ∀ b o, h.get? b = some o → h'.get? b = some o) : Rep w B env h' loc H := by
  refine hide fun PZ kZ => ?_
  obtain ⟨hE1, cl, own, ap, kp, fr, cb, cd⟩ := R
  refine kZ ?_
  clear kZ PZ
  refine el1_2 hE1 ?_
  try clear hE1
  intro m n l
  refine ⟨⟨m, n.keeps k, l⟩, fun x hx => ?_, fun a o e => (own a o e).mono fun ob => k a ob, ap, fun b o e => k _ _ (kp b o e), fr, cb, cd⟩
  refine el2_3 (cl x hx) ?_
  intro c v a1 a2 a3
  exact in2_3 c v a1 (a2.keeps k) a3

theorem Rep.push (R : Rep w B env h loc H) (o : Obj) : Rep w B env (h.push o) loc H := R.grow fun _ _ e => Heap.get?_push_of_some _ e

/-- a new owned object -/
theorem Rep.alloc (R : Rep w B env h loc H) {h' : Heap} {a : Addr} {ao : AO} (k : ∀ b o, h.get? b = some o → h'.get? b = some o) (l : h.objs.size ≤ a) (x : Holds w h' a ao) : Rep w B env h' loc (AH.put H a ao) := by
  have R' := R.grow k
  refine ⟨R'.ns, R'.cl, fun b o e => ?_, fun b o e => ?_, R'.keep, R'.frame, R'.clB, R'.clD⟩
  · by_cases q : b = a
    · subst q; rw [put_same] at e; (have hE0 := Option.some.inj e; subst hE0; clear e); exact x
    · rw [put_ne q] at e; exact R'.own b o e
  · by_cases q : b = a
    · subst q
      refine in0_3 (fun z => ?_) (R.freshB l) (fun x c hk hc z => ?_)
      · have := R.locals_lt; rw [← z] at this; exact absurd this (Nat.not_lt.mpr l)
      · refine el2_3 (R.cl x hk) ?_
        intro c' v a1 a2 _
        rw [hc] at a1; (have hE0 := Option.some.inj a1; subst hE0; clear a1); subst z
        exact absurd a2.lt (Nat.not_lt.mpr l)
    · rw [put_ne q] at e; exact R'.apart b o e

/-- an owned object is changed -/
theorem Rep.change (R : Rep w B env h loc H) {h' : Heap} {a : Addr} {ao ao' : AO} (e : H a = some ao) (s : Heap.SameBut a h h') (x : Holds w h' a ao') : Rep w B env h' loc (AH.put H a ao') := by
  have ne : ∀ b o, B b = some o → b ≠ a := fun b o eb q => by subst q; rw [(R.apart _ _ e).2.1] at eb; exact nsE eb
  refine el1_2 R.ns ?_
  intro m n l
  refine ⟨⟨m, n.sameBut s (Ne.symm (R.apart _ _ e).1), l⟩, fun x hx => ?_, fun b o q => ?_, fun b o q => ?_, fun b o q => (s.2 b (ne b o q)).trans (R.keep b o q), R.frame, R.clB, R.clD⟩
  · refine el2_3 (R.cl x hx) ?_
    intro c v a1 a2 a3
    exact in2_3 c v a1 (a2.sameBut s ((R.apart _ _ e).2.2 x c hx a1)) a3
  · by_cases z : b = a
    · subst z; rw [put_same] at q; (have hE0 := Option.some.inj q; subst hE0; clear q); exact x
    · rw [put_ne z] at q; exact (R.own b o q).mono fun ob g => (s.2 b z).trans g
  · by_cases z : b = a
    · subst z; exact R.apart _ _ e
    · rw [put_ne z] at q; exact R.apart b o q

/-- back from a frame that owned the same -/
theorem Rep.back (R : Rep w B env h loc H) {env' : Env} {h' : Heap} {loc' : Loc} {H' : AH} (R' : Rep w (hideH H h) env' h' loc' H') : Rep w B env h' loc H' := by
  have st : ∀ b o, h.get? b = some o → H b = none → h'.get? b = some o := fun b o e n => R'.keep b o (hideH_of e n)
  refine el1_2 R.ns ?_
  intro m hE1 l
  refine el3_2 hE1 ?_
  try clear hE1
  intro oL es ep gL rL
  refine ⟨⟨m, ⟨oL, es, ep, st _ _ gL R.noH_locals, rL⟩, l⟩, fun x hx => ?_, R'.own, fun a o e => ?_, fun b o e => R'.keep b o (R.hB e), R.frame, R.clB, R.clD⟩
  · refine el2_3 (R.cl x hx) ?_
    intro c v a1 a2 a3
    refine el1_2 a2 ?_
    try clear a2
    intro oc a2 a4
    refine in2_3 c v a1 (⟨oc, st _ _ a2 ?_, a4⟩) a3
    cases q : H c with
    | none => rfl
    | some z => exact absurd rfl ((R.apart _ _ q).2.2 x c hx a1)
  · have hn := (R'.apart a o e).2.1
    refine in0_3 (fun q => ?_) ?_ (fun x c hx hc q => ?_)
    · subst q; rw [hideH_of gL R.noH_locals] at hn; exact snE hn
    · cases q : B a with
      | none => rfl
      | some ob => rw [R.hB q] at hn; exact snE hn
    · refine el2_3 (R.cl x hx) ?_
      intro c' v a1 a2 _
      rw [hc] at a1; (have hE0 := Option.some.inj a1; subst hE0; clear a1); subst q
      refine el1_2 a2 ?_
      try clear a2
      intro oc a2 a4
      rw [hideH_of a2 ?_] at hn
      · exact snE hn
      · cases z : H c with
        | none => rfl
        | some y => exact absurd rfl ((R.apart _ _ z).2.2 x c hx hc)

theorem fin3 {s : Shared} {h1 : Heap} {k1 : Nat} {X : AH → Prop} (R : Rep w B env h1 loc H) (q : X H) : ∃ h' k' H', ({ s with heap := h1, toks := k1 } : Shared) = { s with heap := h', toks := k' } ∧ Rep w B env h' loc H' ∧ X H' := ⟨h1, k1, H, rfl, R, q⟩
theorem fin4 {s : Shared} {h1 : Heap} {k1 : Nat} {X : Loc → AH → Prop} (R : Rep w B env h1 loc H) (q : X loc H) : ∃ h' k' loc' H', ({ s with heap := h1, toks := k1 } : Shared) = { s with heap := h', toks := k' } ∧ Rep w B env h' loc' H' ∧ X loc' H' := ⟨h1, k1, loc, H, rfl, R, q⟩
theorem hideE {α : Type} {A : Around} {m : Sem α} {E : Value → Shared → Prop} {s : Shared} {X : α → AH → Prop}
    (k : ∀ P : α → Shared → Prop, (∀ v h' k' H', Rep w B env h' loc H' → X v H' → P v { s with heap := h', toks := k' }) → wpAny (model prog w) A m P E s) :
    wpAny (model prog w) A m (fun v s' => ∃ h' k' H', s' = { s with heap := h', toks := k' } ∧ Rep w B env h' loc H' ∧ X v H') E s := k _ fun v h' k' H' R q => ⟨h', k', H', rfl, R, q⟩
theorem hideS {α : Type} {A : Around} {m : Sem α} {E : Value → Shared → Prop} {s : Shared} {X : α → Loc → AH → Prop}
    (k : ∀ P : α → Shared → Prop, (∀ v h' k' l' H', Rep w B env h' l' H' → X v l' H' → P v { s with heap := h', toks := k' }) → wpAny (model prog w) A m P E s) :
    wpAny (model prog w) A m (fun v s' => ∃ h' k' loc' H', s' = { s with heap := h', toks := k' } ∧ Rep w B env h' loc' H' ∧ X v loc' H') E s := k _ fun v h' k' l' H' R q => ⟨h', k', l', H', rfl, R, q⟩
end


noncomputable def Loc.set (loc : Loc) (x : Str) (v : AV) : Loc := fun y => if y = x then some v else loc y
noncomputable def Loc.nil : Loc := fun _ => none

noncomputable def EV (ad : Ads) (w : World) (sc : Scope) (d : Nat) {α β : Type} (f : α → β) (t : Env → Sem α) (loc : Loc) (H : AH) (Q : β → AH → Prop) : Prop :=
  ∀ (A : Around) (B : PH) (env : Env) (s : Shared), Room A d → Gx ad w B → EnvIs sc env → Rep w B env s.heap loc H →
    wpAny (model prog w) A (t env) (fun v s' => ∃ h' k' H', s' = { s with heap := h', toks := k' } ∧ Rep w B env h' loc H' ∧ Q (f v) H') (fun _ _ => False) s

inductive AF where
  | next | brk | cont
  | ret (v : AV)
noncomputable def absF : Flow → AF
  | .next => .next
  | .brk => .brk
  | .cont => .cont
  | .ret v => .ret (absV v)

noncomputable def SX (ad : Ads) (w : World) (sc : Scope) (d : Nat) (t : Env → Sem Flow) (loc : Loc) (H : AH) (Q : AF → Loc → AH → Prop) : Prop :=
  ∀ (A : Around) (B : PH) (env : Env) (s : Shared), Room A d → Gx ad w B → EnvIs sc env → Rep w B env s.heap loc H →
    wpAny (model prog w) A (t env) (fun v s' => ∃ h' k' loc' H', s' = { s with heap := h', toks := k' } ∧ Rep w B env h' loc' H' ∧ Q (absF v) loc' H') (fun _ _ => False) s

section
variable {ad : Ads} {w : World} {sc : Scope} {d : Nat} {loc : Loc} {H : AH}

theorem EV.then {α β : Type} {f : α → β} {t : Env → Sem α} {Q : β → AH → Prop} (x : EV ad w sc d f t loc H Q) {A : Around} {B : PH} {env : Env} {s : Shared} (r : Room A d) (g : Gx ad w B) (e : EnvIs sc env)
    (R : Rep w B env s.heap loc H) {K : α → Shared → Prop} {E : Value → Shared → Prop} (k : ∀ v h' k' H', Rep w B env h' loc H' → Q (f v) H' → K v { s with heap := h', toks := k' }) : wpAny (model prog w) A (t env) K E s :=
  wpAny_mono (x A B env s r g e R) (fun v s' hI => el3_3 hI fun h' k' H' e' R' q => e' ▸ k v h' k' H' R' q) fun _ _ z => z.elim

theorem SX.then {t : Env → Sem Flow} {Q : AF → Loc → AH → Prop} (x : SX ad w sc d t loc H Q) {A : Around} {B : PH} {env : Env} {s : Shared} (r : Room A d) (g : Gx ad w B) (e : EnvIs sc env)
    (R : Rep w B env s.heap loc H) {K : Flow → Shared → Prop} {E : Value → Shared → Prop} (k : ∀ v h' k' loc' H', Rep w B env h' loc' H' → Q (absF v) loc' H' → K v { s with heap := h', toks := k' }) : wpAny (model prog w) A (t env) K E s :=
  wpAny_mono (x A B env s r g e R) (fun v s' hI => el4_3 hI fun h' k' l' H' e' R' q => e' ▸ k v h' k' l' H' R' q) fun _ _ z => z.elim

theorem EV.mono {α β : Type} {f : α → β} {t : Env → Sem α} {Q Q' : β → AH → Prop} (x : EV ad w sc d f t loc H Q) (h : ∀ b H', Q b H' → Q' b H') : EV ad w sc d f t loc H Q' := fun A B env s r g e R =>
  x.then r g e R fun v h' k' H' R' q => (fin3 (R') (h _ _ q))
theorem SX.mono {t : Env → Sem Flow} {Q Q' : AF → Loc → AH → Prop} (x : SX ad w sc d t loc H Q) (h : ∀ b l H', Q b l H' → Q' b l H') : SX ad w sc d t loc H Q' := fun A B env s r g e R =>
  x.then r g e R fun v h' k' l' H' R' q => (fin4 (R') (h _ _ _ q))
theorem EV.room {α β : Type} {f : α → β} {t : Env → Sem α} {Q : β → AH → Prop} {d' : Nat} (x : EV ad w sc d' f t loc H Q) (l : d' ≤ d) : EV ad w sc d f t loc H Q := fun A B env s r g e R => x A B env s (r.mono l) g e R

/-! ### names, constants -/
theorem EV.name_local {x : Str} {pos : Pos} {v : AV} {Q : AV → AH → Prop} (hk : sc.names.lookup x = some .local) (hv : loc x = some v) (q : Q v H) (hd : (x == ("__debug__" : Str)) = false := by decide) :
    EV ad w sc d absV (eval (.Name x pos)) loc H Q := by
  intro A B env s r g e R
  refine el1_2 R.ns ?_
  intro m n l
  have hx : env.kindOf x = some .local := by unfold Env.kindOf; rw [e.scope]; exact hk
  have hm := l x hx
  rw [hv] at hm
  refine el1_2 (Option.map_eq_some_iff.mp hm) ?_
  intro val h1 h2
  refine wpAny_Name (wpAny_loadName_local (by rw [e.scope]; exact e.kind) hx n h1 ⟨s.heap, s.toks, H, rfl, R, by rw [h2]; exact q⟩) hd

theorem EV.name_glob {x : Str} {pos : Pos} {v : AV} {Q : AV → AH → Prop} (hk : sc.names.lookup x = some .globalImplicit) (hv : gval ad x = some v) (q : Q v H) (hd : (x == ("__debug__" : Str)) = false := by decide) :
    EV ad w sc d absV (eval (.Name x pos)) loc H Q := by
  intro A B env s r g e R
  refine el2_3 g.names ?_
  intro mg mb ng nb n
  refine el1_2 (n x v hv) ?_
  intro val hval hh
  have hx : env.kindOf x = some .globalImplicit := by unfold Env.kindOf; rw [e.scope]; exact hk
  have hkf : env.scope.kind = .function := by rw [e.scope]; exact e.kind
  have fin : ∃ h' k' H', s = { s with heap := h', toks := k' } ∧ Rep w B env h' loc H' ∧ Q (absV val) H' := ⟨s.heap, s.toks, H, rfl, R, by rw [hval]; exact q⟩
  rcases hh with hh | ⟨h0, h1⟩
  · exact Calls.Name_function_global hkf hx (Calls.loadGlobal_global (by rw [e.globals]; exact ng.ns R.keep) hh fin) hd
  · exact Calls.Name_function_global hkf hx (Calls.loadGlobal_builtin (by rw [e.globals]; exact ng.ns R.keep) h0 (by rw [e.builtins]; exact nb.ns R.keep) h1 fin) hd

theorem EV.name_cell {x : Str} {pos : Pos} {v : AV} {Q : AV → AH → Prop} (hk : sc.names.lookup x = some .cell) (hv : loc x = some v) (q : Q v H) (hd : (x == ("__debug__" : Str)) = false := by decide) :
    EV ad w sc d absV (eval (.Name x pos)) loc H Q := by
  intro A B env s r g e R
  have hx : env.kindOf x = some .cell := by unfold Env.kindOf; rw [e.scope]; exact hk
  have hkf : env.scope.kind = .function := by rw [e.scope]; exact e.kind
  refine el2_3 (R.cl x hx) ?_
  intro c vo h1 h2 h3
  rw [hv] at h3
  refine el1_2 (Option.map_eq_some_iff.mp h3) ?_
  intro val h4 h5
  subst h4
  exact wpAny_Name (wpAny_loadName_cell hkf hx h1 h2 ⟨s.heap, s.toks, H, rfl, R, by rw [h5]; exact q⟩) hd

theorem EV.const_int {i : Int} {k : Nat} {pos : Pos} {Q : AV → AH → Prop} (q : Q (.int i) H) : EV ad w sc d absV (eval (.Constant (.int i) k pos)) loc H Q := fun _ _ _ _ _ _ _ R =>
  wpAny_Constant_int (fin3 (R) (q))
theorem EV.const_str {x : Str} {k : Nat} {pos : Pos} {Q : AV → AH → Prop} (q : Q (.str x) H) : EV ad w sc d absV (eval (.Constant (.str x) k pos)) loc H Q := fun _ _ _ _ _ _ _ R =>
  Calls.Constant_str (fin3 (R) (q))
theorem EV.const_none {k : Nat} {pos : Pos} {Q : AV → AH → Prop} (q : Q .none H) : EV ad w sc d absV (eval (.Constant .none k pos)) loc H Q := fun _ _ _ _ _ _ _ R =>
  wpAny_pure (fin3 (R) (q))
theorem EV.const_bool {b : Bool} {k : Nat} {pos : Pos} {Q : AV → AH → Prop} (q : Q (.bool b) H) : EV ad w sc d absV (eval (.Constant (.bool b) k pos)) loc H Q := fun _ _ _ _ _ _ _ R =>
  wpAny_pure (fin3 (R) (q))

/-! ### operators -/
noncomputable def Bin (ad : Ads) (w : World) (sc : Scope) (d : Nat) (op : Operator) (a b : AV) (loc : Loc) (H : AH) (Q : AV → AH → Prop) : Prop :=
  ∀ va vb, absV va = a → absV vb = b → EV ad w sc d absV (fun _ => binaryOp op va vb) loc H Q
noncomputable def Inp (ad : Ads) (w : World) (sc : Scope) (d : Nat) (op : Operator) (a b : AV) (loc : Loc) (H : AH) (Q : AV → AH → Prop) : Prop :=
  ∀ va vb, absV va = a → absV vb = b → EV ad w sc d absV (fun _ => inplaceOp op va vb) loc H Q
noncomputable def Cmp (ad : Ads) (w : World) (sc : Scope) (d : Nat) (op : CmpOp) (a b : AV) (loc : Loc) (H : AH) (Q : Bool → AH → Prop) : Prop :=
  ∀ va vb, absV va = a → absV vb = b → EV ad w sc d absV (fun _ => compareOp op va vb) loc H (fun v H' => ∃ c, v = .bool c ∧ Q c H')
noncomputable def Tru (ad : Ads) (w : World) (sc : Scope) (d : Nat) (a : AV) (loc : Loc) (H : AH) (Q : Bool → AH → Prop) : Prop :=
  ∀ va, absV va = a → EV ad w sc d id (fun _ => truthy va) loc H Q
noncomputable def Una (ad : Ads) (w : World) (sc : Scope) (d : Nat) (op : UnaryOp) (a : AV) (loc : Loc) (H : AH) (Q : AV → AH → Prop) : Prop :=
  ∀ va, absV va = a → EV ad w sc d absV (fun _ => unaryOp op va) loc H Q

noncomputable abbrev IT (e : Expr) : Env → Sem Bool := fun env => isTrue e env (eval e env)

theorem EV.binop {l r : Expr} {op : Operator} {pos : Pos} {Q : AV → AH → Prop}
    (h : EV ad w sc d absV (eval l) loc H (fun a H1 => EV ad w sc d absV (eval r) loc H1 (fun b H2 => Bin ad w sc d op a b loc H2 Q))) : EV ad w sc d absV (eval (.BinOp l op r pos)) loc H Q := by
  intro A B env s r g e R
  refine hideE fun PZ pz => ?_
  refine wpAny_BinOp (h.then r g e R fun a h1 k1 H1 R1 q1 => q1.then r g e R1 fun b h2 k2 H2 R2 q2 => ?_)
  exact (q2 a b rfl rfl).then r g e R2 fun v h3 k3 H3 R3 q3 => (pz _ _ _ _ (R3) (q3))

theorem EV.compare {l r : Expr} {op : CmpOp} {pos : Pos} {Q : AV → AH → Prop}
    (h : EV ad w sc d absV (eval l) loc H (fun a H1 => EV ad w sc d absV (eval r) loc H1 (fun b H2 => Cmp ad w sc d op a b loc H2 (fun c H' => Q (.bool c) H'))))
    (hm : behindInMarks op r = false := by with_unfolding_all rfl) : EV ad w sc d absV (eval (.Compare l [op] [r] pos)) loc H Q := by
  intro A B env s r g e R
  refine hideE fun PZ pz => ?_
  refine wpAny_Compare1 (h.then r g e R fun a h1 k1 H1 R1 q1 => q1.then r g e R1 fun b h2 k2 H2 R2 q2 => ?_) hm
  exact (q2 a b rfl rfl).then r g e R2 fun v h3 k3 H3 R3 hI => el1_2 hI fun c q4 q3 => (pz _ _ _ _ (R3) (by rw [q4]; exact q3))

theorem EV.it_compare {l r : Expr} {op : CmpOp} {pos : Pos} {Q : Bool → AH → Prop}
    (h : EV ad w sc d absV (eval l) loc H (fun a H1 => EV ad w sc d absV (eval r) loc H1 (fun b H2 => Cmp ad w sc d op a b loc H2 Q)))
    (hm : behindInMarks op r = false := by with_unfolding_all rfl) : EV ad w sc d id (IT (.Compare l [op] [r] pos)) loc H Q := by
  intro A B env s r g e R
  refine hideE fun PZ pz => ?_
  refine wpAny_isTrue_Compare1 (h.then r g e R fun a h1 k1 H1 R1 q1 => q1.then r g e R1 fun b h2 k2 H2 R2 q2 => ?_) hm
  refine (q2 a b rfl rfl).then r g e R2 fun v h3 k3 H3 R3 hI => el1_2 hI fun c q4 q3 => ?_
  have := absV_bool q4
  subst this
  exact wpAny_truthy_bool (pz _ _ _ _ (R3) (q3))

theorem EV.it_not {x : Expr} {pos : Pos} {Q : Bool → AH → Prop} (h : EV ad w sc d id (IT x) loc H (fun c H' => Q (!c) H')) : EV ad w sc d id (IT (.UnaryOp .Not x pos)) loc H Q := by
  intro A B env s r g e R
  refine hideE fun PZ pz => ?_
  exact isTrue_not (h.then r g e R fun c h1 k1 H1 R1 q1 => (pz _ _ _ _ (R1) (q1)))

theorem EV.it_and_nil {pos : Pos} {Q : Bool → AH → Prop} (q : Q true H) : EV ad w sc d id (IT (.BoolOp .And [] pos)) loc H Q := fun _ _ _ _ _ _ _ R => isTrue_and_nil (fin3 (R) (q))
theorem EV.it_or_nil {pos : Pos} {Q : Bool → AH → Prop} (q : Q false H) : EV ad w sc d id (IT (.BoolOp .Or [] pos)) loc H Q := fun _ _ _ _ _ _ _ R => isTrue_or_nil (fin3 (R) (q))
theorem EV.it_and {x : Expr} {rest : List Expr} {pos : Pos} {Q : Bool → AH → Prop}
    (h : EV ad w sc d id (IT x) loc H (fun c H1 => (c = true → EV ad w sc d id (IT (.BoolOp .And rest pos)) loc H1 Q) ∧ (c = false → Q false H1))) : EV ad w sc d id (IT (.BoolOp .And (x :: rest) pos)) loc H Q := by
  intro A B env s r g e R
  refine hideE fun PZ pz => ?_
  refine isTrue_and (h.then r g e R fun c h1 k1 H1 R1 q1 => ?_)
  cases c with
  | true => exact (q1.1 rfl).then r g e R1 fun c h2 k2 H2 R2 q2 => (pz _ _ _ _ (R2) (q2))
  | false => exact (pz _ _ _ _ (R1) (q1.2 rfl))
theorem EV.it_or {x : Expr} {rest : List Expr} {pos : Pos} {Q : Bool → AH → Prop}
    (h : EV ad w sc d id (IT x) loc H (fun c H1 => (c = true → Q true H1) ∧ (c = false → EV ad w sc d id (IT (.BoolOp .Or rest pos)) loc H1 Q))) : EV ad w sc d id (IT (.BoolOp .Or (x :: rest) pos)) loc H Q := by
  intro A B env s r g e R
  refine hideE fun PZ pz => ?_
  refine isTrue_or (h.then r g e R fun c h1 k1 H1 R1 q1 => ?_)
  cases c with
  | false => exact (q1.2 rfl).then r g e R1 fun c h2 k2 H2 R2 q2 => (pz _ _ _ _ (R2) (q2))
  | true => exact (pz _ _ _ _ (R1) (q1.1 rfl))

theorem EV.it_plain {x : Expr} {Q : Bool → AH → Prop} (h : EV ad w sc d absV (eval x) loc H (fun v H1 => Tru ad w sc d v loc H1 Q))
    (he : ∀ env whole, isTrue x env whole = (do let v ← whole; standAt x.pos; holding [v] (truthy v)) := by with_unfolding_all (intro _ _; rfl)) : EV ad w sc d id (IT x) loc H Q := by
  intro A B env s r g e R
  refine hideE fun PZ pz => ?_
  refine isTrue_plain (h.then r g e R fun v h1 k1 H1 R1 q1 => ?_) (he _ _)
  exact (q1 v rfl).then r g e R1 fun c h2 k2 H2 R2 q2 => (pz _ _ _ _ (R2) (q2))

theorem EV.ifexp {t b o : Expr} {pos : Pos} {Q : AV → AH → Prop}
    (h : EV ad w sc d id (IT t) loc H (fun c H1 => (c = true → EV ad w sc d absV (eval b) loc H1 Q) ∧ (c = false → EV ad w sc d absV (eval o) loc H1 Q))) : EV ad w sc d absV (eval (.IfExp t b o pos)) loc H Q := by
  intro A B env s r g e R
  refine hideE fun PZ pz => ?_
  refine IfExp_ (h.then r g e R fun c h1 k1 H1 R1 q1 => ?_)
  cases c with
  | true => exact (q1.1 rfl).then r g e R1 fun c h2 k2 H2 R2 q2 => (pz _ _ _ _ (R2) (q2))
  | false => exact (q1.2 rfl).then r g e R1 fun c h2 k2 H2 R2 q2 => (pz _ _ _ _ (R2) (q2))

theorem EV.unary {op : UnaryOp} {x : Expr} {pos : Pos} {Q : AV → AH → Prop} (h : EV ad w sc d absV (eval x) loc H (fun v H1 => Una ad w sc d op v loc H1 Q)) : EV ad w sc d absV (eval (.UnaryOp op x pos)) loc H Q := by
  intro A B env s r g e R
  refine hideE fun PZ pz => ?_
  refine UnaryOp_ (h.then r g e R fun v h1 k1 H1 R1 q1 => ?_)
  exact (q1 v rfl).then r g e R1 fun c h2 k2 H2 R2 q2 => (pz _ _ _ _ (R2) (q2))

theorem EV.and_one {op : BoolOp} {x : Expr} {pos : Pos} {Q : AV → AH → Prop} (h : EV ad w sc d absV (eval x) loc H Q) : EV ad w sc d absV (eval (.BoolOp op [x] pos)) loc H Q := fun A B env s r g e R =>
  BoolOp_one (h A B env s r g e R)
theorem EV.and_cons {x y : Expr} {rest : List Expr} {pos : Pos} {Q : AV → AH → Prop}
    (h : EV ad w sc d absV (eval x) loc H (fun v H1 => Tru ad w sc d v loc H1 (fun c H2 => (c = true → EV ad w sc d absV (eval (.BoolOp .And (y :: rest) pos)) loc H2 Q) ∧ (c = false → Q v H2)))) :
    EV ad w sc d absV (eval (.BoolOp .And (x :: y :: rest) pos)) loc H Q := by
  intro A B env s r g e R
  refine hideE fun PZ pz => ?_
  refine BoolOp_and (h.then r g e R fun v h1 k1 H1 R1 q1 => (q1 v rfl).then r g e R1 fun c h2 k2 H2 R2 q2 => ?_)
  cases c with
  | true => exact (q2.1 rfl).then r g e R2 fun c h2 k2 H2 R2 q2 => (pz _ _ _ _ (R2) (q2))
  | false => exact (pz _ _ _ _ (R2) (q2.2 rfl))

/-! ### statements -/
theorem SX.nil {Q : AF → Loc → AH → Prop} (q : Q .next loc H) : SX ad w sc d (execs []) loc H Q := fun _ _ _ _ _ _ _ R => wpAny_execs_nil (fin4 (R) (q))
theorem pick_t {P Q : Prop} (h : P) : (true = true → P) ∧ (true = false → Q) := ⟨fun _ => h, nofun⟩
theorem pick_f {P Q : Prop} (h : Q) : (false = true → P) ∧ (false = false → Q) := ⟨nofun, fun _ => h⟩
/-- behind a statement -/
noncomputable def Nx (ad : Ads) (w : World) (sc : Scope) (d : Nat) (rest : List Stmt) (Q : AF → Loc → AH → Prop) : AF → Loc → AH → Prop := fun f l H => match f with
  | .next => SX ad w sc d (execs rest) l H Q
  | f => Q f l H
theorem Nx.next {rest : List Stmt} {Q : AF → Loc → AH → Prop} (h : SX ad w sc d (execs rest) loc H Q) : Nx ad w sc d rest Q .next loc H := h
theorem Nx.ret {rest : List Stmt} {v : AV} {Q : AF → Loc → AH → Prop} (h : Q (.ret v) loc H) : Nx ad w sc d rest Q (.ret v) loc H := h
theorem Nx.brk {rest : List Stmt} {Q : AF → Loc → AH → Prop} (h : Q .brk loc H) : Nx ad w sc d rest Q .brk loc H := h
theorem Nx.cont {rest : List Stmt} {Q : AF → Loc → AH → Prop} (h : Q .cont loc H) : Nx ad w sc d rest Q .cont loc H := h
theorem SX.cons {st : Stmt} {rest : List Stmt} {Q : AF → Loc → AH → Prop} (h : SX ad w sc d (exec st) loc H (Nx ad w sc d rest Q)) : SX ad w sc d (execs (st :: rest)) loc H Q := by
  intro A B env s r g e R
  refine hideS fun PZ pz => ?_
  refine wpAny_execs_cons (h.then r g e R fun f h1 k1 l1 H1 R1 q1 => ?_)
  cases f with
  | next => exact SX.then (loc := l1) (H := H1) q1 r g e R1 fun f h2 k2 l2 H2 R2 q2 => (pz _ _ _ _ _ (R2) (q2))
  | brk => exact (pz _ _ _ _ _ (R1) (q1))
  | cont => exact (pz _ _ _ _ _ (R1) (q1))
  | ret v => exact (pz _ _ _ _ _ (R1) (q1))
theorem SX.ite {t : Expr} {b o : List Stmt} {pos : Pos} {Q : AF → Loc → AH → Prop}
    (h : EV ad w sc d id (IT t) loc H (fun c H1 => (c = true → SX ad w sc d (execs b) loc H1 Q) ∧ (c = false → SX ad w sc d (execs o) loc H1 Q))) : SX ad w sc d (exec (.If t b o pos)) loc H Q := by
  intro A B env s r g e R
  refine hideS fun PZ pz => ?_
  refine wpAny_If (h.then r g e R fun c h1 k1 H1 R1 q1 => ?_)
  cases c with
  | true => exact (q1.1 rfl).then r g e R1 fun f h2 k2 l2 H2 R2 q2 => (pz _ _ _ _ _ (R2) (q2))
  | false => exact (q1.2 rfl).then r g e R1 fun f h2 k2 l2 H2 R2 q2 => (pz _ _ _ _ _ (R2) (q2))
theorem SX.ret {x : Expr} {pos : Pos} {Q : AF → Loc → AH → Prop} (h : EV ad w sc d absV (eval x) loc H (fun v H1 => Q (.ret v) loc H1)) : SX ad w sc d (exec (.Return (some x) pos)) loc H Q := fun _ _ _ _ r g e R =>
  wpAny_Return_some (h.then r g e R fun v h1 k1 H1 R1 q1 => (fin4 (R1) (q1)))
theorem SX.brk {pos : Pos} {Q : AF → Loc → AH → Prop} (q : Q .brk loc H) : SX ad w sc d (exec (.Break pos)) loc H Q := fun _ _ _ _ _ _ _ R => wpAny_Break (fin4 (R) (q))
theorem SX.cont {pos : Pos} {Q : AF → Loc → AH → Prop} (q : Q .cont loc H) : SX ad w sc d (exec (.Continue pos)) loc H Q := fun _ _ _ _ _ _ _ R => wpAny_Continue (fin4 (R) (q))

/-- a local name is stored -/
theorem Rep.store_local {B : PH} {env : Env} {h h' : Heap} {x : Str} {v : Value} {m : Str → Option Value} (R : Rep w B env h loc H) (_hx : env.kindOf x = some .local)
    (l : ∀ y, env.kindOf y = some .local → (m y).map absV = loc y) (n : h'.Ns env.locals (fun y => if y = x then some v else m y)) (sb : Heap.SameBut env.locals h h') : Rep w B env h' (Loc.set loc x (absV v)) H := by
  refine ⟨⟨_, n, fun y hy => ?_⟩, fun y hy => ?_, fun a o q => (R.own a o q).mono fun ob g => (sb.2 a (R.apart a o q).1).trans g, R.apart, fun b o q => (sb.2 b fun z => ?_).trans (R.keep b o q), R.frame, R.clB, R.clD⟩
  · unfold Loc.set
    by_cases q : y = x
    · simp [q]
    · simp only [if_neg q]; exact l y hy
  · refine el2_3 (R.cl y hy) ?_
    intro c vo a1 a2 a3
    refine ⟨c, vo, a1, a2.sameBut sb fun z => ?_, ?_⟩
    · refine el1_2 R.ns ?_
      intro m' hE1 _
      refine el3_3 hE1 ?_
      try clear hE1
      intro o es ep g1 g2 _
      refine el1_2 a2 ?_
      try clear a2
      intro oc a2 a4
      rw [z] at a2; rw [a2] at g1; (have hE0 := Option.some.inj g1; subst hE0; clear g1); rw [a4] at g2; cases g2
    · rw [a3]; unfold Loc.set
      rw [if_neg]
      intro z; subst z; rw [hy] at _hx; cases _hx
  · subst z; rw [R.frame] at q; exact nsE q

/-- storing into a name -/
noncomputable def St (ad : Ads) (w : World) (sc : Scope) (d : Nat) (t : Env → Sem Unit) (loc : Loc) (H : AH) (Q : Loc → AH → Prop) : Prop :=
  ∀ (A : Around) (B : PH) (env : Env) (s : Shared), Room A d → Gx ad w B → EnvIs sc env → Rep w B env s.heap loc H →
    wpAny (model prog w) A (t env) (fun _ s' => ∃ h' k' loc' H', s' = { s with heap := h', toks := k' } ∧ Rep w B env h' loc' H' ∧ Q loc' H') (fun _ _ => False) s
theorem St.then {t : Env → Sem Unit} {Q : Loc → AH → Prop} (x : St ad w sc d t loc H Q) {A : Around} {B : PH} {env : Env} {s : Shared} (r : Room A d) (g : Gx ad w B) (e : EnvIs sc env)
    (R : Rep w B env s.heap loc H) {K : Unit → Shared → Prop} {E : Value → Shared → Prop} (k : ∀ h' k' loc' H', Rep w B env h' loc' H' → Q loc' H' → K () { s with heap := h', toks := k' }) : wpAny (model prog w) A (t env) K E s :=
  wpAny_mono (x A B env s r g e R) (fun _ _ hI => el4_3 hI fun h' k' l' H' e' R' q => e' ▸ k h' k' l' H' R' q) fun _ _ z => z.elim

theorem St.name {x : Str} {v : Value} {Q : Loc → AH → Prop} (hk : sc.names.lookup x = some .local) (q : Q (Loc.set loc x (absV v)) H) : St ad w sc d (fun env => storeName env x v) loc H Q := by
  intro A B env s r g e R
  have hx : env.kindOf x = some .local := by unfold Env.kindOf; rw [e.scope]; exact hk
  refine el1_2 R.ns ?_
  intro m n l
  have hf : env.scope.kind = .function := by rw [e.scope]; exact e.kind
  refine wpAny_storeName_local hx n (fun h' n' sb => ⟨h', s.toks + 1, _, H, rfl, R.store_local hx l n' sb, q⟩) ?_
  rw [hf]; rfl

theorem St.cell {x : Str} {v : Value} {Q : Loc → AH → Prop} (hk : sc.names.lookup x = some .cell) (hfn : (sc.names.lookup (".0" : Str)).isNone = true) (q : Q (Loc.set loc x (absV v)) H) : St ad w sc d (fun env => storeName env x v) loc H Q := by
  intro A B env s r g e R
  have hx : env.kindOf x = some .cell := by unfold Env.kindOf; rw [e.scope]; exact hk
  have hf : env.scope.kind = .function := by rw [e.scope]; exact e.kind
  refine el2_3 (R.cl x hx) ?_
  intro c vo a1 a2 a3
  refine wpAny_storeName_cell hf hx a1 a2 fun h' hc' sb => ⟨h', s.toks, _, H, rfl, ?_, q⟩
  have hB := R.clB (e.fn hfn) x c hx a1
  refine ⟨?_, fun y hy => ?_, fun a o q => (R.own a o q).mono fun ob g => (sb.2 a fun z => (R.apart a o q).2.2 x c hx a1 z.symm).trans g, R.apart, fun b o q => (sb.2 b fun z => ?_).trans (R.keep b o q), R.frame, R.clB, R.clD⟩
  · refine el1_2 R.ns ?_
    intro m n l
    refine ⟨m, n.sameBut sb fun z => ?_, fun y hy => ?_⟩
    · refine el3_3 n ?_
      try clear n
      intro o es ep g1 g2 _
      refine el1_2 a2 ?_
      try clear a2
      intro oc a2 a4
      rw [z, a2] at g1; (have hE0 := Option.some.inj g1; subst hE0; clear g1); rw [a4] at g2; cases g2
    · unfold Loc.set
      rw [if_neg, l y hy]
      intro z; subst z; rw [hx] at hy; cases hy
  · by_cases z : y = x
    · subst z
      exact in2_3 c (some v) a1 hc' (by unfold Loc.set; rw [if_pos rfl]; rfl)
    · refine el2_3 (R.cl y hy) ?_
      intro c' vo' b1 b2 b3
      refine ⟨c', vo', b1, b2.sameBut sb fun q => z ?_, by unfold Loc.set; rw [if_neg z]; exact b3⟩
      subst q; exact R.clD y x c' hy hx b1 a1
  · subst z; rw [hB] at q; exact nsE q

theorem SX.assign_name {x : Str} {p1 pos : Pos} {value : Expr} {Q : AF → Loc → AH → Prop} (h : EV ad w sc d absV (eval value) loc H (fun v H1 => ∀ va, absV va = v → St ad w sc d (fun env => storeName env x va) loc H1 (Q .next)))
    (hs : ∀ env, swapsWith value (some (.Name x p1)) pos.line env = pure false := by with_unfolding_all (intro _; rfl)) : SX ad w sc d (exec (.Assign [.Name x p1] value pos)) loc H Q := by
  intro A B env s r g e R
  refine hideS fun PZ pz => ?_
  refine wpAny_Assign_Name (h.then r g e R fun v h1 k1 H1 R1 q1 => ?_) (hs env)
  exact (q1 v rfl).then r g e R1 fun h2 k2 l2 H2 R2 q2 => (pz _ _ _ _ _ (R2) (q2))

theorem SX.expr {x : Expr} {pos : Pos} {Q : AF → Loc → AH → Prop} (h : EV ad w sc d absV (eval x) loc H (fun _ H1 => Q .next loc H1)) (hk : sc.kind = .function := by with_unfolding_all rfl) (hs : ∀ env, swapsWith x none pos.line env = pure false := by with_unfolding_all (intro _; rfl)) :
    SX ad w sc d (exec (.Expr x pos)) loc H Q := fun _ _ _ _ r g e R =>
  wpAny_Expr_any (h.then r g e R fun v h1 k1 H1 R1 q1 => (fin4 (R1) (q1))) (by unfold interactive; rw [e.scope, hk]; rfl) (hs _)

end


section
variable {ad : Ads} {w : World} {sc : Scope} {d : Nat} {loc : Loc} {H : AH}

/-! ### ints, strs -/
theorem Bin.add_int {a b : Int} {Q : AV → AH → Prop} (q : Q (.int (a + b)) H) : Bin ad w sc d .Add (.int a) (.int b) loc H Q := by
  intro va vb ha hb A B env s r g e R
  refine hideE fun PZ pz => ?_
  obtain ⟨t, rfl⟩ := absV_int ha; obtain ⟨u, rfl⟩ := absV_int hb
  exact P.add_int (pz _ _ _ _ (R) (q))
theorem Bin.sub_int {a b : Int} {Q : AV → AH → Prop} (q : Q (.int (a - b)) H) : Bin ad w sc d .Sub (.int a) (.int b) loc H Q := by
  intro va vb ha hb A B env s r g e R
  refine hideE fun PZ pz => ?_
  obtain ⟨t, rfl⟩ := absV_int ha; obtain ⟨u, rfl⟩ := absV_int hb
  exact P.sub_int (pz _ _ _ _ (R) (q))
theorem Bin.mul_int {a b : Int} {Q : AV → AH → Prop} (hm : IntMulOk a b) (q : Q (.int (a * b)) H) : Bin ad w sc d .Mult (.int a) (.int b) loc H Q := by
  intro va vb ha hb A B env s r g e R
  refine hideE fun PZ pz => ?_
  obtain ⟨t, rfl⟩ := absV_int ha; obtain ⟨u, rfl⟩ := absV_int hb
  exact P.mul_int (pz _ _ _ _ (R) (q)) hm
theorem Inp.add_int {a b : Int} {Q : AV → AH → Prop} (q : Q (.int (a + b)) H) : Inp ad w sc d .Add (.int a) (.int b) loc H Q := by
  intro va vb ha hb A B env s r g e R
  refine hideE fun PZ pz => ?_
  obtain ⟨t, rfl⟩ := absV_int ha; obtain ⟨u, rfl⟩ := absV_int hb
  exact P.iadd_int (pz _ _ _ _ (R) (q))
theorem Bin.add_str {x y : Str} {Q : AV → AH → Prop} (hz : (x ++ y).length ≤ sizeLine) (q : Q (.str (x ++ y)) H) : Bin ad w sc d .Add (.str x) (.str y) loc H Q := by
  intro va vb ha hb A B env s r g e R
  refine hideE fun PZ pz => ?_
  obtain ⟨t, rfl⟩ := absV_str ha; obtain ⟨u, rfl⟩ := absV_str hb
  refine P.add_str ?_
  split
  · rename_i h0
    have : x ++ y = y := Str.append_left_empty h0
    exact (pz _ _ _ _ (R) (by rw [this] at q; exact q))
  · split
    · rename_i h0
      have : x ++ y = x := Str.append_right_empty h0
      exact (pz _ _ _ _ (R) (by rw [this] at q; exact q))
    · exact ⟨hz, (pz _ _ _ _ (R) (q))⟩

theorem Una.neg_int {a : Int} {Q : AV → AH → Prop} (q : Q (.int (-a)) H) : Una ad w sc d .USub (.int a) loc H Q := by
  intro va ha A B env s r g e R
  refine hideE fun PZ pz => ?_
  refine el1_1 (absV_int ha) ?_
  intro t hE1
  obtain rfl := hE1
  exact P.neg_int (pz _ _ _ _ (R) (q))

theorem Cmp.eq_int {a b : Int} {Q : Bool → AH → Prop} (q : Q (a == b) H) : Cmp ad w sc d .Eq (.int a) (.int b) loc H Q := by
  intro va vb ha hb A B env s r g e R
  obtain ⟨t, rfl⟩ := absV_int ha; obtain ⟨u, rfl⟩ := absV_int hb
  exact P.eq_int ⟨_, _, H, rfl, R, _, rfl, q⟩
theorem Cmp.ne_int {a b : Int} {Q : Bool → AH → Prop} (q : Q (a != b) H) : Cmp ad w sc d .NotEq (.int a) (.int b) loc H Q := by
  intro va vb ha hb A B env s r g e R
  obtain ⟨t, rfl⟩ := absV_int ha; obtain ⟨u, rfl⟩ := absV_int hb
  exact P.ne_int ⟨_, _, H, rfl, R, _, rfl, q⟩
theorem Cmp.lt_int {a b : Int} {Q : Bool → AH → Prop} (q : Q (decide (a < b)) H) : Cmp ad w sc d .Lt (.int a) (.int b) loc H Q := by
  intro va vb ha hb A B env s r g e R
  obtain ⟨t, rfl⟩ := absV_int ha; obtain ⟨u, rfl⟩ := absV_int hb
  exact P.lt_int ⟨_, _, H, rfl, R, _, rfl, q⟩
theorem Cmp.gt_int {a b : Int} {Q : Bool → AH → Prop} (q : Q (decide (a > b)) H) : Cmp ad w sc d .Gt (.int a) (.int b) loc H Q := by
  intro va vb ha hb A B env s r g e R
  obtain ⟨t, rfl⟩ := absV_int ha; obtain ⟨u, rfl⟩ := absV_int hb
  exact P.gt_int ⟨_, _, H, rfl, R, _, rfl, q⟩
theorem Cmp.ge_int {a b : Int} {Q : Bool → AH → Prop} (q : Q (decide (a ≥ b)) H) : Cmp ad w sc d .GtE (.int a) (.int b) loc H Q := by
  intro va vb ha hb A B env s r g e R
  obtain ⟨t, rfl⟩ := absV_int ha; obtain ⟨u, rfl⟩ := absV_int hb
  exact P.ge_int ⟨_, _, H, rfl, R, _, rfl, q⟩

theorem Cmp.eq_str {x y : Str} {Q : Bool → AH → Prop} (q : Q (x == y) H) : Cmp ad w sc d .Eq (.str x) (.str y) loc H Q := by
  intro va vb ha hb A B env s r g e R
  obtain ⟨t, rfl⟩ := absV_str ha; obtain ⟨u, rfl⟩ := absV_str hb
  exact P.eq_str ⟨_, _, H, rfl, R, _, rfl, by rw [SeqAt.str_beq]; exact q⟩
theorem Cmp.ne_str {x y : Str} {Q : Bool → AH → Prop} (q : Q (!(x == y)) H) : Cmp ad w sc d .NotEq (.str x) (.str y) loc H Q := by
  intro va vb ha hb A B env s r g e R
  obtain ⟨t, rfl⟩ := absV_str ha; obtain ⟨u, rfl⟩ := absV_str hb
  refine P.ne_str ⟨_, _, H, rfl, R, _, rfl, ?_⟩
  have : (x.cps.toList != y.cps.toList) = !(x == y) := by rw [← SeqAt.str_beq]; rfl
  rw [this]; exact q
theorem Cmp.in_str {x y : Str} {Q : Bool → AH → Prop} (q : Q (Txt.contains x y) H) : Cmp ad w sc d .In (.str y) (.str x) loc H Q := by
  intro va vb ha hb A B env s r g e R
  obtain ⟨t, rfl⟩ := absV_str ha; obtain ⟨u, rfl⟩ := absV_str hb
  exact P.in_str ⟨_, _, H, rfl, R, _, rfl, q⟩
theorem Cmp.notin_str {x y : Str} {Q : Bool → AH → Prop} (q : Q (!Txt.contains x y) H) : Cmp ad w sc d .NotIn (.str y) (.str x) loc H Q := by
  intro va vb ha hb A B env s r g e R
  obtain ⟨t, rfl⟩ := absV_str ha; obtain ⟨u, rfl⟩ := absV_str hb
  exact P.notIn_str ⟨_, _, H, rfl, R, _, rfl, q⟩

theorem Tru.bool {b : Bool} {Q : Bool → AH → Prop} (q : Q b H) : Tru ad w sc d (.bool b) loc H Q := by
  intro va ha A B env s r g e R
  refine hideE fun PZ pz => ?_
  have := absV_bool ha; subst this
  exact wpAny_truthy_bool (pz _ _ _ _ (R) (q))

noncomputable def AV.isNone : AV → Bool
  | .none => true
  | _ => false
noncomputable def AV.isLit : AV → Bool
  | .lit _ => true
  | _ => false
theorem Cmp.is_none {a : AV} {Q : Bool → AH → Prop} (q : Q a.isNone H) (hl : a.isLit = false := by with_unfolding_all rfl) : Cmp ad w sc d .Is a .none loc H Q := by
  intro va vb ha hb A B env s r g e R
  have := absV_none hb; subst this
  by_cases h : va = .none
  · subst h; subst ha
    exact wpAny_is_self (by rfl) ⟨_, _, H, rfl, R, _, rfl, q⟩
  · refine wpAny_is_other (by subst ha; cases va <;> first | rfl | (exact absurd hl (by simp [absV, AV.isLit]))) h ⟨_, _, H, rfl, R, _, rfl, ?_⟩
    have : a.isNone = false := by subst ha; cases va <;> first | rfl | exact absurd rfl h
    rw [this] at q; exact q
theorem Cmp.isnot_none {a : AV} {Q : Bool → AH → Prop} (q : Q (!a.isNone) H) (hl : a.isLit = false := by with_unfolding_all rfl) : Cmp ad w sc d .IsNot a .none loc H Q := by
  intro va vb ha hb A B env s r g e R
  have := absV_none hb; subst this
  by_cases h : va = .none
  · subst h; subst ha
    exact wpAny_isNot_self (by rfl) ⟨_, _, H, rfl, R, _, rfl, q⟩
  · refine wpAny_isNot_other (by subst ha; cases va <;> first | rfl | (exact absurd hl (by simp [absV, AV.isLit]))) h ⟨_, _, H, rfl, R, _, rfl, ?_⟩
    have : a.isNone = false := by subst ha; cases va <;> first | rfl | exact absurd rfl h
    rw [this] at q; exact q

/-! ### subscripts -/
noncomputable def NoSlice (slice : Expr) : Prop := ∀ o i, subscripted slice false o i = operate [o, i] (getItem o i)
noncomputable def SubT (ad : Ads) (w : World) (sc : Scope) (d : Nat) (o i : AV) (loc : Loc) (H : AH) (Q : AV → AH → Prop) : Prop :=
  ∀ vo vi value slice, absV vo = o → absV vi = i → NoSlice slice → EV ad w sc d absV (fun _ => subscriptTail value slice vo vi) loc H Q

theorem EV.subscript {value slice : Expr} {pos : Pos} {Q : AV → AH → Prop} (h : EV ad w sc d absV (eval value) loc H (fun o H1 => EV ad w sc d absV (eval slice) loc H1 (fun i H2 => SubT ad w sc d o i loc H2 Q)))
    (hs : NoSlice slice := by with_unfolding_all (intro _ _; rfl)) : EV ad w sc d absV (eval (.Subscript value slice pos)) loc H Q := by
  intro A B env s r g e R
  refine hideE fun PZ pz => ?_
  refine Subscript_ (h.then r g e R fun o h1 k1 H1 R1 q1 => q1.then r g e R1 fun i h2 k2 H2 R2 q2 => ?_)
  exact (q2 o i value slice rfl rfl hs).then r g e R2 fun v h3 k3 H3 R3 q3 => (pz _ _ _ _ (R3) (q3))

theorem getElem?_map_abs {vs : List Value} {xs : List AV} {j : Nat} {x : AV} (h : vs.map absV = xs) (hx : xs[j]? = some x) : ∃ v, vs[j]? = some v ∧ absV v = x := by
  subst h
  rw [List.getElem?_map] at hx
  exact Option.map_eq_some_iff.mp hx

theorem SubT.list {a : Addr} {xs : List AV} {k : Int} {x : AV} {Q : AV → AH → Prop} (ho : H a = some (.list xs)) (h0 : 0 ≤ k) (hx : xs[k.toNat]? = some x) (q : Q x H) (hfit : k < 2 ^ 63) : SubT ad w sc d (.ref a) (.int k) loc H Q := by
  intro vo vi value slice h1 h2 hs A B env s r g e R
  refine hideE fun PZ pz => ?_
  refine el1_1 (absV_int h2) ?_
  intro t hE1
  obtain rfl := hE1
  have := absV_ref h1; subst this
  refine el1_2 (R.own _ _ ho) ?_
  intro vs hl hm
  replace hl := hl.isList
  refine el1_2 (getElem?_map_abs hm hx) ?_
  intro v hv hE1
  obtain rfl := hE1
  exact tail_any hl.typeIs slot_list_getitem.lookup (wpAny_getItem_list hl h0 hfit (by simpa using hv) (pz _ _ _ _ (R) (q))) (hs _ _)
theorem SubT.arr {a : Addr} {xs : List AV} {k : Int} {x : AV} {Q : AV → AH → Prop} (ho : H a = some (.arr xs)) (h0 : 0 ≤ k) (hx : xs[k.toNat]? = some x) (q : Q x H) (hfit : k < 2 ^ 63) : SubT ad w sc d (.ref a) (.int k) loc H Q := by
  intro vo vi value slice h1 h2 hs A B env s r g e R
  refine hideE fun PZ pz => ?_
  refine el1_1 (absV_int h2) ?_
  intro t hE1
  obtain rfl := hE1
  have := absV_ref h1; subst this
  refine el1_2 (R.own _ _ ho) ?_
  intro vs hl hm
  refine el1_2 (getElem?_map_abs hm hx) ?_
  intro v hv hE1
  obtain rfl := hE1
  exact tail_any hl.typeIs slot_list_getitem.lookup (wpAny_getItem_list hl h0 hfit (by simpa using hv) (pz _ _ _ _ (R) (q))) (hs _ _)
theorem SubT.list_neg {a : Addr} {xs : List AV} {k : Int} {x : AV} {Q : AV → AH → Prop} (ho : H a = some (.list xs)) (h0 : k < 0) (h1 : -(xs.length : Int) ≤ k) (hx : xs[(k + xs.length).toNat]? = some x) (q : Q x H) (hfit : -(2 ^ 63) ≤ k) : SubT ad w sc d (.ref a) (.int k) loc H Q := by
  intro vo vi value slice h1' h2 hs A B env s r g e R
  refine hideE fun PZ pz => ?_
  refine el1_1 (absV_int h2) ?_
  intro t hE1
  obtain rfl := hE1
  have := absV_ref h1'; subst this
  refine el1_2 (R.own _ _ ho) ?_
  intro vs hl hm
  replace hl := hl.isList
  have hlen : vs.length = xs.length := by rw [← hm, List.length_map]
  refine el1_2 (getElem?_map_abs hm hx) ?_
  intro v hv hE1
  obtain rfl := hE1
  exact tail_any hl.typeIs slot_list_getitem.lookup (wpAny_getItem_list_neg hl h0 (by simpa [hlen] using h1) hfit (by simpa [hlen] using hv) (pz _ _ _ _ (R) (q))) (hs _ _)
theorem SubT.tup {a : Addr} {xs : List AV} {k : Int} {x : AV} {Q : AV → AH → Prop} (ho : H a = some (.tup xs)) (h0 : 0 ≤ k) (hx : xs[k.toNat]? = some x) (q : Q x H) (hfit : k < 2 ^ 63) : SubT ad w sc d (.ref a) (.int k) loc H Q := by
  intro vo vi value slice h1 h2 hs A B env s r g e R
  refine hideE fun PZ pz => ?_
  refine el1_1 (absV_int h2) ?_
  intro t hE1
  obtain rfl := hE1
  have := absV_ref h1; subst this
  refine el1_2 (R.own _ _ ho) ?_
  intro vs hl hm
  refine el1_2 (getElem?_map_abs hm hx) ?_
  intro v hv hE1
  obtain rfl := hE1
  have hlt : k.toNat < vs.length := (List.getElem?_eq_some_iff.mp hv).1
  refine tail_any hl.typeIs slot_tuple_getitem.lookup (getItem_tuple (j := k.toNat) hl (by (first | (simp +arith only; done) | lia | omega)) hfit ?_ (by simpa using hv) (pz _ _ _ _ (R) (q))) (hs _ _)
  simp only [seqIndex?, List.size_toArray]
  rw [if_neg (by (first | (simp +arith only; done) | lia | omega) : ¬ k < 0)]
  simp only [Bool.and_eq_true, decide_eq_true_eq]
  rw [if_pos ⟨h0, by (first | (simp +arith only; done) | lia | omega)⟩]

noncomputable def absKv (p : Str × Value) : Str × AV := (p.1, absV p.2)
theorem kvGet_map : ∀ (kvs : List (Str × Value)) (k : Str), (valueAt kvs k).map absV = kvGet (kvs.map absKv) k
  | [], _ => rfl
  | (x, v) :: r, k => by
    have ih := kvGet_map r k
    simp only [valueAt, List.map_cons, absKv, kvGet, List.find?_cons] at ih ⊢
    by_cases h : x = k
    · simp [h]
    · simp only [h, decide_false, if_false]; exact ih
theorem kvPut_map (k : Str) (v : Value) : ∀ (kvs : List (Str × Value)), (kvs.map (·.1)).Nodup → (stored kvs k v).map absKv = kvPut (kvs.map absKv) k (absV v)
  | [], _ => rfl
  | (x, u) :: r, h => by
    rw [List.map_cons, List.nodup_cons] at h
    have ih := kvPut_map k v r h.2
    simp only [List.map_cons, absKv, kvPut]
    by_cases hx : x = k
    · subst hx
      rw [if_pos rfl]
      have : stored ((x, u) :: r) x v = (x, v) :: r := by
        unfold stored
        simp only [List.any_cons, decide_true, Bool.true_or, if_true, List.map_cons]
        rw [map_store_of_not_mem r x v h.1]
      rw [this]; rfl
    · rw [if_neg hx, ← ih]
      unfold stored
      simp only [List.any_cons, hx, decide_false, Bool.false_or]
      split <;> simp [hx, absKv]
theorem absKv_eq : (fun p : Str × Value => (p.1, absV p.2)) = absKv := rfl

theorem SubT.dict {a : Addr} {kvs : List (Str × AV)} {k : Str} {x : AV} {Q : AV → AH → Prop} (ho : H a = some (.dict kvs)) (hx : kvGet kvs k = some x) (q : Q x H) : SubT ad w sc d (.ref a) (.str k) loc H Q := by
  intro vo vi value slice h1 h2 hs A B env s r g e R
  refine hideE fun PZ pz => ?_
  refine el1_1 (absV_str h2) ?_
  intro t hE1
  obtain rfl := hE1
  have := absV_ref h1; subst this
  refine el1_2 (R.own _ _ ho) ?_
  intro kvs' hd hm
  have hg := kvGet_map kvs' k
  rw [absKv_eq] at hm
  rw [hm, hx] at hg
  refine el1_2 (Option.map_eq_some_iff.mp hg) ?_
  intro v hv hE1
  obtain rfl := hE1
  exact tail_any hd.typeIs slot_dict_getitem.lookup (wpAny_getItem_of (strKind_is prog w k t) hd.mapOf hv (pz _ _ _ _ (R) (q))) (hs _ _)

theorem Gx.low' {B : PH} {env : Env} {h : Heap} (G : Gx ad w B) (R : Rep w B env h loc H) {a : Addr} {o : AO} (e : H a = some o) : (a == sysModules) = false := by
  refine el1_1 G.low ?_
  intro ob lo
  cases q : a == sysModules with
  | false => rfl
  | true =>
    have := eq_of_beq q; subst this
    rw [(R.apart _ _ e).2.1] at lo; exact nsE lo

theorem Cmp.in_dict {a : Addr} {kvs : List (Str × AV)} {k : Str} {Q : Bool → AH → Prop} (ho : H a = some (.dict kvs)) (q : Q (kvGet kvs k).isSome H) : Cmp ad w sc d .In (.str k) (.ref a) loc H Q := by
  intro va vb ha hb A B env s r g e R
  refine el1_1 (absV_str ha) ?_
  intro t hE1
  obtain rfl := hE1
  have := absV_ref hb; subst this
  refine el1_2 (R.own _ _ ho) ?_
  intro kvs' hd hm
  have hg := kvGet_map kvs' k
  rw [absKv_eq] at hm
  rw [hm] at hg
  refine wpAny_in_of (strKind_is prog w k t) (g.low' R ho) hd.mapOf ⟨_, _, H, rfl, R, _, rfl, ?_⟩
  rw [← hg, Option.isSome_map] at q; exact q

/-! ### stores -/
noncomputable def SetT (ad : Ads) (w : World) (sc : Scope) (d : Nat) (o i v : AV) (loc : Loc) (H : AH) (Q : AH → Prop) : Prop :=
  ∀ vo vi vv, absV vo = o → absV vi = i → absV vv = v → EV ad w sc d id (fun _ => setItem vo vi vv) loc H (fun _ => Q)

theorem map_set_abs {vs : List Value} {k : Nat} {v : Value} : (vs.set k v).map absV = (vs.map absV).set k (absV v) := List.map_set

theorem SetT.arr {a : Addr} {xs : List AV} {k : Int} {v : AV} {Q : AH → Prop} (ho : H a = some (.arr xs)) (h0 : 0 ≤ k) (h1 : k < xs.length) (q : Q (AH.put H a (.arr (xs.set k.toNat v)))) (hfit : k < 2 ^ 63) :
    SetT ad w sc d (.ref a) (.int k) v loc H Q := by
  intro vo vi vv e1 e2 e3 A B env s r g e R
  refine hideE fun PZ pz => ?_
  refine el1_1 (absV_int e2) ?_
  intro t hE1
  obtain rfl := hE1
  have := absV_ref e1; subst this
  refine el1_2 (R.own _ _ ho) ?_
  intro vs hl hm
  have hlen : vs.length = xs.length := by rw [← hm, List.length_map]
  refine wpAny_setItem_list hl h0 hfit (by simpa [hlen] using h1) fun h' hl' sb => (pz _ _ _ _ (R.change ho sb (ao' := .arr (xs.set k.toNat v)) ⟨vs.set k.toNat vv, ?_, ?_⟩) (q))
  · simpa using hl'
  · rw [map_set_abs, hm, e3]

theorem SetT.dict {a : Addr} {kvs : List (Str × AV)} {k : Str} {v : AV} {Q : AH → Prop} (ho : H a = some (.dict kvs)) (hz : kvs.length ≤ 1000) (q : Q (AH.put H a (.dict (kvPut kvs k v)))) : SetT ad w sc d (.ref a) (.str k) v loc H Q := by
  intro vo vi vv e1 e2 e3 A B env s r g e R
  refine hideE fun PZ pz => ?_
  refine el1_1 (absV_str e2) ?_
  intro t hE1
  obtain rfl := hE1
  have := absV_ref e1; subst this
  refine el1_2 (R.own _ _ ho) ?_
  intro kvs' hd hm
  rw [absKv_eq] at hm
  have hlen : kvs'.length = kvs.length := by rw [← hm, List.length_map]
  refine el3_6 (id hd) ?_
  intro _ _ _ _ _ _ _ _ hn
  refine wpAny_setItem_pairs (strKind_is prog w k t) hd (fun h' hd' sb => (pz _ _ _ _ (R.change ho sb (ao' := .dict (kvPut kvs k v)) ⟨_, hd', ?_⟩) (q))) (by rw [hlen, sizeLine_eq]; (first | (simp +arith only; done) | lia | omega))
  rw [absKv_eq, kvPut_map k vv kvs' hn, hm, e3]

theorem SX.assign_sub {o i value : Expr} {p1 pos : Pos} {Q : AF → Loc → AH → Prop}
    (h : EV ad w sc d absV (eval value) loc H (fun v H1 => EV ad w sc d absV (eval o) loc H1 (fun ov H2 => EV ad w sc d absV (eval i) loc H2 (fun iv H3 => SetT ad w sc d ov iv v loc H3 (fun H4 => Q .next loc H4)))))
    (hs : ∀ env, swapsWith value (some (.Subscript o i p1)) pos.line env = pure false := by with_unfolding_all (intro _; rfl)) : SX ad w sc d (exec (.Assign [.Subscript o i p1] value pos)) loc H Q := by
  intro A B env s r g e R
  refine hideS fun PZ pz => ?_
  refine wpAny_Assign_Subscript (h.then r g e R fun v h1 k1 H1 R1 q1 => q1.then r g e R1 fun ov h2 k2 H2 R2 q2 => q2.then r g e R2 fun iv h3 k3 H3 R3 q3 => ?_) (hs env)
  exact (q3 ov iv v rfl rfl rfl).then r g e R3 fun _ h4 k4 H4 R4 q4 => (pz _ _ _ _ _ (R4) (q4))

/-- getItem apart -/
noncomputable def GetT (ad : Ads) (w : World) (sc : Scope) (d : Nat) (o i : AV) (loc : Loc) (H : AH) (Q : AV → AH → Prop) : Prop :=
  ∀ vo vi, absV vo = o → absV vi = i → EV ad w sc d absV (fun _ => getItem vo vi) loc H Q
theorem GetT.arr {a : Addr} {xs : List AV} {k : Int} {x : AV} {Q : AV → AH → Prop} (ho : H a = some (.arr xs)) (h0 : 0 ≤ k) (hx : xs[k.toNat]? = some x) (q : Q x H) (hfit : k < 2 ^ 63) : GetT ad w sc d (.ref a) (.int k) loc H Q := by
  intro vo vi h1 h2 A B env s r g e R
  refine hideE fun PZ pz => ?_
  refine el1_1 (absV_int h2) ?_
  intro t hE1
  obtain rfl := hE1
  have := absV_ref h1; subst this
  refine el1_2 (R.own _ _ ho) ?_
  intro vs hl hm
  refine el1_2 (getElem?_map_abs hm hx) ?_
  intro v hv hE1
  obtain rfl := hE1
  exact wpAny_getItem_list hl h0 hfit (by simpa using hv) (pz _ _ _ _ (R) (q))

theorem SX.aug_sub {o i value : Expr} {op : Operator} {p1 pos : Pos} {Q : AF → Loc → AH → Prop}
    (h : EV ad w sc d absV (eval o) loc H (fun ov H1 => EV ad w sc d absV (eval i) loc H1 (fun iv H2 => GetT ad w sc d ov iv loc H2 (fun old H3 => EV ad w sc d absV (eval value) loc H3 (fun v H4 =>
      Inp ad w sc d op old v loc H4 (fun nw H5 => SetT ad w sc d ov iv nw loc H5 (fun H6 => Q .next loc H6)))))))
    (ha : ∀ ov iv new, augStore i ov iv new = (do holding [new, ov, iv] (setItem ov iv new); release [new, ov, iv] []; pure .next) := by with_unfolding_all (intro _ _ _; rfl)) : SX ad w sc d (exec (.AugAssign (.Subscript o i p1) op value pos)) loc H Q := by
  intro A B env s r g e R
  refine hideS fun PZ pz => ?_
  refine wpAny_AugAssign_Subscript_any (h.then r g e R fun ov h1 k1 H1 R1 q1 => q1.then r g e R1 fun iv h2 k2 H2 R2 q2 => (q2 ov iv rfl rfl).then r g e R2 fun old h3 k3 H3 R3 q3 => q3.then r g e R3 fun v h4 k4 H4 R4 q4 =>
    (q4 old v rfl rfl).then r g e R4 fun nw h5 k5 H5 R5 q5 => ?_) ha
  exact (q5 ov iv nw rfl rfl rfl).then r g e R5 fun _ h6 k6 H6 R6 q6 => (pz _ _ _ _ _ (R6) (q6))
end


section
variable {ad : Ads} {w : World} {sc : Scope} {d : Nat} {loc : Loc} {H : AH}

/-! ### arguments and calls -/
noncomputable def AR (ad : Ads) (w : World) (sc : Scope) (d : Nat) (pos : Pos) (es : List Expr) (loc : Loc) (H : AH) (Q : List AV → AH → Prop) : Prop :=
  EV ad w sc d (List.map absV) (fun env => spliced (backTo pos (starEach es env))) loc H Q
theorem AR.nil {pos : Pos} {Q : List AV → AH → Prop} (q : Q [] H) : AR ad w sc d pos [] loc H Q := fun _ _ _ _ _ _ _ R => Calls.spliced_nil (fin3 (R) (q))
theorem AR.cons {pos : Pos} {x : Expr} {rest : List Expr} {Q : List AV → AH → Prop} (h : EV ad w sc d absV (eval x) loc H (fun v H1 => AR ad w sc d pos rest loc H1 (fun vs H2 => Q (v :: vs) H2)))
    (he : ∀ env, starEach (x :: rest) env = (false, eval x env) :: starEach rest env := by with_unfolding_all (intro _; rfl)) : AR ad w sc d pos (x :: rest) loc H Q := by
  intro A B env s r g e R
  refine hideE fun PZ pz => ?_
  show wpAny _ _ (spliced (backTo pos (starEach (x :: rest) env))) _ _ s
  rw [he]
  refine Calls.spliced_cons (h.then r g e R fun v h1 k1 H1 R1 q1 => EV.then q1 r g e R1 fun vs h2 k2 H2 R2 q2 => (pz _ _ _ _ (R2) (?_)))
  exact q2

noncomputable def CallV (ad : Ads) (w : World) (sc : Scope) (d : Nat) (f : AV) (args : List AV) (loc : Loc) (H : AH) (Q : AV → AH → Prop) : Prop :=
  ∀ vf vs, absV vf = f → vs.map absV = args → EV ad w sc d absV (fun _ => call vf vs) loc H Q

inductive CalleeOK (ad : Ads) : AV → Prop
  | fn {i : Nat} : i ∈ fnList → CalleeOK ad (.ref (ad.fn i))
  | cls : CalleeOK ad (.ref ad.cls)
  | builtin (id : String) : CalleeOK ad (.lit (.builtin id))
  | type (T : String) : CalleeOK ad (.lit (.type T))

theorem CalleeOK.keeper {f : AV} (c : CalleeOK ad f) {B : PH} (G : Gx ad w B) {h : Heap} (k : ∀ b o, B b = some o → h.get? b = some o) {v : Value} (hv : absV v = f) :
    ∃ k, (k = Keeper.frame ∨ k = Keeper.machine ∨ k = Keeper.boundFrame) ∧ Looks (model prog w) h (keeperOf v) k := by
  cases c with
  | fn hi =>
    have := absV_ref hv; subst this
    refine el4_3 ((G.fns _ hi).out) ?_
    intro o pm c doc a1 a2 a3
    refine in1_2 (.frame) (.inl rfl) ((Looks.ld (part := none) (k _ _ a1)).andThen ?_)
    rw [a2]; exact .now
  | cls =>
    have := absV_ref hv; subst this
    refine el1_2 G.cls ?_
    intro K X C
    exact keeps_K C.keep h (fun a o e => k _ _ (X a o e))
  | builtin id =>
    have := absV_lit hv; subst this
    exact in1_2 (.machine) (.inr (.inl rfl)) (Looks.of_pure rfl)
  | type T =>
    have := absV_lit hv; subst this
    exact in1_2 (.machine) (.inr (.inl rfl)) (Looks.of_pure rfl)

theorem backTo_plain {pos : Pos} : ∀ {es : List Expr} {env : Env}, (starEach es env).any (·.1) = false → (backTo pos (starEach es env)).any (·.1) = false := by
  intro es env h
  unfold backTo
  rw [List.any_map]
  exact h

theorem call_with {f : Value} {first : List Value} {fv : AV} {args : List Expr} {pos : Pos} {B : PH} {A : Around} {env : Env} {s : Shared} {Q : Value → Shared → Prop} (r : Room A d) (g : Gx ad w B) (e : EnvIs sc env) (R : Rep w B env s.heap loc H)
    (c : CalleeOK ad fv) (hf : absV f = fv) (hp : (starEach args env).any (·.1) = false) {P : List AV → AH → Prop}
    (h : AR ad w sc d pos args loc H P) (k : ∀ vs h' k' H', Rep w B env h' loc H' → P (vs.map absV) H' → wpAny (model prog w) A (call f (first ++ vs)) Q (fun _ _ => False) { s with heap := h', toks := k' }) :
    wpAny (model prog w) A (callWith pos f first (backTo pos (starEach args env)) []) Q (fun _ _ => False) s := by
  refine callWith_of (P := fun hp => ∀ b o, B b = some o → hp.get? b = some o) (by rw [backTo_plain hp]; rfl) (fun hp kk => c.keeper g kk hf) ?_
  have step : wpAny (model prog w) A (spliced (backTo pos (starEach args env))) (fun vs s₁ => (∀ b o, B b = some o → s₁.heap.get? b = some o) ∧ wpAny (model prog w) A (call f (first ++ vs)) Q (fun _ _ => False) s₁) (fun _ _ => False) s :=
    EV.then h r g e R fun vs h1 k1 H1 R1 q1 => ⟨R1.keep, k vs h1 k1 H1 R1 q1⟩
  cases args with
  | nil =>
    unfold evalArgs
    show wpAny _ _ (spliced [] >>= _) _ _ s
    refine wpAny_bind (wpAny_mono step (fun vs s' h' => wpAny_bind (wpAny_pure ?_)) fun _ _ x => x)
    refine wpAny_holding ?_
    exact wpAny_bind (wpAny_pure (wpAny_bind (wpAny_pure (wpAny_pure h'))))
  | cons x rest =>
    have he : starEach (x :: rest) env = (false, eval x env) :: starEach rest env := by
      cases x <;> first | rfl | (exfalso; simp [starEach] at hp)
    rw [he] at step ⊢
    exact Calls.evalArgs_plain step

theorem EV.call {func : Expr} {args : List Expr} {pos : Pos} {Q : AV → AH → Prop}
    (h : EV ad w sc d absV (eval func) loc H (fun f H1 => CalleeOK ad f ∧ AR ad w sc d pos args loc H1 (fun vs H2 => CallV ad w sc d f vs loc H2 Q)))
    (hp : ∀ env, (starEach args env).any (·.1) = false := by with_unfolding_all (intro _; rfl))
    (he : ∀ env, eval (.Call func args [] pos) env = (eval func env >>= fun f => callWith pos f [] (backTo pos (starEach args env)) []) := by with_unfolding_all (intro _; rfl)) : EV ad w sc d absV (eval (.Call func args [] pos)) loc H Q := by
  intro A B env s r g e R
  refine hideE fun PZ pz => ?_
  show wpAny _ _ (eval (.Call func args [] pos) env) _ _ s
  rw [he]
  refine wpAny_bind (h.then r g e R fun f h1 k1 H1 R1 q1 => ?_)
  refine call_with r g e R1 q1.1 rfl (hp env) q1.2 fun vs h2 k2 H2 R2 q2 => ?_
  exact (q2 f vs rfl rfl).then r g e R2 fun v h3 k3 H3 R3 q3 => (pz _ _ _ _ (R3) (q3))

/-! ### methods of lists and dicts -/
noncomputable def GetM (ad : Ads) (w : World) (o : AV) (name : Str) (id : String) (H : AH) : Prop :=
  ∀ (A : Around) (B : PH) (env : Env) (s : Shared) (loc : Loc) (vo : Value) (pl : Sem Bool) (Q : Value × List Value → Shared → Prop), absV vo = o → Rep w B env s.heap loc H → Q (.builtin id, [vo]) s → wpAny (model prog w) A (getMethod vo name pl) Q (fun _ _ => False) s

theorem GetM.append {a : Addr} {xs : List AV} (ho : H a = some (.list xs)) : GetM ad w (.ref a) "append" "list.append" H := by
  intro A B env s loc vo pl Q hv R q
  have := absV_ref hv; subst this
  refine el1_2 (R.own _ _ ho) ?_
  intro vs hE1 hm
  refine el1_1 hE1 ?_
  try clear hE1
  intro n hl
  exact Calls.getMethod_list_append hl rfl rfl q
theorem GetM.list {a : Addr} {xs : List AV} {name : Str} {id : String} (slot : Slot "list" name id) (hty : typeOf (.builtin id) = pure (.type "method_descriptor")) (ho : H a = some (.list xs)) : GetM ad w (.ref a) name id H := by
  intro A B env s loc vo pl Q hv R q
  have := absV_ref hv; subst this
  refine el1_2 (R.own _ _ ho) ?_
  intro vs hE1 hm
  refine el1_1 hE1 ?_
  try clear hE1
  intro n hl
  exact getMethod_builtin (v := .ref a) (T := "list") ⟨_, hl, rfl⟩ PySem.F.plainAttrs_list slot hty (fun b eb => by cases eb; exact ⟨_, hl, rfl⟩) q
theorem GetM.dict {a : Addr} {kvs : List (Str × AV)} {name : Str} {id : String} (slot : Slot "dict" name id) (hty : typeOf (.builtin id) = pure (.type "method_descriptor")) (ho : H a = some (.dict kvs)) : GetM ad w (.ref a) name id H := by
  intro A B env s loc vo pl Q hv R q
  have := absV_ref hv; subst this
  refine el1_2 (R.own _ _ ho) ?_
  intro kvs' hd hm
  exact getMethod_builtin hd.typeIs PySem.F.plainAttrs_dict slot hty hd.mapOf.noDict q

theorem EV.mcall {o : Expr} {name : Str} {apos pos : Pos} {args : List Expr} {pl : Env → Sem Bool} {Q : AV → AH → Prop}
    (h : EV ad w sc d absV (eval o) loc H (fun ov H1 => ∃ id, GetM ad w ov name id H1 ∧ AR ad w sc d pos args loc H1 (fun vs H2 => CallV ad w sc d (.lit (.builtin id)) (ov :: vs) loc H2 Q)))
    (hp : ∀ env, (starEach args env).any (·.1) = false := by with_unfolding_all (intro _; rfl))
    (he : ∀ env, eval (.Call (.Attribute o name apos) args [] pos) env = (do
      let ov ← eval o env
      standAt apos.atName
      let (f, first) ← holding [ov] (getMethod ov name (pl env))
      callWith pos f first (backTo pos (starEach args env)) []) := by with_unfolding_all (intro _; rfl)) : EV ad w sc d absV (eval (.Call (.Attribute o name apos) args [] pos)) loc H Q := by
  intro A B env s r g e R
  refine hideE fun PZ pz => ?_
  refine MethodCall_ (h.then r g e R fun ov h1 k1 H1 R1 q1 => ?_) (he env)
  refine el1_2 q1 ?_
  try clear q1
  intro id gm q1
  refine gm A B env _ loc ov _ _ rfl R1 ?_
  refine call_with r g e R1 (.builtin id) rfl (hp env) q1 fun vs h2 k2 H2 R2 q2 => ?_
  exact (q2 (.builtin id) (ov :: vs) rfl rfl).then r g e R2 fun v h3 k3 H3 R3 q3 => (pz _ _ _ _ (R3) (q3))

theorem args1 {vs : List Value} {a : AV} (h : vs.map absV = [a]) : ∃ v, vs = [v] ∧ absV v = a := by
  refine el2_3 (List.map_eq_cons_iff.mp h) ?_
  intro v r hE1 h1 h2
  obtain rfl := hE1
  obtain rfl := List.map_eq_nil_iff.mp h2
  exact in1_2 v rfl h1
theorem args2 {vs : List Value} {a b : AV} (h : vs.map absV = [a, b]) : ∃ v u, vs = [v, u] ∧ absV v = a ∧ absV u = b := by
  refine el2_3 (List.map_eq_cons_iff.mp h) ?_
  intro v r hE1 h1 h2
  obtain rfl := hE1
  refine el1_2 (args1 h2) ?_
  intro u hE1 h3
  obtain rfl := hE1
  exact in2_3 v u rfl h1 h3
theorem args3 {vs : List Value} {a b c : AV} (h : vs.map absV = [a, b, c]) : ∃ v u x, vs = [v, u, x] ∧ absV v = a ∧ absV u = b ∧ absV x = c := by
  refine el2_3 (List.map_eq_cons_iff.mp h) ?_
  intro v r hE1 h1 h2
  obtain rfl := hE1
  refine el2_3 (args2 h2) ?_
  intro u x hE1 h3 h4
  obtain rfl := hE1
  exact in3_4 v u x rfl h1 h3 h4

theorem CallV.append {a : Addr} {xs : List AV} {x : AV} {Q : AV → AH → Prop} (ho : H a = some (.list xs)) (hz : xs.length ≤ 1000) (q : Q .none (AH.put H a (.list (xs ++ [x])))) :
    CallV ad w sc d (.lit (.builtin "list.append")) [.ref a, x] loc H Q := by
  intro vf vs hf hvs A B env s r g e R
  refine hideE fun PZ pz => ?_
  have := absV_lit hf; subst this
  refine el2_3 (args2 hvs) ?_
  intro v u hE1 h1 h2
  obtain rfl := hE1
  have := absV_ref h1; subst this
  refine el1_2 (R.own _ _ ho) ?_
  intro vs hl hm
  have hlen : vs.length = xs.length := by rw [← hm, List.length_map]
  refine wpAny_list_append_plain hl (fun h' hl' sb => (pz _ _ _ _ (R.change ho sb (ao' := .list (xs ++ [x])) ⟨vs ++ [u], by simpa using hl', by rw [List.map_append, hm, List.map_singleton, h2]⟩) (q))) ?_
  simp only [List.size_toArray, hlen, sizeLine_eq]; (first | (simp +arith only; done) | lia | omega)

theorem CallV.pop {a : Addr} {xs : List AV} {x : AV} {Q : AV → AH → Prop} (ho : H a = some (.list (xs ++ [x]))) (hz : xs.length ≤ 1000) (q : Q x (AH.put H a (.list xs))) :
    CallV ad w sc d (.lit (.builtin "list.pop")) [.ref a] loc H Q := by
  intro vf vs hf hvs A B env s r g e R
  have := absV_lit hf; subst this
  refine el1_2 (args1 hvs) ?_
  intro v hE1 h1
  obtain rfl := hE1
  have := absV_ref h1; subst this
  refine el1_2 (R.own _ _ ho) ?_
  intro vs hE1 hm
  refine el1_1 hE1 ?_
  try clear hE1
  intro n hl
  obtain ⟨us, y, rfl, hu, hy⟩ : ∃ us y, vs = us ++ [y] ∧ us.map absV = xs ∧ absV y = x := by
    refine el2_3 (List.map_eq_append_iff.mp hm) ?_
    intro us l2 e1 e2 e3
    refine el1_2 (args1 e3) ?_
    intro y hE1 e4
    obtain rfl := hE1
    exact in2_3 us y e1 e2 e4
  have hlen : us.length = xs.length := by rw [← hu, List.length_map]
  refine call_meets PySem.F.slot_list_pop ⟨_, hl, rfl⟩ PySem.F.entry_list_pop (PySem.F.args_list_pop_1 _) (MeetsSeq.list_pop_last a (us ++ [y]).toArray n y (by simp) (by simp [hlen, sizeLine_eq]; (first | (simp +arith only; done) | lia | omega))) ⟨hl, ?_⟩
  show ∃ h' k' H', _ ∧ _ ∧ _
  have e : Obj.mapSeq (fun ys => ys.eraseIdxIfInBounds ((us ++ [y]).toArray.size - 1)) { cls := .type "list", data := .seq (us ++ [y]).toArray n } = { cls := .type "list", data := .seq us.toArray (n + 1) } := by
    have e0 : (us ++ [y]).eraseIdx us.length = us := by rw [List.eraseIdx_append_of_length_le (Nat.le_refl _)]; simp
    simp [Obj.mapSeq, Array.eraseIdxIfInBounds, e0]
  refine (fin3 (R.change ho (Heap.SameBut.update ..) (ao' := .list xs) ⟨us, ⟨n + 1, ?_⟩, hu⟩) (by rw [hy]; exact q))
  rw [Heap.get?_update_self _ hl (by rw [e]; rfl), e]

theorem CallV.dict_get {a : Addr} {kvs : List (Str × AV)} {k : Str} {x : AV} {Q : AV → AH → Prop} (ho : H a = some (.dict kvs)) (q : Q ((kvGet kvs k).getD x) H) :
    CallV ad w sc d (.lit (.builtin "dict.get")) [.ref a, .str k, x] loc H Q := by
  intro vf vs hf hvs A B env s r g e R
  have := absV_lit hf; subst this
  refine el3_4 (args3 hvs) ?_
  intro v u y hE1 h1 h2 h3
  obtain rfl := hE1
  have := absV_ref h1; subst this
  refine el1_1 (absV_str h2) ?_
  intro t hE1
  obtain rfl := hE1
  refine el1_2 (R.own _ _ ho) ?_
  intro kvs' hd hm
  have hg := kvGet_map kvs' k
  rw [absKv_eq] at hm
  rw [hm] at hg
  refine call_meetsIn PySem.F.slot_dict_get hd.typeIs PySem.F.entry_dict_get (PySem.F.args_dict_get_3 _ _ _) (meets_dict_get_default (sk w) a (strKind_is prog w k t) (g.low' R ho) y) ⟨_, hd.mapOf, ?_⟩
  show ∃ h' k' H', _ ∧ _ ∧ _
  refine (fin3 (R) (?_))
  rw [← hg, ← h3] at q
  cases hv : valueAt kvs' k with
  | none => rw [hv] at q; exact q
  | some z => rw [hv] at q; exact q
end


/-! ### objects that stand guarded while a part runs -/
noncomputable def gd (B : PH) (W : List Addr) (h : Heap) : PH := fun b => if b ∈ W then h.get? b else B b

section
variable {ad : Ads} {w : World} {B : PH} {env : Env} {h h' : Heap} {loc : Loc} {H : AH} {W : List Addr}

structure Off (B : PH) (env : Env) (H : AH) (b : Addr) : Prop where
  h : H b = none
  l : b ≠ env.locals
  c : ∀ x c, env.kindOf x = some .cell → env.cells.lookup x = some c → c ≠ b
  b : B b = none

theorem Rep.off (R : Rep w B env h loc H) {b : Addr} (l : h.objs.size ≤ b) : Off B env H b := by
  refine ⟨?_, fun z => ?_, fun x c hx hc z => ?_, R.freshB l⟩
  · cases q : H b with
    | none => rfl
    | some o => exact absurd (R.own _ _ q).lt (Nat.not_lt.mpr l)
  · subst z; exact absurd R.locals_lt (Nat.not_lt.mpr l)
  · refine el2_3 (R.cl x hx) ?_
    intro c' v a1 a2 _
    rw [hc] at a1; (have hE0 := Option.some.inj a1; subst hE0; clear a1); subst z
    exact absurd a2.lt (Nat.not_lt.mpr l)

theorem gd_gx (G : Gx ad w B) (hW : ∀ b ∈ W, B b = none) : Gx ad w (gd B W h) := G.mono fun b o e => by
  unfold gd
  rw [if_neg]; exact e
  intro hb; rw [hW b hb] at e; exact nsE e

/-- the guarded ones may change, all else stands -/
theorem Rep.gd_in (R : Rep w B env h loc H) (hW : ∀ b ∈ W, Off B env H b) (k : ∀ b o, b ∉ W → h.get? b = some o → h'.get? b = some o) : Rep w (gd B W h') env h' loc H := by
  refine el1_2 R.ns ?_
  intro m hE1 l
  refine el3_2 hE1 ?_
  try clear hE1
  intro oL es ep gL rL
  have nL : env.locals ∉ W := fun hb => (hW _ hb).l rfl
  refine ⟨⟨m, ⟨oL, es, ep, k _ _ nL gL, rL⟩, l⟩, fun x hx => ?_, fun a o e => (R.own a o e).mono fun ob => k a ob fun hb => ?_, fun a o e => ⟨(R.apart a o e).1, ?_, (R.apart a o e).2.2⟩, fun b o e => ?_, ?_, fun hf x c hx hc => ?_, R.clD⟩
  · refine el2_3 (R.cl x hx) ?_
    intro c v a1 a2 a3
    refine el1_2 a2 ?_
    try clear a2
    intro oc a2 a4
    exact ⟨c, v, a1, ⟨oc, k _ _ (fun hb => (hW _ hb).c x c hx a1 rfl) a2, a4⟩, a3⟩
  · rw [(hW a hb).h] at e; exact nsE e
  · unfold gd; rw [if_neg]; exact (R.apart a o e).2.1
    intro hb; rw [(hW a hb).h] at e; exact nsE e
  · unfold gd at e
    by_cases q : b ∈ W
    · rw [if_pos q] at e; exact e
    · rw [if_neg q] at e; exact k _ _ q (R.keep b o e)
  · unfold gd; rw [if_neg nL]; exact R.frame
  · unfold gd; rw [if_neg]; exact R.clB hf x c hx hc
    intro hb; exact (hW c hb).c x c hx hc rfl

theorem Rep.gd_off (R : Rep w (gd B W h) env h' loc H) (hB : ∀ b ∈ W, B b = none) (hs : ∀ b ∈ W, ∃ o, h.get? b = some o) (hc : ∀ b ∈ W, ∀ o v, h.get? b = some o → o.data ≠ .cell v) : ∀ b ∈ W, Off B env H b := fun b hb => by
  refine el1_1 (hs b hb) ?_
  intro o ho
  have e : gd B W h b = some o := by unfold gd; rw [if_pos hb]; exact ho
  refine ⟨?_, fun z => ?_, fun x c hx hcc z => ?_, hB b hb⟩
  · cases q : H b with
    | none => rfl
    | some y => rw [(R.apart _ _ q).2.1] at e; exact nsE e
  · subst z; rw [R.frame] at e; exact nsE e
  · refine el2_3 (R.cl x hx) ?_
    intro c' v a1 a2 _
    rw [hcc] at a1; (have hE0 := Option.some.inj a1; subst hE0; clear a1); subst z
    have := R.keep _ _ e
    refine el1_2 a2 ?_
    try clear a2
    intro oc a2 a4
    rw [a2] at this; (have hE0 := Option.some.inj this; subst hE0; clear this)
    exact hc _ hb _ v ho a4

theorem Rep.gd_out (R : Rep w (gd B W h) env h' loc H) (hB : ∀ b ∈ W, B b = none) : Rep w B env h' loc H := by
  refine ⟨R.ns, R.cl, R.own, fun a o e => ⟨(R.apart a o e).1, ?_, (R.apart a o e).2.2⟩, fun b o e => R.keep b o ?_, ?_, fun hf x c hx hc => ?_, R.clD⟩
  · have := (R.apart a o e).2.1
    unfold gd at this
    by_cases q : a ∈ W
    · exact hB a q
    · rw [if_neg q] at this; exact this
  · unfold gd; rw [if_neg]; exact e
    intro hb; rw [hB b hb] at e; exact nsE e
  · have := R.frame
    unfold gd at this
    by_cases q : env.locals ∈ W
    · exact hB _ q
    · rw [if_neg q] at this; exact this
  · have := R.clB hf x c hx hc
    unfold gd at this
    by_cases q : c ∈ W
    · exact hB _ q
    · rw [if_neg q] at this; exact this

theorem Rep.gd_get (R : Rep w (gd B W h) env h' loc H) {b : Addr} (hb : b ∈ W) {o : Obj} (e : h.get? b = some o) : h'.get? b = some o := R.keep b o (by unfold gd; rw [if_pos hb]; exact e)
end

section
variable {ad : Ads} {w : World} {sc : Scope} {d : Nat} {loc : Loc} {H : AH}

/-! ### assigning to a target -/
noncomputable def AT (ad : Ads) (w : World) (sc : Scope) (d : Nat) (t : Expr) (v : AV) (loc : Loc) (H : AH) (Q : Loc → AH → Prop) : Prop :=
  ∀ vv, absV vv = v → St ad w sc d (fun env => assign t env vv) loc H Q
theorem AT.name {x : Str} {pos : Pos} {v : AV} {Q : Loc → AH → Prop} (hk : sc.names.lookup x = some .local) (q : Q (Loc.set loc x v) H) : AT ad w sc d (.Name x pos) v loc H Q := by
  intro vv hv A B env s r g e R
  subst hv
  exact wpAny_assign_Name (St.name (v := vv) hk q A B env s r g e R)
theorem AT.name_cell {x : Str} {pos : Pos} {v : AV} {Q : Loc → AH → Prop} (hk : sc.names.lookup x = some .cell) (hfn : (sc.names.lookup (".0" : Str)).isNone = true) (q : Q (Loc.set loc x v) H) : AT ad w sc d (.Name x pos) v loc H Q := by
  intro vv hv A B env s r g e R
  subst hv
  exact wpAny_assign_Name (St.cell (v := vv) hk hfn q A B env s r g e R)
theorem AT.sub {o i : Expr} {pos : Pos} {v : AV} {Q : Loc → AH → Prop} (h : EV ad w sc d absV (eval o) loc H (fun ov H2 => EV ad w sc d absV (eval i) loc H2 (fun iv H3 => SetT ad w sc d ov iv v loc H3 (fun H4 => Q loc H4)))) :
    AT ad w sc d (.Subscript o i pos) v loc H Q := by
  intro vv hv A B env s r g e R
  refine hideS fun PZ pz => ?_
  subst hv
  show wpAny _ _ (assign (.Subscript o i pos) env vv) _ _ s
  rw [assign_Subscript]
  refine wpAny_bind (wpAny_holding (h.then r g e R fun ov h2 k2 H2 R2 q2 => wpAny_bind (wpAny_holding (q2.then r g e R2 fun iv h3 k3 H3 R3 q3 => wpAny_bind (wpAny_standAt (wpAny_bind (wpAny_holding ?_)))))))
  refine (q3 ov iv vv rfl rfl rfl).then r g e R3 fun _ h4 k4 H4 R4 q4 => ?_
  intro Γ p hΓ
  rw [Sem.wp_release]
  exact (pz _ _ _ _ _ (R4) (q4))

noncomputable def AS (ad : Ads) (w : World) (sc : Scope) (d : Nat) : List Expr → List AV → Loc → AH → (Loc → AH → Prop) → Prop
  | t :: ts, v :: vs, loc, H, Q => AT ad w sc d t v loc H (fun l H1 => AS ad w sc d ts vs l H1 Q)
  | [], [], loc, H, Q => Q loc H
  | _, _, _, _, _ => False

theorem AS.run {Q : Loc → AH → Prop} : ∀ {ts : List Expr} {us : List Value} {loc : Loc} {H : AH}, AS ad w sc d ts (us.map absV) loc H Q → (∀ t ∈ ts, ∀ x p, t ≠ .Starred x p) →
    St ad w sc d (fun env => assignInOrder ((assignEach ts env).map (·.2)) us) loc H Q
  | [], [], loc, H, h, _ => fun A B env s r g e R => wpAny_pure (fin4 (R) (h))
  | [], _ :: _, _, _, h, _ => h.elim
  | _ :: _, [], _, _, h, _ => h.elim
  | t :: ts, u :: us, loc, H, h, hn => by
    intro A B env s r g e R
    have ht : assignEach (t :: ts) env = (false, assign t env) :: assignEach ts env := by
      cases t <;> first | rfl | exact absurd rfl (hn _ (.head _) _ _)
    show wpAny _ _ (assignInOrder ((assignEach (t :: ts) env).map (·.2)) (u :: us)) _ _ s
    rw [ht]
    have h' : AT ad w sc d t (absV u) loc H (fun l H1 => AS ad w sc d ts (us.map absV) l H1 Q) := h
    refine wpAny_bind (wpAny_holding ((h' u rfl).then r g e R fun h1 k1 l1 H1 R1 q1 => ?_))
    exact (AS.run q1 fun t ht => hn t (.tail _ ht)).then r g e R1 fun h2 k2 l2 H2 R2 q2 => (fin4 (R2) (q2))

noncomputable def noStar (ts : List Expr) : Bool := ts.all fun | .Starred .. => false | _ => true
theorem noStar_of {ts : List Expr} (h : noStar ts = true) : ∀ t ∈ ts, ∀ x p, t ≠ .Starred x p := fun t ht x p e => by
  have := List.all_eq_true.mp h t ht
  subst e; exact ftE this
theorem assignEach_plain {env : Env} : ∀ {ts : List Expr}, noStar ts = true → (assignEach ts env).length = ts.length ∧ (assignEach ts env).findIdx? (·.1) = none
  | [], _ => ⟨rfl, rfl⟩
  | t :: ts, h => by
    have h' : noStar ts = true := by unfold noStar at h ⊢; rw [List.all_cons] at h; exact (Bool.and_eq_true_iff.mp h).2
    refine el0_2 (assignEach_plain (env := env) h') ?_
    intro a b
    have ht : assignEach (t :: ts) env = (false, assign t env) :: assignEach ts env := by
      cases t <;> first | rfl | exact absurd rfl (noStar_of h _ (.head _) _ _)
    rw [ht]
    refine ⟨by simp [a], ?_⟩
    rw [List.findIdx?_cons]
    simp [b]

theorem AT.tuple {elts : List Expr} {x1 : Nat} {pos : Pos} {a : Addr} {xs : List AV} {Q : Loc → AH → Prop} (ho : H a = some (.tup xs)) (hl : elts.length = xs.length) (h : AS ad w sc d elts xs loc H Q) (hn : noStar elts = true := by with_unfolding_all rfl) :
    AT ad w sc d (.Tuple elts x1 pos) (.ref a) loc H Q := by
  intro vv hv A B env s r g e R
  refine hideS fun PZ pz => ?_
  have := absV_ref hv; subst this
  refine el1_2 (R.own _ _ ho) ?_
  intro vs ht hm
  refine el0_2 (assignEach_plain (env := env) hn) ?_
  intro e1 e2
  have hlen : vs.length = xs.length := by rw [← hm, List.length_map]
  refine assign_Tuple_tuple r.1 ht (by rw [e1]; simp; (first | (simp +arith only; done) | lia | omega)) e2 fun h' he => ?_
  have R' : Rep w B env h' loc H := R.grow fun b o eb => he b o (Nat.ne_of_lt (Heap.lt_size eb)) eb
  rw [← hm] at h
  exact (AS.run h (noStar_of hn)).then r g e (s := { s with heap := h' }) R' fun h2 k2 l2 H2 R2 q2 => (pz _ _ _ _ _ (R2) (q2))

theorem SX.assign_tuple {elts : List Expr} {k : Nat} {tpos pos : Pos} {value : Expr} {Q : AF → Loc → AH → Prop}
    (h : EV ad w sc d absV (eval value) loc H (fun v H1 => AT ad w sc d (.Tuple elts k tpos) v loc H1 (Q .next)))
    (hs : ∀ env, swapsWithSole [.Tuple elts k tpos] value pos.line env = pure false := by with_unfolding_all (intro _; rfl))
    (hw : ∀ env, EnvIs sc env → swappedStores [.Tuple elts k tpos] value env = pure none := by with_unfolding_all (intro _ _; rfl)) : SX ad w sc d (exec (.Assign [.Tuple elts k tpos] value pos)) loc H Q := by
  intro A B env s r g e R
  refine hideS fun PZ pz => ?_
  refine Assign_Tuple (h.then r g e R fun v h1 k1 H1 R1 q1 => ?_) (hs env) (hw env e)
  exact (q1 v rfl).then r g e R1 fun h2 k2 l2 H2 R2 q2 => (pz _ _ _ _ _ (R2) (q2))

/-- a, b = x, y: the stores exchanged -/
theorem SX.assign_swapped {elts : List Expr} {k : Nat} {tpos pos : Pos} {value : Expr} {a b : Str} {Q : AF → Loc → AH → Prop}
    (h : EV ad w sc d absV (eval value) loc H (fun v H1 => ∃ t x y, v = .ref t ∧ H1 t = some (.tup [x, y]) ∧ Q .next (Loc.set (Loc.set loc b y) a x) H1))
    (ha : sc.names.lookup a = some .local) (hb : sc.names.lookup b = some .local)
    (hs : ∀ env, swapsWithSole [.Tuple elts k tpos] value pos.line env = pure false := by with_unfolding_all (intro _; rfl))
    (hw : ∀ env, EnvIs sc env → swappedStores [.Tuple elts k tpos] value env = pure (some [a, b])) : SX ad w sc d (exec (.Assign [.Tuple elts k tpos] value pos)) loc H Q := by
  intro A B env s r g e R
  refine hideS fun PZ pz => ?_
  refine Assign_Tuple_swapped (names := [a, b]) (h.then r g e R fun v h1 k1 H1 R1 q1 => ?_) (hs env) (hw env e)
  refine el3_3 q1 ?_
  try clear q1
  intro t x y hv ho q1
  have := absV_ref hv; subst this
  refine el1_2 (R1.own _ _ ho) ?_
  intro vs ht hm
  refine el2_3 (args2 hm) ?_
  intro vx vy hE1 hE2 hE3
  obtain rfl := hE1
  obtain rfl := hE2
  obtain rfl := hE3
  show wpAny _ _ (unpackItems (.ref t) [vx, vy].toArray.size none) _ _ _
  refine unpackItems_tuple r.1 ht fun h' he => ?_
  show wpAny _ _ (holding [vx] (bindName env b vy) >>= fun _ => holding [] (bindName env a vx) >>= fun _ => pure ()) _ _ _
  have R' : Rep w B env h' loc H1 := R1.grow fun b o eb => he b o (Nat.ne_of_lt (Heap.lt_size eb)) eb
  refine wpAny_bind (wpAny_holding ?_)
  have st1 := St.name (ad := ad) (w := w) (sc := sc) (d := d) (loc := loc) (H := H1) (v := vy) (Q := fun l H3 => l = Loc.set loc b (absV vy) ∧ H3 = H1) hb ⟨rfl, rfl⟩
  refine wpAny_bindName (st1.then r g e (s := { s with heap := h', toks := k1 }) R' fun h2 k2 l2 H2 R2 q2 => ?_)
  refine el0_2 q2 ?_
  try clear q2
  intro hE1 hE2
  obtain rfl := hE1
  obtain rfl := hE2
  refine wpAny_bind (wpAny_holding ?_)
  have st2 := St.name (ad := ad) (w := w) (sc := sc) (d := d) (loc := Loc.set loc b (absV vy)) (H := H2) (v := vx) (Q := fun l H3 => l = Loc.set (Loc.set loc b (absV vy)) a (absV vx) ∧ H3 = H2) ha ⟨rfl, rfl⟩
  refine wpAny_bindName (st2.then r g e (s := { s with heap := h2, toks := k2 }) R2 fun h3 k3 l3 H3 R3 q3 => ?_)
  refine el0_2 q3 ?_
  try clear q3
  intro hE1 hE2
  obtain rfl := hE1
  obtain rfl := hE2
  exact wpAny_pure (pz _ _ _ _ _ (R3) (q1))
end


theorem gd_same {B : PH} {W : List Addr} {h h' : Heap} (e : ∀ b ∈ W, h.get? b = h'.get? b) : gd B W h = gd B W h' := by
  funext b
  unfold gd
  by_cases q : b ∈ W
  · rw [if_pos q, if_pos q, e b q]
  · rw [if_neg q, if_neg q]

noncomputable def LoopPost (N : Loc → AH → Prop) (Q : AF → Loc → AH → Prop) : AF → Loc → AH → Prop
  | .next, l, H => N l H
  | .cont, l, H => N l H
  | .brk, l, H => Q .next l H
  | .ret v, l, H => Q (.ret v) l H

section
variable {ad : Ads} {w : World} {sc : Scope} {d : Nat} {loc : Loc} {H : AH}

/-- what guards a loop's iterator -/
structure Guarded (B : PH) (W : List Addr) (h : Heap) : Prop where
  b : ∀ b ∈ W, B b = none
  s : ∀ b ∈ W, ∃ o, h.get? b = some o
  c : ∀ b ∈ W, ∀ o v, h.get? b = some o → o.data ≠ .cell v

theorem Guarded.keeps {B : PH} {W : List Addr} {h h' : Heap} (g : Guarded B W h) (e : ∀ b ∈ W, h.get? b = h'.get? b) : Guarded B W h' :=
  ⟨g.b, fun b hb => by rw [← e b hb]; exact g.s b hb, fun b hb o v => by rw [← e b hb]; exact g.c b hb o v⟩

theorem Rep.gd_eq {B : PH} {W : List Addr} {env : Env} {h h' : Heap} (g : Guarded B W h) (R : Rep w (gd B W h) env h' loc H) : ∀ b ∈ W, h.get? b = h'.get? b := fun b hb => by
  refine el1_1 (g.s b hb) ?_
  intro o ho
  rw [ho, R.gd_get hb ho]
theorem Rep.gd_move {B : PH} {W : List Addr} {env : Env} {h h' : Heap} (g : Guarded B W h) (R : Rep w (gd B W h) env h' loc H) : Rep w (gd B W h') env h' loc H ∧ Guarded B W h' := by
  have e := Rep.gd_eq g R
  exact ⟨by rw [← gd_same e]; exact R, g.keeps e⟩
/-- the iterator has moved -/
theorem Rep.gd_next {B : PH} {W : List Addr} {env : Env} {h h' : Heap} (g : Guarded B W h) (R : Rep w (gd B W h) env h loc H) (k : ∀ b o, b ∉ W → h.get? b = some o → h'.get? b = some o) : Rep w (gd B W h') env h' loc H :=
  (R.gd_out g.b).gd_in (R.gd_off g.b g.s g.c) k
theorem Rep.gd_end {B : PH} {W : List Addr} {env : Env} {h h' : Heap} (g : Guarded B W h) (R : Rep w (gd B W h) env h loc H) (k : ∀ b o, b ∉ W → h.get? b = some o → h'.get? b = some o) : Rep w B env h' loc H :=
  (Rep.gd_next g R k).gd_out g.b

/-- behind the item: the store and the body -/
theorem turn_body {target : Expr} {body : List Stmt} {x : AV} {v : Value} {N : Loc → AH → Prop} {Q : AF → Loc → AH → Prop} {A : Around} {B : PH} {W : List Addr} {env : Env} {s : Shared} {K : Flow → Shared → Prop} {E : Value → Shared → Prop}
    (r : Room A d) (g : Gx ad w B) (e : EnvIs sc env) (gw : Guarded B W s.heap) (R : Rep w (gd B W s.heap) env s.heap loc H) (hv : absV v = x)
    (h : AT ad w sc d target x loc H (fun l2 H2 => SX ad w sc d (execs body) l2 H2 (LoopPost N Q)))
    (kn : ∀ h' k' l' H', Rep w (gd B W h') env h' l' H' → Guarded B W h' → (∀ b ∈ W, s.heap.get? b = h'.get? b) → N l' H' → K .next { s with heap := h', toks := k' } ∧ K .cont { s with heap := h', toks := k' })
    (kq : ∀ f h' k' l' H', Rep w B env h' l' H' → Q (absF f) l' H' → (f = .next → K .brk { s with heap := h', toks := k' }) ∧ (∀ u, f = .ret u → K (.ret u) { s with heap := h', toks := k' })) :
    wpAny (model prog w) A (assign target env v) (fun _ s2 => wpAny (model prog w) A (execs body env) K E s2) E s := by
  have g' := gd_gx (h := s.heap) g gw.b
  refine (h v hv).then r g' e R fun h2 k2 l2 H2 R2 q2 => ?_
  refine SX.then q2 r g' e R2 fun f h3 k3 l3 H3 R3 q3 => ?_
  have e3 := Rep.gd_eq gw R3
  cases f with
  | next => exact (kn h3 k3 l3 H3 (Rep.gd_move gw R3).1 (gw.keeps e3) e3 q3).1
  | cont => exact (kn h3 k3 l3 H3 (Rep.gd_move gw R3).1 (gw.keeps e3) e3 q3).2
  | brk => exact (kq .next h3 k3 l3 H3 (R3.gd_out gw.b) q3).1 rfl
  | ret u => exact (kq (.ret u) h3 k3 l3 H3 (R3.gd_out gw.b) q3).2 u rfl

theorem guard_iter {B : PH} {env : Env} {h : Heap} (R : Rep w B env h loc H) (o : Obj) (hf : o.isFreed = false) (hc : ∀ v, o.data ≠ .cell v) :
    Guarded B [h.objs.size] (h.push o) ∧ Rep w (gd B [h.objs.size] (h.push o)) env (h.push o) loc H := by
  have hg := Heap.get?_push_size h hf
  have off := R.off (Nat.le_refl _)
  refine ⟨⟨fun b hb => ?_, fun b hb => ?_, fun b hb o' v eo => ?_⟩, R.gd_in (fun b hb => ?_) fun b o' _ eb => Heap.get?_push_of_some _ eb⟩
  · have := List.mem_singleton.mp hb; subst this; exact off.b
  · have := List.mem_singleton.mp hb; subst this; exact ⟨o, hg⟩
  · have := List.mem_singleton.mp hb; subst this; rw [hg] at eo; (have hE0 := Option.some.inj eo; subst hE0; clear eo); exact hc v
  · have := List.mem_singleton.mp hb; subst this; exact off

theorem not_one {b c : Addr} (h : b ∉ [c]) : b ≠ c := fun e => h (e ▸ List.mem_singleton.mpr rfl)

theorem let_go {target : Expr} {r : Addr} {v : Value} {o : Obj} {n : String} {A : Around} {E : Value → Shared → Prop} {s : Shared} {Q : Unit → Shared → Prop} (ho : s.heap.get? r = some o) (hc : o.cls = .type n)
    (hn : ["enumerate", "zip", "dict_itemiterator", "dict_reverseitemiterator", "odict_iterator", "itertools.zip_longest", "itertools.pairwise"].contains n = false) (q : Q () s) :
    wpAny (model prog w) A (letOwnedTupleGo target (.ref r) v) Q E s := by
  have key : ∀ a : Addr, wpAny (model prog w) A (do
      let o ← load r
      match o.cls, o.data with
      | .type n, .fields vs =>
        if ["enumerate", "zip", "dict_itemiterator", "dict_reverseitemiterator", "odict_iterator", "itertools.zip_longest", "itertools.pairwise"].contains n && vs[0]? == some (rawInt a) then
          rule "for.unpacks-the-owned-tuple"
          updateField r 0 .none
      | _, _ => pure ()) Q E s := by
    intro a
    refine wpAny_bind (wpAny_load ho ?_)
    rw [hc]
    cases hd : o.data <;> first | exact wpAny_pure q | (simp only [hn, Bool.false_and, Bool.false_eq_true, if_false]; exact wpAny_pure q)
  unfold letOwnedTupleGo
  cases target <;> first | exact wpAny_pure q | skip
  all_goals (cases v <;> first | exact wpAny_pure q | exact key _)

theorem guard_one {B : PH} {a : Addr} {h : Heap} {o : Obj} (gb : ∀ b ∈ [a], B b = none) (ho : h.get? a = some o) (hc : ∀ v, o.data ≠ .cell v) : Guarded B [a] h :=
  ⟨gb, fun b hb => by rw [List.mem_singleton.mp hb]; exact ⟨_, ho⟩, fun b hb o' v eo => by rw [List.mem_singleton.mp hb, ho] at eo; (have hE0 := Option.some.inj eo; subst hE0; clear eo); exact hc v⟩

/-- a loop over an iterator: what a turn's item brings, once for all -/
theorem for_core {target : Expr} {body : List Stmt} {it : Value} {W : List Addr} {n : Nat} {J : Heap → Nat → Prop} {I : Nat → Loc → AH → Prop} {Q : AF → Loc → AH → Prop} {A : Around} {B : PH} {env : Env} {s : Shared} {RR : Result → Shared → Prop}
    (r : Room A d) (g : Gx ad w B) (e : EnvIs sc env) (R0 : Rep w (gd B W s.heap) env s.heap loc H) (gw0 : Guarded B W s.heap) (j0 : J s.heap 0) (i0 : I 0 loc H)
    (jm : ∀ h h' i, J h i → (∀ b ∈ W, h.get? b = h'.get? b) → J h' i)
    (item : ∀ i l (s : Shared) H2 (K : Option Value → Shared → Prop) (E : Value → Shared → Prop), i < n → Rep w (gd B W s.heap) env s.heap l H2 → Guarded B W s.heap → J s.heap i → I i l H2 →
      (∀ v h3 k3, (∀ (KV : Unit → Shared → Prop) (E : Value → Shared → Prop), (∀ h4 H3, Rep w (gd B W h4) env h4 l H3 → Guarded B W h4 → J h4 (i + 1) → AT ad w sc d target (absV v) l H3 (fun l2 H2 => SX ad w sc d (execs body) l2 H2 (LoopPost (I (i + 1)) Q)) → KV () { s with heap := h4, toks := k3 }) →
        wpAny (model prog w) A (letOwnedTupleGo target it v) KV E { s with heap := h3, toks := k3 }) → K (some v) { s with heap := h3, toks := k3 }) →
      wpAny (model prog w) A (pyNext it) K E s)
    (last : ∀ l (s : Shared) H2 (K : Option Value → Shared → Prop) (E : Value → Shared → Prop), Rep w (gd B W s.heap) env s.heap l H2 → Guarded B W s.heap → J s.heap n → I n l H2 →
      (∀ h3, Rep w B env h3 l H2 → K none { s with heap := h3 }) → wpAny (model prog w) A (pyNext it) K E s)
    (fin : ∀ l H1, I n l H1 → Q .next l H1)
    (post : ∀ f h' k' l' H', Rep w B env h' l' H' → Q (absF f) l' H' → RR (.ok f) { s with heap := h', toks := k' }) :
    codeAny (model prog w) A (.forLoop target it body [] env) RR s := by
  refine codeAny_forLoop_any (fun m s' => ∃ i l H2 h2 k2, m = n - i ∧ i ≤ n ∧ s' = { s with heap := h2, toks := k2 } ∧ Rep w (gd B W h2) env h2 l H2 ∧ Guarded B W h2 ∧ J h2 i ∧ I i l H2)
    (fun m s' hI => ?_) (n - 0) ⟨0, loc, H, s.heap, s.toks, rfl, Nat.zero_le _, rfl, R0, gw0, j0, i0⟩
  refine hide fun P0 k0 => ?_
  refine el5_7 hI ?_
  try clear hI
  intro i l H2 h2 k2 hE1 hi hE2 R2 gw2 it2 iv
  obtain rfl := hE1
  obtain rfl := hE2
  refine k0 ?_
  clear k0 P0
  rcases Nat.lt_or_eq_of_le hi with hlt | hie
  · refine item i l { s with heap := h2, toks := k2 } H2 _ _ hlt R2 gw2 it2 iv fun v h3 k3 go => ?_
    refine go _ _ fun h4 H3 R3 gw3 it3 turn => ?_
    refine turn_body (s := { s with heap := h4, toks := k3 }) r g e gw3 R3 rfl turn (fun h5 k5 l5 H5 R5 gw5 e5 q5 => ?_) fun f h5 k5 l5 H5 R5 q5 => ⟨fun hf => ?_, fun u hf => ?_⟩
    · have st : ∃ m, m < n - i ∧ ∃ i l H2 h2 k2, m = n - i ∧ i ≤ n ∧ ({ s with heap := h5, toks := k5 } : Shared) = { s with heap := h2, toks := k2 } ∧ Rep w (gd B W h2) env h2 l H2 ∧ Guarded B W h2 ∧ J h2 i ∧ I i l H2 :=
        ⟨n - (i + 1), Nat.sub_lt_sub_left hlt (Nat.lt_succ_self i), i + 1, l5, H5, h5, k5, rfl, hlt, rfl, R5, gw5, jm _ _ _ it3 e5, q5⟩
      exact ⟨st, st⟩
    · subst hf; exact post _ _ _ _ _ R5 q5
    · subst hf; exact post _ _ _ _ _ R5 q5
  · subst hie
    exact last l { s with heap := h2, toks := k2 } H2 _ _ R2 gw2 it2 iv fun h3 R3 => wpAny_execs_nil (post .next h3 k2 l H2 R3 (fin l H2 iv))

theorem SX.for_list {target iter : Expr} {body : List Stmt} {pos : Pos} {Q : AF → Loc → AH → Prop}
    (h : EV ad w sc d absV (eval iter) loc H (fun v H0 => ∃ (a : Addr) (xs : List AV) (I : Nat → Loc → AH → Prop), v = .ref a ∧ I 0 loc H0 ∧ (∀ i l H1, I i l H1 → H1 a = some (.list xs)) ∧
      (∀ i x l H1, xs[i]? = some x → I i l H1 → AT ad w sc d target x l H1 (fun l2 H2 => SX ad w sc d (execs body) l2 H2 (LoopPost (I (i + 1)) Q))) ∧ (∀ l H1, I xs.length l H1 → Q .next l H1)))
    (hs : ∀ env x, foldedSetIterable iter env x = pure x := by with_unfolding_all (intro _ _; rfl)) :
    SX ad w sc d (exec (.For target iter body [] pos)) loc H Q := by
  intro A B env s r g e R
  refine wpAny_For (h.then r g e R fun v h1 k1 H1 R1 q1 => ?_) (hs env)
  refine hide fun P0 k0 => ?_
  refine el3_5 q1 ?_
  try clear q1
  intro a xs I hv i0 ia turn fin
  refine el1_2 (R1.own _ _ (ia _ _ _ i0)) ?_
  intro vs0 hl0 hm0
  refine el0_2 (guard_iter R1 { cls := .type "list_iterator", data := .fields #[.ref a, .int 0 0] } rfl (fun v q => by cases q)) ?_
  intro gw0 R0
  refine k0 ?_
  clear k0 P0
  rw [absV_ref hv]
  refine wpAny_pyIter_list hl0.isList ?_
  refine for_core (J := fun h i => h.IsListIter h1.objs.size a i) r g e R0 gw0 ⟨_, Heap.get?_push_size _ rfl, rfl, rfl⟩ i0 (fun h h' i j em => j.at fun o q => (em _ (List.mem_singleton.mpr rfl)).symm.trans q)
    (fun i l s H2 K E hlt R2 gw2 it2 iv k => ?_) (fun l s H2 K E R2 gw2 it2 iv k => ?_) fin fun f h' k' l' H' R' q' => fin4 R' q'
  · refine el1_2 (R2.own _ _ (ia _ _ _ iv)) ?_
    intro vs hl hm
    refine el1_2 (getElem?_map_abs hm (List.getElem?_eq_getElem hlt)) ?_
    intro v hvv hav
    refine wpAny_pyNext_list_item it2 hl.isList (by simpa using hvv) fun h3 it3 sb => k v h3 _ fun KV E kv => ?_
    have k3 : ∀ b o, b ∉ [h1.objs.size] → s.heap.get? b = some o → h3.get? b = some o := fun b o hb eb => (sb.2 b (not_one hb)).trans eb
    refine el1_3 (id it3) ?_
    intro oit hoit hcit hdit
    exact let_go hoit hcit (by decide) (kv h3 H2 (Rep.gd_next gw2 R2 k3) (guard_one gw2.b hoit (by rw [hdit]; intro v q; cases q)) it3 (hav ▸ turn i _ l H2 (List.getElem?_eq_getElem hlt) iv))
  · refine el1_2 (R2.own _ _ (ia _ _ _ iv)) ?_
    intro vs hl hm
    exact wpAny_pyNext_list_end r.1 it2 hl.isList (by rw [← hm]; simp) fun h3 eb => k h3 (Rep.gd_end gw2 R2 fun b o hb q => eb b o (not_one hb) q)

theorem SX.for_tup {target iter : Expr} {body : List Stmt} {pos : Pos} {Q : AF → Loc → AH → Prop}
    (h : EV ad w sc d absV (eval iter) loc H (fun v H0 => ∃ (a : Addr) (xs : List AV) (I : Nat → Loc → AH → Prop), v = .ref a ∧ I 0 loc H0 ∧ (∀ i l H1, I i l H1 → H1 a = some (.tup xs)) ∧
      (∀ i x l H1, xs[i]? = some x → I i l H1 → AT ad w sc d target x l H1 (fun l2 H2 => SX ad w sc d (execs body) l2 H2 (LoopPost (I (i + 1)) Q))) ∧ (∀ l H1, I xs.length l H1 → Q .next l H1)))
    (hs : ∀ env x, foldedSetIterable iter env x = pure x := by with_unfolding_all (intro _ _; rfl)) :
    SX ad w sc d (exec (.For target iter body [] pos)) loc H Q := by
  intro A B env s r g e R
  refine wpAny_For (h.then r g e R fun v h1 k1 H1 R1 q1 => ?_) (hs env)
  refine hide fun P0 k0 => ?_
  refine el3_5 q1 ?_
  try clear q1
  intro a xs I hv i0 ia turn fin
  refine el1_2 (R1.own _ _ (ia _ _ _ i0)) ?_
  intro vs0 hl0 hm0
  refine el0_2 (guard_iter R1 { cls := .type "tuple_iterator", data := .fields #[.ref a, .int 0 0] } rfl (fun v q => by cases q)) ?_
  intro gw0 R0
  refine k0 ?_
  clear k0 P0
  rw [absV_ref hv]
  refine wpAny_pyIter_tuple hl0 ?_
  refine for_core (J := fun h i => h.IsTupleIter h1.objs.size a i) r g e R0 gw0 ⟨_, Heap.get?_push_size _ rfl, rfl, rfl⟩ i0 (fun h h' i ⟨o, j1, j2⟩ em => ⟨o, (em _ (List.mem_singleton.mpr rfl)).symm.trans j1, j2⟩)
    (fun i l s H2 K E hlt R2 gw2 it2 iv k => ?_) (fun l s H2 K E R2 gw2 it2 iv k => ?_) fin fun f h' k' l' H' R' q' => fin4 R' q'
  · refine el1_2 (R2.own _ _ (ia _ _ _ iv)) ?_
    intro vs hl hm
    refine el1_2 (getElem?_map_abs hm (List.getElem?_eq_getElem hlt)) ?_
    intro v hvv hav
    refine wpAny_pyNext_tuple_item it2 hl (by simpa using hvv) fun h3 it3 sb => k v h3 _ fun KV E kv => ?_
    have k3 : ∀ b o, b ∉ [h1.objs.size] → s.heap.get? b = some o → h3.get? b = some o := fun b o hb eb => (sb.2 b (not_one hb)).trans eb
    refine el1_3 (id it3) ?_
    intro oit hoit hcit hdit
    exact let_go hoit hcit (by decide) (kv h3 H2 (Rep.gd_next gw2 R2 k3) (guard_one gw2.b hoit (by rw [hdit]; intro v q; cases q)) it3 (hav ▸ turn i _ l H2 (List.getElem?_eq_getElem hlt) iv))
  · refine el1_2 (R2.own _ _ (ia _ _ _ iv)) ?_
    intro vs hl hm
    exact wpAny_pyNext_tuple_end r.1 it2 hl (by rw [← hm]; simp) fun h3 eb => k h3 (Rep.gd_end gw2 R2 fun b o hb q => eb b o (not_one hb) q)

/-! ### while -/
theorem SX.while {test : Expr} {body : List Stmt} {pos : Pos} {Q : AF → Loc → AH → Prop} (I : Nat → Loc → AH → Prop) (n : Nat) (i0 : I n loc H)
    (turn : ∀ n l H1, I n l H1 → EV ad w sc d id (IT test) l H1 (fun c H2 => (c = true → SX ad w sc d (execs body) l H2 (LoopPost (fun l3 H3 => ∃ m, m < n ∧ I m l3 H3) Q)) ∧ (c = false → Q .next l H2))) :
    SX ad w sc d (exec (.While test body [] pos)) loc H Q := by
  intro A B env s r g e R
  refine hideS fun PZ pz => ?_
  refine wpAny_While (codeAny_whileLoop (fun n s' => ∃ l H2 h2 k2, s' = { s with heap := h2, toks := k2 } ∧ Rep w B env h2 l H2 ∧ I n l H2) (fun n s' hI => ?_) n ⟨loc, H, s.heap, s.toks, rfl, R, i0⟩)
  refine el4_3 hI ?_
  try clear hI
  intro l H2 h2 k2 hE1 R2 iv
  obtain rfl := hE1
  refine (turn n l H2 iv).then r g e R2 fun c h3 k3 H3 R3 q3 => ?_
  cases c with
  | true =>
    simp only [if_true]
    refine (q3.1 rfl).then r g e R3 fun f h4 k4 l4 H4 R4 q4 => ?_
    cases f with
    | next => obtain ⟨m, hm, q4⟩ := q4; exact ⟨m, hm, l4, H4, h4, k4, rfl, R4, q4⟩
    | cont => obtain ⟨m, hm, q4⟩ := q4; exact ⟨m, hm, l4, H4, h4, k4, rfl, R4, q4⟩
    | brk => exact (pz _ _ _ _ _ (R4) (q4))
    | ret u => exact (pz _ _ _ _ _ (R4) (q4))
  | false =>
    simp only [Bool.false_eq_true, if_false]
    exact wpAny_execs_nil (pz _ _ _ _ _ (R3) (q3.2 rfl))
/-- what a turn must bring -/
structure LP (I : Loc → AH → Prop) (Q N : AF → Loc → AH → Prop) : Prop where
  nx : ∀ l H, I l H → N .next l H
  co : ∀ l H, I l H → N .cont l H
  br : ∀ l H, Q .next l H → N .brk l H
  rt : ∀ v l H, Q (.ret v) l H → N (.ret v) l H
theorem LP.post {I : Loc → AH → Prop} {Q : AF → Loc → AH → Prop} : LP I Q (LoopPost I Q) := ⟨fun _ _ h => h, fun _ _ h => h, fun _ _ h => h, fun _ _ _ h => h⟩
theorem SX.for_list' {target iter : Expr} {body : List Stmt} {pos : Pos} {Q : AF → Loc → AH → Prop}
    (h : EV ad w sc d absV (eval iter) loc H (fun v H0 => ∃ (a : Addr) (xs : List AV) (I : Nat → Loc → AH → Prop), v = .ref a ∧ I 0 loc H0 ∧ (∀ i l H1, I i l H1 → H1 a = some (.list xs)) ∧
      (∀ i x l H1 N, xs[i]? = some x → I i l H1 → LP (I (i + 1)) Q N → AT ad w sc d target x l H1 (fun l2 H2 => SX ad w sc d (execs body) l2 H2 N)) ∧ (∀ l H1, I xs.length l H1 → Q .next l H1)))
    (hs : ∀ env x, foldedSetIterable iter env x = pure x := by with_unfolding_all (intro _ _; rfl)) :
    SX ad w sc d (exec (.For target iter body [] pos)) loc H Q :=
  SX.for_list (h.mono fun v H0 => Exists.imp fun a => Exists.imp fun xs => Exists.imp fun I => And.imp_right (And.imp_right (And.imp_right (And.imp_left fun turn i x l H1 hx hI => turn i x l H1 _ hx hI .post)))) hs
theorem SX.while' {test : Expr} {body : List Stmt} {pos : Pos} {Q : AF → Loc → AH → Prop} (I : Nat → Loc → AH → Prop) (n : Nat) (i0 : I n loc H)
    (turn : ∀ n l H1 N, I n l H1 → LP (fun l3 H3 => ∃ m, m < n ∧ I m l3 H3) Q N → EV ad w sc d id (IT test) l H1 (fun c H2 => (c = true → SX ad w sc d (execs body) l H2 N) ∧ (c = false → Q .next l H2))) :
    SX ad w sc d (exec (.While test body [] pos)) loc H Q :=
  SX.while I n i0 fun n l H1 hI => turn n l H1 _ hI .post
end


noncomputable def Loc.bind : List Str → List AV → Loc → Loc
  | n :: ns, v :: vs, l => Loc.bind ns vs (Loc.set l n v)
  | _, _, l => l

theorem bind_loc {kind : Str → Option NameKind} : ∀ (ns : List Str) (vs : List Value) (m cm : Str → Option Value) (l : Loc), (∀ x, kind x = some .local → (m x).map absV = l x) → (∀ x, kind x = some .cell → (cm x).map absV = l x) →
    (∀ n ∈ ns, kind n = some .local ∨ kind n = some .cell) →
    (∀ x, kind x = some .local → (bindL kind (ns.zip vs) m x).map absV = Loc.bind ns (vs.map absV) l x) ∧ (∀ x, kind x = some .cell → (bindC kind (ns.zip vs) cm x).map absV = Loc.bind ns (vs.map absV) l x)
  | [], _, _, _, _, a, b, _ => ⟨a, b⟩
  | _ :: _, [], _, _, _, a, b, _ => ⟨a, b⟩
  | n :: ns, v :: vs, m, cm, l, a, b, c => by
    refine bind_loc ns vs _ _ _ (fun x hx => ?_) (fun x hx => ?_) fun k hk => c k (.tail _ hk)
    · unfold Loc.set
      by_cases q : x = n
      · subst q; rw [if_pos hx]; simp
      · rw [if_neg q]
        split
        · show (if x = n then some v else m x).map absV = _
          rw [if_neg q]; exact a x hx
        · exact a x hx
    · unfold Loc.set
      by_cases q : x = n
      · subst q; rw [if_neg (by rw [hx]; intro z; cases z)]; simp
      · rw [if_neg q]
        split
        · exact b x hx
        · show (if x = n then some v else cm x).map absV = _
          rw [if_neg q]; exact b x hx

section
variable {ad : Ads} {w : World} {sc : Scope} {d : Nat} {loc : Loc} {H : AH}

theorem Rep.enter {B : PH} {env0 : Env} {s s' : Shared} {fd : FuncData} {a : Addr} {ns : List Str} {vs : List Value} (R : Rep w B env0 s.heap loc H)
    (hns : ∀ n ∈ ns, fd.scope.names.lookup n = some .local ∨ fd.scope.names.lookup n = some .cell)
    (x : InCallC s (callEnvC fd s.heap.objs.size a).locals (bindL (callEnvC fd s.heap.objs.size a).kindOf (ns.zip vs) fun _ => none) (callEnvC fd s.heap.objs.size a).cells
        (bindC (callEnvC fd s.heap.objs.size a).kindOf (ns.zip vs) fun _ => none) s') :
    Rep w (hideH H s.heap) (callEnvC fd s.heap.objs.size a) s'.heap (Loc.bind ns (vs.map absV) Loc.nil) H := by
  have hk := x.toInCall.keep
  refine el0_2 (bind_loc (kind := (callEnvC fd s.heap.objs.size a).kindOf) ns vs (fun _ => none) (fun _ => none) Loc.nil (fun _ _ => rfl) (fun _ _ => rfl) hns) ?_
  intro b1 b2
  have noB : ∀ c, s.heap.objs.size ≤ c → hideH H s.heap c = none := fun c hc => by
    cases q : hideH H s.heap c with
    | none => rfl
    | some o => exact absurd (Heap.lt_size (hideH_some q).1) (Nat.not_lt.mpr hc)
  refine ⟨⟨_, x.toInCall.ns, b1⟩, fun y hy => ?_, fun b o e => (R.own b o e).mono fun ob => hk b ob, fun b o e => ⟨?_, hideH_none e, fun y c hy hc z => ?_⟩, fun b o e => hk b o (hideH_some e).1, noB _ (Nat.le_refl _), fun _ y c hy hc => noB c (Nat.le_of_lt (x.above y c (mem_of_lookup hc))), fun y z c hy hz h1 h2 => name_of_addr x.apart (mem_of_lookup h1) (mem_of_lookup h2)⟩
  · refine el1_1 (Option.isSome_iff_exists.mp (cellsFrom_some fd.scope.names (s.heap.objs.size + 1) [] (.inl hy))) ?_
    intro c hc
    exact in2_3 c _ hc (x.cell y c hc) (b2 y hy)
  · exact Nat.ne_of_lt (R.own b o e).lt
  · subst z
    exact absurd (R.own c o e).lt (Nat.not_lt.mpr (Nat.le_of_lt (x.above y c (mem_of_lookup hc))))

noncomputable def pnames (p : Arguments) : List Str := p.args.map (·.arg)
noncomputable def kindsOK (ns : List Str) (sc : Scope) : Bool := ns.all fun y => sc.names.lookup y == some .local || sc.names.lookup y == some .cell

/-- the code of a def of the text's -/
theorem code_fn {A : Around} {B : PH} {env0 : Env} {s : Shared} {loc0 : Loc} {fa : Addr} {o : Obj} {fd : FuncData} {body : List Stmt} {ns : List Str} {vs : List Value} {R : Result → Shared → Prop} {Q : AV → AH → Prop}
    (r : Room A (d + 1)) (g : Gx ad w B) (Rp : Rep w B env0 s.heap loc0 H) (ho : B fa = some o) (hd : o.data = .func fd) (hcd : CodeB B fd.code fd.qualname) (hbody : fd.body = .stmts body)
    (hg : fd.globals = mainGlobals) (hb : fd.builtins = builtinsNs) (hclo : fd.closure = []) (hbind : bindArgs fd ⟨vs, []⟩ = pure (ns.zip vs)) (hns : kindsOK ns fd.scope = true)
    (h : SX ad w fd.scope d (execs body) (Loc.bind ns (vs.map absV) Loc.nil) H (fun f _ H1 => Q (match f with | .ret v => v | _ => .none) H1))
    (k : ∀ v h' k' H', Rep w B env0 h' loc0 H' → Q (absV v) H' → R (.ok (.ret v)) { s with heap := h', toks := k' })
    (hco : fd.scope.isCoroutine = false) (hgen : fd.scope.isGenerator = false) (hk : fd.scope.kind = .function) : codeAny (model prog w) A (.call (.ref fa) ⟨vs, []⟩) R s := by
  have hns' : ∀ n ∈ ns, fd.scope.names.lookup n = some .local ∨ fd.scope.names.lookup n = some .cell := fun n hn => by
    have := List.all_eq_true.mp hns n hn
    rcases Bool.or_eq_true_iff.mp this with q | q
    · exact .inl (by simpa using q)
    · exact .inr (by simpa using q)
  refine el1_2 g.lim ?_
  intro mc hc he
  refine codeAny_call_cells (binds := ns.zip vs) r.depth (Rp.keep _ _ ho) hd ⟨mc, hc.ns Rp.keep, he⟩ (hcd.rec Rp.keep) hbody hbind hclo (fun x hx => ?_) (fun s₁ x => ?_) hco hgen hk
  · have : x.1 ∈ ns := (List.of_mem_zip hx).1
    exact (hns' x.1 this).imp id fun q => ⟨q, cellsFrom_some _ _ _ (.inl q)⟩
  · have R1 := Rp.enter hns' x
    refine el2_2 x.done ?_
    intro h' tk e1 _
    have ei : EnvIs fd.scope (callEnvC fd s.heap.objs.size fa) := ⟨rfl, hg, hb, hk, fun _ => rfl⟩
    refine wpAny_mono ((SX.then h (r.deeper _) (Rp.gx g) ei R1 fun f h2 k2 l2 H2 R2 q2 => ?_ : wpAny _ _ _ (fun f s' => R (.ok (.ret (match f with | .ret v => v | _ => .none))) s') (fun _ _ => False) s₁)) (fun _ _ z => z) fun _ _ z => z.elim
    subst e1
    have R3 := Rp.back R2
    cases f with
    | ret v => exact k v h2 k2 H2 R3 q2
    | next => exact k .none h2 k2 H2 R3 q2
    | brk => exact k .none h2 k2 H2 R3 q2
    | cont => exact k .none h2 k2 H2 R3 q2

noncomputable def okScope (sc : Scope) : Bool := !sc.isCoroutine && !sc.isGenerator && (sc.kind == .function)

theorem CallV.fn {i : Nat} {args : List AV} {Q : AV → AH → Prop} (hi : i ∈ fnList) (hl : args.length = (pnames (fnParams i)).length)
    (hbind : ∀ pm cd doc vs, vs.length = (pnames (fnParams i)).length → bindArgs (Calls.docDef (fnName i) (fnParams i) (fnBody i) (fnScope i) pm cd doc) ⟨vs, []⟩ = pure ((pnames (fnParams i)).zip vs))
    (hns : kindsOK (pnames (fnParams i)) (fnScope i) = true) (hok : okScope (fnScope i) = true)
    (h : SX ad w (fnScope i) d (execs (fnBody i)) (Loc.bind (pnames (fnParams i)) args Loc.nil) H (fun f _ H1 => Q (match f with | .ret v => v | _ => .none) H1)) :
    CallV ad w sc (d + 1) (.ref (ad.fn i)) args loc H Q := by
  intro vf vs hf hvs A B env s r g e R
  refine hideE fun PZ pz => ?_
  have := absV_ref hf; subst this
  refine el4_3 ((g.fns i hi).out) ?_
  intro o pm c doc a1 a2 a3
  unfold okScope at hok
  simp only [Bool.and_eq_true, Bool.not_eq_true', beq_iff_eq] at hok
  subst hvs
  refine wpAny_call (code_fn (fd := Calls.docDef (fnName i) (fnParams i) (fnBody i) (fnScope i) pm (.ref c) doc) (Q := Q) r g R a1 a2 a3 rfl rfl rfl rfl (hbind pm (.ref c) doc vs (by rw [← hl, List.length_map])) hns h (fun v h' k' H' R' q => ?_) hok.1.1 hok.1.2 hok.2)
  exact (pz _ _ _ _ (R') (q))
end


theorem kvGet_put (k : Str) (v : AV) (x : Str) : ∀ (kvs : List (Str × AV)), kvGet (kvPut kvs k v) x = if x = k then some v else kvGet kvs x
  | [] => by
    simp only [kvPut, kvGet]
    by_cases h : k = x
    · subst h; simp
    · rw [if_neg h, if_neg (Ne.symm h)]
  | (y, u) :: r => by
    have ih := kvGet_put k v x r
    simp only [kvPut]
    by_cases hy : y = k
    · subst hy
      simp only [if_pos, kvGet]
      by_cases h : y = x
      · subst h; simp
      · rw [if_neg h, if_neg (Ne.symm h), if_neg h]
    · rw [if_neg hy]
      simp only [kvGet]
      by_cases h : y = x
      · subst h; simp [hy]
      · rw [if_neg h, if_neg h]; exact ih
theorem kvPut_len (k : Str) (v : AV) : ∀ (kvs : List (Str × AV)), (kvGet kvs k = none → (kvPut kvs k v).length = kvs.length + 1) ∧ kvs.length ≤ (kvPut kvs k v).length
  | [] => ⟨fun _ => rfl, Nat.zero_le _⟩
  | (y, u) :: r => by
    have ih := kvPut_len k v r
    simp only [kvPut, kvGet]
    by_cases hy : y = k
    · subst hy; simp
    · rw [if_neg hy, if_neg hy]
      simp only [List.length_cons]
      exact ⟨fun h => by rw [ih.1 h], by (first | (simp +arith only; done) | lia | omega)⟩

theorem put_dict {o : Obj} {es : Array DictEntry} {ep : Nat} (name : Str) (hash : Int) (t : Tok) (v : Value) (hd : o.data = .dict es ep) (hk : StrKeys es) :
    ∃ es' ep', (Obj.putName name hash (.str name t) v o).data = .dict es' ep' ∧ (Obj.putName name hash (.str name t) v o).isFreed = false ∧ StrKeys es' ∧ (∀ x, nsFind es' x = if x = name then some v else nsFind es x) ∧
      (es'.size = es.size ∨ (nsFind es name = none ∧ es'.size = es.size + 1)) := by
  refine hide fun PZ kZ => ?_
  obtain ⟨c, d, dt, sl⟩ := o
  refine kZ ?_
  clear kZ PZ
  dsimp only at hd
  subst hd
  cases hi : es.findIdx? (·.key.isStr name) with
  | some i =>
    refine ⟨es.modify i fun e => { e with val := v }, ep, by simp only [Obj.putName_eq, Obj.putNameByArray, hi], by simp only [Obj.putName_eq, Obj.putNameByArray, hi]; rfl, hk.modify _ _, fun x => ?_, .inl (by simp)⟩
    exact findBy_modify (fun n v => v.isStr n) Value.isStr_inj es name x v i hi
  | none =>
    refine in2_5 (es.push ⟨hash, .str name t, v⟩) (ep + 1) (by simp only [Obj.putName_eq, Obj.putNameByArray, hi]) (by simp only [Obj.putName_eq, Obj.putNameByArray, hi]; rfl) (hk.push _ _ _ _) (fun x => ?_) (.inr ⟨?_, by simp⟩)
    · exact findBy_push (fun n v => v.isStr n) es name x _ _ v (fun y => by
        show (name == y) = decide (y = name)
        by_cases h : y = name
        · subst h; simp
        · have : ¬ name = y := fun e => h e.symm
          simp [h, this]) hi
    · have := findBy_of_findIdx? (fun n v => Value.isStr v n) es name
      rw [hi] at this; exact this

section
variable {ad : Ads} {w : World} {sc : Scope} {d : Nat} {loc : Loc} {H : AH}

/-! ### attributes -/
noncomputable def AttrT (ad : Ads) (w : World) (sc : Scope) (d : Nat) (o : AV) (name : Str) (loc : Loc) (H : AH) (Q : AV → AH → Prop) : Prop :=
  ∀ vo, absV vo = o → EV ad w sc d absV (fun _ => getAttr vo name true) loc H Q
noncomputable def SetA (ad : Ads) (w : World) (sc : Scope) (d : Nat) (o : AV) (name : Str) (v : AV) (loc : Loc) (H : AH) (Q : AH → Prop) : Prop :=
  ∀ vo vv, absV vo = o → absV vv = v → EV ad w sc d id (fun _ => setAttr vo name vv) loc H (fun _ => Q)

theorem handed_of {v : Value} (h : (absV v).isLit = false) : handedIn v = true := by
  cases v <;> first | rfl | (simp [absV, AV.isLit] at h)

theorem inst_at {B : PH} {env : Env} {h : Heap} {a dd C : Addr} {kvs : List (Str × AV)} (R : Rep w B env h loc H) (ho : H a = some (.inst C dd)) (hd : H dd = some (.attrs kvs)) :
    ∃ (od : Obj) (es : Array DictEntry) (ep : Nat) (m : Str → Option Value), h.get? dd = some od ∧ od.data = .dict es ep ∧ StrKeys es ∧ (∀ x, nsFind es x = m x) ∧ (∀ x, (m x).map absV = kvGet kvs x) ∧ es.size ≤ kvs.length ∧ W.InstAt h a (instObj C dd) C (some od) := by
  refine el4_6 (R.own _ _ hd) ?_
  intro od es ep m g dt k f f2 sz
  exact ⟨od, es, ep, m, g, dt, k, f, f2, sz, R.own _ _ ho, rfl, rfl, g⟩

theorem lookIn_of {od : Obj} {es : Array DictEntry} {ep : Nat} {x : Str} (dt : od.data = .dict es ep) (k : StrKeys es) : lookIn x od = some (nsFind es x) := by
  unfold lookIn
  rw [dt]
  dsimp only
  unfold nsFind findBy
  obtain ⟨l⟩ := es
  rw [List.find?_toArray]
  cases hf : l.find? (·.key.isStr x) with
  | some e => simp [hf]
  | none =>
    have : l.any (·.refKey) = false := by
      rw [List.any_eq_false]; intro e he; obtain ⟨n, t, h⟩ := k e (by simpa using he); simp [DictEntry.refKey, h]
    simp [hf, this]

theorem AttrT.inst {a dd : Addr} {kvs : List (Str × AV)} {name : Str} {x : AV} {Q : AV → AH → Prop} (ho : H a = some (.inst ad.cls dd)) (hd : H dd = some (.attrs kvs)) (hx : kvGet kvs name = some x) (q : Q x H)
    (hn : name ∈ attrNames := by decide) (hl : x.isLit = false := by with_unfolding_all rfl) : AttrT ad w sc d (.ref a) name loc H Q := by
  intro vo hv A B env s r g e R
  refine hideE fun PZ pz => ?_
  have := absV_ref hv; subst this
  refine el4_7 (inst_at R ho hd) ?_
  intro od es ep m g1 dt k f f2 sz I
  refine el1_2 g.cls ?_
  intro K X C
  have hm := f2 name
  rw [hx] at hm
  refine el1_2 (Option.map_eq_some_iff.mp hm) ?_
  intro val h1 hE1
  obtain rfl := hE1
  refine get_value (fun a o e => R.keep _ _ (X a o e)) I (plainGet_of (name := "blocks") C.get).1 (findObj_own C.dict (C.noattr name hn) rfl ?_) (handed_of hl) (pz _ _ _ _ (R) (q))
  rw [lookIn_of dt k, f, h1]

theorem SetA.inst {a dd : Addr} {kvs : List (Str × AV)} {name : Str} {v : AV} {Q : AH → Prop} (ho : H a = some (.inst ad.cls dd)) (hd : H dd = some (.attrs kvs)) (hz : kvs.length ≤ 100) (q : Q (AH.put H dd (.attrs (kvPut kvs name v))))
    (hn : name ∈ attrNames := by decide) : SetA ad w sc d (.ref a) name v loc H Q := by
  intro vo vv hv hvv A B env s r g e R
  refine hideE fun PZ pz => ?_
  have := absV_ref hv; subst this
  refine el4_7 (inst_at R ho hd) ?_
  intro od es ep m g1 dt k f f2 sz I
  refine el1_2 g.cls ?_
  intro K X C
  have X' : K.In s.heap := fun a o e => R.keep _ _ (X a o e)
  refine set_plain X' I C.sets ?_
  refine osa_open (s := { s with toks := s.toks + 1 }) X' I C.over (C.take name hn) fun b => ?_
  refine el1_2 (any_some C.dict) ?_
  intro cd hc hd'
  have hx : s.heap.get? a = some ⟨.ref ad.cls, some dd, .plain, #[]⟩ := R.own _ _ ho
  refine wpAny_bind (wpAny_pure (wpAny_bind (wpAny_bind (wpAny_loadPart hx (wpAny_bind ((looks_clsIn (h := ({ s with toks := s.toks + 1 } : Shared).heap) X' hc).here (s := { s with toks := s.toks + 1 }) ?_))))))
  rw [hd']
  refine wpAny_pure (a := some dd) (wpAny_bind (wpAny_pure (wpAny_bind ?_)))
  unfold nsSet
  refine wpAny_bind (wpAny_bind (wpAny_askSetting (wpAny_pure (wpAny_bind (wpAny_mkText (wpAny_bind (wpAny_loadPart g1 ?_)))))))
  rw [dt]
  dsimp only
  have c : aRefKeyMayBeTheName name es = false := by
    have hany : es.any (·.refKey) = false := by
      rw [Array.any_eq_false']; intro e he; obtain ⟨n, t, h⟩ := k e he; simp [DictEntry.refKey, h]
    simp only [aRefKeyMayBeTheName_eq, aRefKeyMayBeTheNameByArray, hany, Bool.and_false]
  rw [c]
  refine el2_5 (put_dict (o := od) name (PyData.keyHash w.params name) (s.toks + 1) vv dt k) ?_
  intro es' ep' p1 p2 p3 p4 p5
  refine wpAny_updatePart g1 ?_
  have D' := Heap.get?_update_self (Obj.putName name (PyData.keyHash w.params name) (.str name (s.toks + 1)) vv) g1 p2
  have hsz : es'.size ≤ (kvPut kvs name v).length := by
    have hl := kvPut_len name v kvs
    rcases p5 with p5 | ⟨p5, p6⟩
    · (first | (simp +arith only; done) | lia | omega)
    · have : kvGet kvs name = none := by rw [← f2 name, ← f name, p5]; rfl
      have := hl.1 this; (first | (simp +arith only; done) | lia | omega)
  have hle : (kvPut kvs name v).length ≤ kvs.length + 1 := by
    have : ∀ (l : List (Str × AV)), (kvPut l name v).length ≤ l.length + 1 := by
      intro l
      induction l with
      | nil => simp [kvPut]
      | cons p r ih =>
        refine hide fun PZ kZ => ?_
        obtain ⟨y, u⟩ := p
        refine kZ ?_
        clear kZ PZ
        simp only [kvPut]
        split
        · simp
        · simp only [List.length_cons]; (first | (simp +arith only; done) | lia | omega)
    exact this kvs
  refine wpAny_bind (wpAny_lookBehind D' (by rw [p1]; exact pastItsLine_dict (by rw [sizeLine_eq]; (first | (simp +arith only; done) | lia | omega))) ?_)
  refine wpAny_pure (pz _ _ _ _ (R.change hd (Heap.SameBut.update ..) (ao' := .attrs (kvPut kvs name v)) ⟨_, es', ep', fun x => if x = name then some vv else m x, D', p1, p3, fun x => ?_, fun x => ?_, hsz⟩) (q))
  · rw [p4, f]
  · rw [kvGet_put, ← hvv]
    by_cases h : x = name
    · simp [h]
    · simp only [if_neg h]; exact f2 x

theorem EV.attr {value : Expr} {name : Str} {pos : Pos} {Q : AV → AH → Prop} (h : EV ad w sc d absV (eval value) loc H (fun o H1 => AttrT ad w sc d o name loc H1 Q))
    (he : ∀ env, eval (.Attribute value name pos) env = (do
      let o ← eval value env
      standAt pos.atName
      let r ← holding [o] (getAttr o name true)
      letTemporaryGo value o r
      pure r) := by intro _; with_unfolding_all rfl) : EV ad w sc d absV (eval (.Attribute value name pos)) loc H Q := by
  intro A B env s r g e R
  refine hideE fun PZ pz => ?_
  refine Attribute_any_ (h.then r g e R fun o h1 k1 H1 R1 q1 => ?_) (he env)
  exact (q1 o rfl).then r g e R1 fun v h2 k2 H2 R2 q2 => (pz _ _ _ _ (R2) (q2))

theorem SX.assign_attr {o value : Expr} {name : Str} {p1 pos : Pos} {Q : AF → Loc → AH → Prop}
    (h : EV ad w sc d absV (eval value) loc H (fun v H1 => EV ad w sc d absV (eval o) loc H1 (fun ov H2 => SetA ad w sc d ov name v loc H2 (fun H3 => Q .next loc H3))))
    (hs : ∀ env, swapsWith value (some (.Attribute o name p1)) pos.line env = pure false := by with_unfolding_all (intro _; rfl)) : SX ad w sc d (exec (.Assign [.Attribute o name p1] value pos)) loc H Q := by
  intro A B env s r g e R
  refine hideS fun PZ pz => ?_
  refine plainObj_wpAny_Assign_Attribute (h.then r g e R fun v h1 k1 H1 R1 q1 => q1.then r g e R1 fun ov h2 k2 H2 R2 q2 => ?_) (hs env)
  exact (q2 ov v rfl rfl).then r g e R2 fun _ h3 k3 H3 R3 q3 => (pz _ _ _ _ _ (R3) (q3))

theorem SX.aug_attr {o value : Expr} {name : Str} {op : Operator} {p1 pos : Pos} {Q : AF → Loc → AH → Prop}
    (h : EV ad w sc d absV (eval o) loc H (fun ov H1 => AttrT ad w sc d ov name loc H1 (fun old H2 => EV ad w sc d absV (eval value) loc H2 (fun v H3 => Inp ad w sc d op old v loc H3 (fun nw H4 => SetA ad w sc d ov name nw loc H4 (fun H5 => Q .next loc H5)))))) :
    SX ad w sc d (exec (.AugAssign (.Attribute o name p1) op value pos)) loc H Q := by
  intro A B env s r g e R
  refine hideS fun PZ pz => ?_
  refine wpAny_AugAssign_AttributeAny (h.then r g e R fun ov h1 k1 H1 R1 q1 => (q1 ov rfl).then r g e R1 fun old h2 k2 H2 R2 q2 => q2.then r g e R2 fun v h3 k3 H3 R3 q3 => (q3 old v rfl rfl).then r g e R3 fun nw h4 k4 H4 R4 q4 => ?_)
  exact (q4 ov nw rfl rfl).then r g e R4 fun _ h5 k5 H5 R5 q5 => (pz _ _ _ _ _ (R5) (q5))

theorem room_under {A : Around} {C : Addr} {vs : List Value} (r : Room A (d + 2)) : Room (A.under (.builtin "type.__call__" ⟨.ref C :: vs, []⟩)) (d + 1) := by
  have h1 : (A.under (.builtin "type.__call__" ⟨.ref C :: vs, []⟩)).depth = A.depth + 1 := rfl
  have h2 : (A.under (.builtin "type.__call__" ⟨.ref C :: vs, []⟩)).units = A.units + 1 := rfl
  exact in0_3 r.1 (by have := r.2.1; rw [h1]; (first | (simp +arith only; done) | lia | omega)) (by have := r.2.2; rw [h2]; (first | (simp +arith only; done) | lia | omega))

/-! ### a new scope -/
theorem CallV.cls {args : List AV} {Q : AV → AH → Prop} (hl : args.length = 2)
    (hbind : ∀ pm cd doc vs, vs.length = 3 → bindArgs { Calls.docDef (stName initSrc) (stParams initSrc) (stBody initSrc) (stScope initSrc) pm cd doc with qualname := "SubScope.__init__" } ⟨vs, []⟩ = pure ((pnames (stParams initSrc)).zip vs))
    (hns : kindsOK (pnames (stParams initSrc)) (stScope initSrc) = true) (hok : okScope (stScope initSrc) = true)
    (h : ∀ x dx, H x = none → H dx = none → x ≠ dx → SX ad w (stScope initSrc) d (execs (stBody initSrc)) (Loc.bind (pnames (stParams initSrc)) (.ref x :: args) Loc.nil) (AH.put (AH.put H dx (.attrs [])) x (.inst ad.cls dx))
      (fun f _ H1 => (match f with | .ret v => v | _ => .none) = .none ∧ Q (.ref x) H1)) :
    CallV ad w sc (d + 2) (.ref ad.cls) args loc H Q := by
  intro vf vs hf hvs A B env s r g e R
  have := absV_ref hf; subst this
  refine el1_2 g.cls ?_
  intro K X C
  have X' : K.In s.heap := fun a o e => R.keep _ _ (X a o e)
  refine el4_3 g.ini ?_
  intro o pm c doc a1 a2 a3
  unfold okScope at hok
  simp only [Bool.and_eq_true, Bool.not_eq_true', beq_iff_eq] at hok
  refine hide fun PZ kZ => ?_
  obtain ⟨hh, gg, dd, t, os⟩ := s
  refine kZ ?_
  clear kZ PZ
  subst hvs
  refine wpAny_call (make_core (makes_of X' C.makes) (looks_findIn X' C.init) (fun self => bind_fn X' self C.initT) (.inl rfl) ?_)
  have R1 : Rep w B env ((hh.push emptyDict).push (instObj ad.cls hh.objs.size)) loc (AH.put (AH.put H hh.objs.size (.attrs [])) (hh.objs.size + 1) (.inst ad.cls hh.objs.size)) := by
    have Ra : Rep w B env (hh.push emptyDict) loc (AH.put H hh.objs.size (.attrs [])) := R.alloc (fun _ _ e => Heap.get?_push_of_some _ e) (Nat.le_refl _) ⟨emptyDict, #[], 0, fun _ => none, Heap.get?_push_size _ rfl, rfl, fun e he => by simp at he, fun _ => rfl, fun _ => rfl, Nat.le_refl _⟩
    have := Ra.alloc (h' := (hh.push emptyDict).push (instObj ad.cls hh.objs.size)) (a := hh.objs.size + 1) (ao := .inst ad.cls hh.objs.size) (fun _ _ e => Heap.get?_push_of_some _ e) (by rw [Heap.size_push]; exact Nat.le_refl _) (by
      have := Heap.get?_push_size (hh.push emptyDict) (o := instObj ad.cls hh.objs.size) rfl
      rw [Heap.size_push] at this; exact this)
    exact this
  have r2 : Room (A.under (.builtin "type.__call__" ⟨.ref ad.cls :: vs, []⟩)) (d + 1) := room_under r
  have hf : H hh.objs.size = none := (R.off (Nat.le_refl _)).h
  have hf1 : H (hh.objs.size + 1) = none := (R.off (Nat.le_succ _)).h
  refine code_fn (fd := { Calls.docDef (stName initSrc) (stParams initSrc) (stBody initSrc) (stScope initSrc) pm (.ref c) doc with qualname := "SubScope.__init__" }) (ns := pnames (stParams initSrc)) (d := d) (H := AH.put (AH.put H hh.objs.size (.attrs [])) (hh.objs.size + 1) (.inst ad.cls hh.objs.size))
    (Q := fun v H1 => v = .none ∧ Q (.ref (hh.objs.size + 1)) H1) (s := ⟨(hh.push emptyDict).push (instObj ad.cls hh.objs.size), gg, dd, t, os⟩) r2 g R1 a1 a2 a3 rfl rfl rfl rfl
    (hbind pm (.ref c) doc (.ref (hh.objs.size + 1) :: vs) (by rw [List.length_cons]; rw [List.length_map] at hl; (first | (simp +arith only; done) | lia | omega))) hns (h (hh.objs.size + 1) hh.objs.size hf1 hf (Nat.succ_ne_self _)) (fun v h' k' H' R' q => ?_) hok.1.1 hok.1.2 hok.2
  exact ⟨absV_none q.1, h', k', H', rfl, R', q.2⟩
end


theorem map_abs_drop {vs : List Value} {k : Nat} : (vs.drop k).map absV = (vs.map absV).drop k := List.map_drop
theorem map_abs_take {vs : List Value} {k : Nat} : (vs.take k).map absV = (vs.map absV).take k := List.map_take

section
variable {ad : Ads} {w : World} {sc : Scope} {d : Nat} {loc : Loc} {H : AH}

/-! ### displays -/
theorem EV.tuple {elts : List Expr} {k : Nat} {pos : Pos} {Q : AV → AH → Prop} (h : AR ad w sc d pos elts loc H (fun vs H1 => vs.length ≤ 1000 ∧ ∀ a, H1 a = none → Q (.ref a) (AH.put H1 a (.tup vs)))) :
    EV ad w sc d absV (eval (.Tuple elts k pos)) loc H Q := by
  intro A B env s r g e R
  refine wpAny_Tuple (EV.then h r g e R fun vs h1 k1 H1 R1 q1 => ⟨by rw [sizeLine_eq]; have := q1.1; rw [List.length_map] at this; (first | (simp +arith only; done) | lia | omega), _, _, _, rfl, R1.alloc (fun _ _ e => Heap.get?_push_of_some _ e) (Nat.le_refl _) (ao := .tup (vs.map absV)) ⟨vs, ⟨_, Heap.get?_push_size _ rfl, rfl, _, rfl⟩, rfl⟩, q1.2 _ (R1.off (Nat.le_refl _)).h⟩)
theorem EV.list {elts : List Expr} {pos : Pos} {Q : AV → AH → Prop} (h : AR ad w sc d pos elts loc H (fun vs H1 => vs.length ≤ 1000 ∧ ∀ a, H1 a = none → Q (.ref a) (AH.put H1 a (.list vs)))) :
    EV ad w sc d absV (eval (.List elts pos)) loc H Q := by
  intro A B env s r g e R
  refine wpAny_List (EV.then h r g e R fun vs h1 k1 H1 R1 q1 => ⟨by rw [sizeLine_eq]; have := q1.1; rw [List.length_map] at this; (first | (simp +arith only; done) | lia | omega), _, _, _, rfl, R1.alloc (fun _ _ e => Heap.get?_push_of_some _ e) (Nat.le_refl _) (ao := .list (vs.map absV)) ⟨vs, ⟨_, Heap.get?_push_size _ rfl⟩, rfl⟩, q1.2 _ (R1.off (Nat.le_refl _)).h⟩)
theorem EV.dict_empty {pos : Pos} {Q : AV → AH → Prop} (h : ∀ a, H a = none → Q (.ref a) (AH.put H a (.dict []))) : EV ad w sc d absV (eval (.Dict [] [] pos)) loc H Q := by
  intro A B env s r g e R
  refine hideE fun PZ pz => ?_
  refine wpAny_Dict_empty (pz _ _ _ _ (R.alloc (fun _ _ e => Heap.get?_push_of_some _ e) (Nat.le_refl _) (ao := .dict []) ⟨[], ⟨_, #[], 0, Heap.get?_push_size _ rfl, ⟨rfl, rfl, rfl⟩, rfl, fun e he => by simp at he, .nil, .nil⟩, rfl⟩) (h _ (R.off (Nat.le_refl _)).h))

theorem EV.or_one {x : Expr} {pos : Pos} {Q : AV → AH → Prop} (h : EV ad w sc d absV (eval x) loc H Q) : EV ad w sc d absV (eval (.BoolOp .Or [x] pos)) loc H Q := fun A B env s r g e R => BoolOp_one (h A B env s r g e R)
theorem EV.or_cons {x y : Expr} {rest : List Expr} {pos : Pos} {Q : AV → AH → Prop}
    (h : EV ad w sc d absV (eval x) loc H (fun v H1 => Tru ad w sc d v loc H1 (fun c H2 => (c = false → EV ad w sc d absV (eval (.BoolOp .Or (y :: rest) pos)) loc H2 Q) ∧ (c = true → Q v H2)))) :
    EV ad w sc d absV (eval (.BoolOp .Or (x :: y :: rest) pos)) loc H Q := by
  intro A B env s r g e R
  refine hideE fun PZ pz => ?_
  refine BoolOp_or (h.then r g e R fun v h1 k1 H1 R1 q1 => (q1 v rfl).then r g e R1 fun c h2 k2 H2 R2 q2 => ?_)
  cases c with
  | false => exact (q2.1 rfl).then r g e R2 fun c h2 k2 H2 R2 q2 => (pz _ _ _ _ (R2) (q2))
  | true => exact (pz _ _ _ _ (R2) (q2.2 rfl))

/-! ### slices -/
noncomputable def PE (ad : Ads) (w : World) (sc : Scope) (d : Nat) (e : Option Expr) (loc : Loc) (H : AH) (Q : AV → AH → Prop) : Prop := EV ad w sc d absV (fun env => valueOrNone (evalOpt e env)) loc H Q
theorem PE.none {Q : AV → AH → Prop} (q : Q .none H) : PE ad w sc d none loc H Q := fun _ _ _ _ _ _ _ R => wpAny_pure (fin3 (R) (q))
theorem PE.some {e : Expr} {Q : AV → AH → Prop} (q : EV ad w sc d absV (eval e) loc H Q) : PE ad w sc d (some e) loc H Q := q

noncomputable def avPart : AV → Option (Option Int)
  | .none => some none
  | .int i => some (some i)
  | _ => none
theorem avPart_of {v : Value} {i : Option Int} (h : avPart (absV v) = some i) : IsPart v i := by
  cases v <;> simp [absV, avPart] at h <;> subst h
  · exact .none
  · exact .int _ _

noncomputable def SliceT (ad : Ads) (w : World) (sc : Scope) (d : Nat) (o lo hi st : AV) (loc : Loc) (H : AH) (Q : AV → AH → Prop) : Prop :=
  ∀ vo vl vu vk value slice sl, absV vo = o → absV vl = lo → absV vu = hi → absV vk = st → (∀ o i, ∃ ops, subscripted slice false o i = operate ops (getItem o i)) →
    ∀ (A : Around) (B : PH) (env : Env) (s : Shared), Room A d → Gx ad w B → EnvIs sc env → Rep w B env s.heap loc H → s.heap.IsSliceOf sl vl vu vk →
    wpAny (model prog w) A (subscriptTail value slice vo (.ref sl)) (fun v s' => ∃ h' k' H', s' = { s with heap := h', toks := k' } ∧ Rep w B env h' loc H' ∧ Q (absV v) H') (fun _ _ => False) s

theorem EV.slice {value : Expr} {lo hi st : Option Expr} {p pos : Pos} {Q : AV → AH → Prop}
    (h : EV ad w sc d absV (eval value) loc H (fun o H1 => PE ad w sc d lo loc H1 (fun l H2 => PE ad w sc d hi loc H2 (fun u H3 => PE ad w sc d st loc H3 (fun k H4 => SliceT ad w sc d o l u k loc H4 Q)))))
    (hs : ∀ o i, ∃ ops, subscripted (.Slice lo hi st p) false o i = operate ops (getItem o i) := by with_unfolding_all intro o i; first | exact ⟨[i, o], rfl⟩ | exact ⟨[o, i], rfl⟩) :
    EV ad w sc d absV (eval (.Subscript value (.Slice lo hi st p) pos)) loc H Q := by
  intro A B env s r g e R
  refine Subscript_ (h.then r g e R fun o h1 k1 H1 R1 q1 => ?_)
  show wpAny _ _ (valueOrNone (evalOpt lo env) >>= fun l => holding [l] (valueOrNone (evalOpt hi env)) >>= fun u => holding [l, u] (valueOrNone (evalOpt st env)) >>= fun x => newFields "slice" [l, u, x]) _ _ _
  refine wpAny_bind (EV.then q1 r g e R1 fun l h2 k2 H2 R2 q2 => wpAny_bind (wpAny_holding (EV.then q2 r g e R2 fun u h3 k3 H3 R3 q3 => wpAny_bind (wpAny_holding (EV.then q3 r g e R3 fun x h4 k4 H4 R4 q4 => ?_)))))
  refine wpAny_newObj_type ?_
  refine wpAny_mono (q4 o l u x value (.Slice lo hi st p) h4.objs.size rfl rfl rfl rfl hs A B env { s with heap := h4.push { cls := .type "slice", data := .fields #[l, u, x] }, toks := k4 } r g e (R4.push _) (Heap.IsSliceOf.new ..))
    (fun v s' z => z) fun _ _ z => z.elim

theorem SliceT.listlike {a : Addr} {items : Array Value} {lo hi st : AV} {l u k : Option Int} {Q : AV → AH → Prop} (hl : avPart lo = some l) (hu : avPart hi = some u) (hk : avPart st = some k) (h0 : k ≠ some 0)
    (ho : ∀ h : Heap, ∀ B env, Gx ad w B → Rep w B env h loc H → ∃ vs, h.IsList a vs ∧ vs.size ≤ sizeLine ∧ ∀ n, H n = none → Q (.ref n) (AH.put H n (.list ((slicePick vs l u k).toList.map absV)))) : SliceT ad w sc d (.ref a) lo hi st loc H Q := by
  intro vo vl vu vk value slice sl e1 e2 e3 e4 hs A B env s r g e R hsl
  refine hideE fun PZ pz => ?_
  have := absV_ref e1; subst this
  refine el1_3 (ho s.heap B env g R) ?_
  intro vs il hz q
  refine el1_1 (hs (.ref a) (.ref sl)) ?_
  intro ops hs
  refine tail_any il.typeIs list_getitem_lookup (wpAny_getItem_list_slice il hsl (avPart_of (by rw [e2]; exact hl)) (avPart_of (by rw [e3]; exact hu)) (avPart_of (by rw [e4]; exact hk)) h0 ?_ hz) hs
  exact (pz _ _ _ _ (R.alloc (fun _ _ e => Heap.get?_push_of_some _ e) (Nat.le_refl _) (ao := .list ((slicePick vs l u k).toList.map absV)) ⟨(slicePick vs l u k).toList, ⟨0, by rw [Array.toArray_toList]; exact Heap.get?_push_size _ rfl⟩, rfl⟩) (q _ (R.off (Nat.le_refl _)).h))

theorem SliceT.list_rev {a : Addr} {xs : List AV} {Q : AV → AH → Prop} (ho : H a = some (.list xs)) (hz : xs.length ≤ 1000) (q : ∀ n, H n = none → Q (.ref n) (AH.put H n (.list xs.reverse))) : SliceT ad w sc d (.ref a) .none .none (.int (-1)) loc H Q := by
  refine SliceT.listlike (items := #[]) (l := none) (u := none) (k := some (-1)) rfl rfl rfl (by decide) fun h B env _ R => ?_
  refine el1_2 (R.own _ _ ho) ?_
  intro vs hl hm
  have hlen : vs.length = xs.length := by rw [← hm, List.length_map]
  refine in1_3 vs.toArray hl.isList (by rw [List.size_toArray, sizeLine_eq]; (first | (simp +arith only; done) | lia | omega)) (fun n hn => ?_)
  rw [krv_pick]
  have : (vs.toArray.toList.reverse.toArray.toList.map absV) = xs.reverse := by simp [← hm]
  rw [this]; exact q n hn

theorem SliceT.scr_upto {c : Int} {Q : AV → AH → Prop} (h0 : 0 ≤ c) (hz : ad.ns.length ≤ 1000) (q : ∀ n, H n = none → Q (.ref n) (AH.put H n (.list ((ad.ns.map AV.int).take c.toNat)))) : SliceT ad w sc d (.ref ad.scr) .none (.int c) .none loc H Q := by
  refine SliceT.listlike (items := #[]) (l := none) (u := some c) (k := none) rfl rfl rfl (by decide) fun h B env g R => ?_
  refine el1_2 (g.scr h R.keep) ?_
  intro vs hl hm
  have hlen : vs.length = ad.ns.length := by rw [← List.length_map (f := AV.int), ← hm, List.length_map]
  refine in1_3 vs.toArray hl (by rw [List.size_toArray, sizeLine_eq]; (first | (simp +arith only; done) | lia | omega)) (fun n hn => ?_)
  have e : sliceBounds none (some c) none vs.toArray.size = (((0 : Nat) : Int), ((min c.toNat vs.toArray.size : Nat) : Int), 1) := by
    simp only [sliceBounds, Option.getD_none, show (1 : Int) > 0 by decide, if_true, if_neg (show ¬ (c < 0) by (first | (simp +arith only; done) | lia | omega))]
    congr 1
    congr 1
    (first | (simp +arith only; done) | lia | omega)
  rw [kmk_pick_nat _ e]
  have : (((vs.toArray.toList.drop 0).take (min c.toNat vs.toArray.size - 0)).toArray.toList.map absV) = (ad.ns.map AV.int).take c.toNat := by
    simp [← hm, kmk_take_min]
  rw [this]; exact q n hn
theorem SliceT.str_from {x : Str} {c : Int} {Q : AV → AH → Prop} (hz : x.length ≤ 1000) (q : Q (.str (Txt.slice x (some c) none)) H) : SliceT ad w sc d (.str x) (.int c) .none .none loc H Q := by
  intro vo vl vu vk value slice sl e1 e2 e3 e4 hs A B env s r g e R hsl
  refine hideE fun PZ pz => ?_
  refine el1_1 (absV_str e1) ?_
  intro t hE1
  obtain rfl := hE1
  refine el1_1 (absV_int e2) ?_
  intro u hE1
  obtain rfl := hE1
  have := absV_none e3; subst this
  have := absV_none e4; subst this
  refine el1_1 (hs (.str x t) (.ref sl)) ?_
  intro ops hs
  refine tail_any (typeIs_str _ _ _) F.slot_str_getitem.lookup (wpAny_getItem_str_slice (l := some (c, u)) (u := none) (st := none) hsl rfl ?_) hs
  exact PySem.post_val_or_str ⟨Nat.le_trans (Txt.slice_le x _ _) (by rw [sizeLine_eq]; (first | (simp +arith only; done) | lia | omega)), fun t' k => (pz _ _ _ _ (R) (q))⟩

/-! ### tuples' slices -/
theorem adjust_upto (a n : Nat) (ha : a ≤ n) : Builtin.Slice.sliceAdjust none (some (a : Int)) 1 (n : Int) = (0, (a : Int)) := by
  unfold Builtin.Slice.sliceAdjust
  have h1 : ¬ ((1 : Int) < 0) := by (first | (simp +arith only; done) | lia | omega)
  have h2 : ¬ ((a : Int) < 0) := by (first | (simp +arith only; done) | lia | omega)
  simp only [h1, h2, if_false]
  congr 1
  (first | (simp +arith only; done) | lia | omega)
theorem places_upto (a : Nat) : Builtin.Slice.slicePlaces 0 (a : Int) 1 = a := by
  unfold Builtin.Slice.slicePlaces
  have h1 : (1 : Int) > 0 := by (first | (simp +arith only; done) | lia | omega)
  simp only [h1, if_true, Int.ediv_one]
  split <;> (first | (simp +arith only; done) | lia | omega)

theorem sliceApplied_upto {A : Around} {E : Value → Shared → Prop} {s : Shared} {sl : Addr} {a n : Nat} {u : Tok} {Q : Int × Int × Nat → Shared → Prop} (hs : s.heap.IsSliceOf sl .none (.int a u) .none) (ha : a ≤ n) (h : Q (0, 1, a) s) :
    wpAny (model prog w) A (Builtin.Slice.sliceApplied (.ref sl) (pure (n : Int))) Q E s := by
  refine el1_3 (id hs) ?_
  intro os hos hcs hds
  unfold Builtin.Slice.sliceApplied Builtin.Slice.sliceFields
  refine wpAny_bind (wpAny_bind (wpAny_field hos hds (x := .none) rfl (wpAny_bind (wpAny_field hos hds (x := .int a u) rfl (wpAny_bind (wpAny_field hos hds (x := .none) rfl (wpAny_pure ?_)))))))
  refine wpAny_bind (slicePart_none ?_)
  show wpAny _ _ (if ((1 : Int) == 0) = true then _ else _) _ _ s
  rw [if_neg (by decide)]
  refine wpAny_bind (slicePart_none (wpAny_bind (slicePart_int (wpAny_bind (wpAny_pure ?_)))))
  show wpAny _ _ (match Builtin.Slice.sliceAdjust none (some (a : Int)) 1 (n : Int) with | (lo, hi) => pure (lo, (1 : Int), Builtin.Slice.slicePlaces lo hi 1)) _ _ s
  rw [adjust_upto a n ha]
  show wpAny _ _ (pure (0, (1 : Int), Builtin.Slice.slicePlaces 0 (a : Int) 1)) _ _ s
  rw [places_upto a]
  exact wpAny_pure h

theorem pick_upto (xs : Array Value) (a : Nat) (_ha : a ≤ xs.size) : ((List.range a).filterMap fun (k : Nat) => xs[((0 : Int) + (k : Int) * 1).toNat]?).toArray = (xs.toList.take a).toArray := by
  have e : (fun (k : Nat) => xs[((0 : Int) + (k : Int) * 1).toNat]?) = fun k => xs[0 + k]? := by
    funext k
    have : ((0 : Int) + (k : Int) * 1).toNat = 0 + k := by (first | (simp +arith only; done) | lia | omega)
    rw [this]
  rw [e]
  have := pick_run xs 0 a
  rw [List.filterMap_map] at this
  have e2 : ((fun x => xs[x]?) ∘ fun x => 0 + x) = fun k => xs[0 + k]? := rfl
  rw [e2] at this
  rw [this, List.drop_zero]

theorem getItem_tuple_upto {A : Around} {E : Value → Shared → Prop} {s : Shared} {t sl : Addr} {items : Array Value} {a : Nat} {u : Tok} {Q : Value → Shared → Prop} (ht : IsTup s.heap t items) (hs : s.heap.IsSliceOf sl .none (.int a u) .none) (ha : a < items.size)
    (h : Q (.ref s.heap.objs.size) { s with heap := s.heap.push { cls := .type "tuple", data := .seq (items.toList.take a).toArray } })
    (hsz : items.size ≤ sizeLine) : wpAny (model prog w) A (getItem (.ref t) (.ref sl)) Q E s := by
  have htake : sizeOk (.seq (items.toList.take a).toArray) := by
    show (items.toList.take a).toArray.size ≤ sizeLine
    rw [List.size_toArray, List.length_take, Array.length_toList]
    (first | (simp +arith only; done) | lia | omega)
  refine el1_3 (id hs) ?_
  intro os hos hcs hds
  have hTs : s.TypeIs (.ref sl) "slice" := ⟨os, hos, hcs⟩
  unfold getItem
  try with_reducible refine wpAny_holding ?_
  first | refine wpAny_bind (wpAny_pure ?_) | skip
  refine wpAny_bind (wpAny_sequenceKey ht.typeIs (by decide) ?_)
  refine wpAny_bind (wpAny_callSpecial?_slot (name := Str.ofString "__getitem__") ht.typeIs slot_tuple_getitem
    (wpAny_call_entry slot_tuple_getitem ht.typeIs entry_tuple_getitem ?_ (args_tuple_getitem _ _)))
  show wpAny _ _ (Builtin.Tuple.tupleItemsOf (.ref t) >>= _) _ _ s
  refine wpAny_bind (tupleItemsOf_ ht ?_)
  refine wpAny_bind (wpAny_typeOf hTs ?_)
  rw [if_pos (by decide)]
  refine wpAny_bind (sliceApplied_upto hs (Nat.le_of_lt ha) ?_)
  have hno : ¬ (((0 : Int) == 0 && (1 : Int) == 1 && a == items.size) = true) := by
    have : (a == items.size) = false := by rw [beq_eq_false_iff_ne]; (first | (simp +arith only; done) | lia | omega)
    rw [this]; simp
  show wpAny _ _ (if ((0 : Int) == 0 && (1 : Int) == 1 && a == items.size) = true then _ else _) _ _ s
  rw [if_neg hno, pick_upto items a (Nat.le_of_lt ha)]
  first
    | exact wpAny_bind (m := Builtin.Tuple.tupleExact _) (wpAny_newObj_type (wpAny_pure ⟨_, rfl, wpAny_pure h⟩) htake)
    | exact wpAny_bind (m := Builtin.Tuple.tupleExact _) (wpAny_newObj_type (wpAny_bind (wpAny_pure (wpAny_pure ⟨_, rfl, wpAny_pure h⟩))) htake)
    | exact wpAny_bind (wpAny_bind (m := Builtin.Tuple.tupleExact _) (wpAny_newObj_type (wpAny_pure (wpAny_pure ⟨_, rfl, wpAny_pure h⟩)) htake))
    | exact wpAny_bind (wpAny_bind (m := Builtin.Tuple.tupleExact _) (wpAny_newObj_type (wpAny_pure ⟨_, rfl, wpAny_pure h⟩) htake))

theorem SliceT.tup_upto {a : Addr} {xs : List AV} {c : Nat} {Q : AV → AH → Prop} (ho : H a = some (.tup xs)) (hc : c < xs.length) (hz : xs.length ≤ 1000) (q : ∀ n, H n = none → Q (.ref n) (AH.put H n (.tup (xs.take c)))) : SliceT ad w sc d (.ref a) .none (.int c) .none loc H Q := by
  intro vo vl vu vk value slice sl e1 e2 e3 e4 hs A B env s r g e R hsl
  refine hideE fun PZ pz => ?_
  have := absV_ref e1; subst this
  have := absV_none e2; subst this
  refine el1_1 (absV_int e3) ?_
  intro u hE1
  obtain rfl := hE1
  have := absV_none e4; subst this
  refine el1_2 (R.own _ _ ho) ?_
  intro vs tl hm
  have hlen : vs.length = xs.length := by rw [← hm, List.length_map]
  refine el1_1 (hs (.ref a) (.ref sl)) ?_
  intro ops hs
  refine tail_any tl.typeIs slot_tuple_getitem.lookup (getItem_tuple_upto tl hsl (by simpa [hlen] using hc) ?_ (by rw [List.size_toArray, sizeLine_eq]; (first | (simp +arith only; done) | lia | omega))) hs
  refine (pz _ _ _ _ (R.alloc (fun _ _ e => Heap.get?_push_of_some _ e) (Nat.le_refl _) (ao := .tup (xs.take c)) ⟨vs.take c, ⟨_, Heap.get?_push_size _ rfl, rfl, _, rfl⟩, by rw [map_abs_take, hm]⟩) (q _ (R.off (Nat.le_refl _)).h))
theorem SliceT.tup_from {a : Addr} {xs : List AV} {c : Nat} {Q : AV → AH → Prop} (ho : H a = some (.tup xs)) (h1 : 1 ≤ c) (hc : c ≤ xs.length) (hz : xs.length ≤ 1000) (q : ∀ n, H n = none → Q (.ref n) (AH.put H n (.tup (xs.drop c)))) : SliceT ad w sc d (.ref a) (.int c) .none .none loc H Q := by
  intro vo vl vu vk value slice sl e1 e2 e3 e4 hs A B env s r g e R hsl
  refine hideE fun PZ pz => ?_
  have := absV_ref e1; subst this
  refine el1_1 (absV_int e2) ?_
  intro u hE1
  obtain rfl := hE1
  have := absV_none e3; subst this
  have := absV_none e4; subst this
  refine el1_2 (R.own _ _ ho) ?_
  intro vs tl hm
  have hlen : vs.length = xs.length := by rw [← hm, List.length_map]
  refine el1_1 (hs (.ref a) (.ref sl)) ?_
  intro ops hs
  refine tail_any tl.typeIs slot_tuple_getitem.lookup (getItem_tuple_from tl hsl h1 (by simpa [hlen] using hc) ?_ (by rw [List.size_toArray, sizeLine_eq]; (first | (simp +arith only; done) | lia | omega))) hs
  refine (pz _ _ _ _ (R.alloc (fun _ _ e => Heap.get?_push_of_some _ e) (Nat.le_refl _) (ao := .tup (xs.drop c)) ⟨vs.drop c, ⟨_, Heap.get?_push_size _ rfl, rfl, _, rfl⟩, by rw [map_abs_drop, hm]⟩) (q _ (R.off (Nat.le_refl _)).h))

theorem SubT.str {x : Str} {i : Int} {Q : AV → AH → Prop} (h0 : 0 ≤ i) (h1 : i < x.length) (q : Q (.str (Txt.item x i)) H) (hz : x.length ≤ 1000) : SubT ad w sc d (.str x) (.int i) loc H Q := by
  intro vo vi value slice e1 e2 hs A B env s r g e R
  refine hideE fun PZ pz => ?_
  refine el1_1 (absV_str e1) ?_
  intro t hE1
  obtain rfl := hE1
  refine el1_1 (absV_int e2) ?_
  intro u hE1
  obtain rfl := hE1
  have hr : fitsSsize i = true := by
    unfold fitsSsize
    simp only [Bool.not_eq_true', Bool.or_eq_false_iff, decide_eq_false_iff_not]
    (first | (simp +arith only; done) | lia | omega)
  exact tail_any (typeIs_str _ _ _) F.slot_str_getitem.lookup (SB.getItem hr (charAt_isSome (by (first | (simp +arith only; done) | lia | omega)) h1) (pz _ _ _ _ (R) (q))) (hs _ _)

/-- a list's place is stored from behind -/
theorem SetT.list_neg {a : Addr} {xs : List AV} {k : Int} {v : AV} {Q : AH → Prop} (ho : H a = some (.list xs)) (h0 : k < 0) (h1 : -(xs.length : Int) ≤ k) (q : Q (AH.put H a (.list (xs.set (k + xs.length).toNat v)))) (hfit : -(2 ^ 63) ≤ k) :
    SetT ad w sc d (.ref a) (.int k) v loc H Q := by
  intro vo vi vv e1 e2 e3 A B env s r g e R
  refine hideE fun PZ pz => ?_
  refine el1_1 (absV_int e2) ?_
  intro t hE1
  obtain rfl := hE1
  have := absV_ref e1; subst this
  refine el1_2 (R.own _ _ ho) ?_
  intro vs hE1 hm
  refine el1_1 hE1 ?_
  try clear hE1
  intro n ho'
  have hlen : vs.length = xs.length := by rw [← hm, List.length_map]
  have h1' : -(vs.toArray.size : Int) ≤ k := by simpa [hlen] using h1
  have hn' : (k + vs.toArray.size).toNat < vs.toArray.size := by rw [List.size_toArray] at h1' ⊢; (first | (simp +arith only; done) | lia | omega)
  have hl : s.heap.IsList a vs.toArray := ⟨_, ho', rfl, _, rfl⟩
  unfold setItem
  try with_reducible refine wpAny_holding ?_
  first | refine wpAny_bind (wpAny_pure ?_) | skip
  refine wpAny_bind (wpAny_sequenceKey hl.typeIs (by decide) ?_)
  refine wpAny_bind (wpAny_callSpecial?_slot (name := Str.ofString "__setitem__") hl.typeIs slot_list_setitem
    (wpAny_call_entry slot_list_setitem hl.typeIs entry_list_setitem ?_ (args_list_setitem _ _ _)))
  show wpAny _ _ (Builtin.List.listSubscript? (.int k t) >>= _) _ _ s
  refine wpAny_bind (wpAny_listSubscript_int (fitsIndex_neg h0 hfit) ?_)
  have hidx := seqIndex_neg h0 h1'
  have hx' : vs.toArray[(k + vs.toArray.size).toNat]? = some vs.toArray[(k + vs.toArray.size).toNat] := Array.getElem?_eq_getElem hn'
  have e : Obj.mapSeq (·.setIfInBounds (k + vs.toArray.size).toNat vv) { cls := .type "list", data := .seq vs.toArray n } = { cls := .type "list", data := .seq (vs.set (k + xs.length).toNat vv).toArray (n + 0) } := by
    simp [Obj.mapSeq, hlen]
  clear hfit
  obtain ⟨j, rfl⟩ : ∃ j : Nat, k = Int.negSucc j := by
    cases k with
    | ofNat n => exact absurd h0 (Int.not_lt.mpr (Int.natCast_nonneg n))
    | negSucc n => exact ⟨n, rfl⟩
  show wpAny _ _ ((Builtin.List.listItems (.ref a) >>= fun xs => pure ((seqIndex? (Int.negSucc j) xs.size).bind fun i => xs[i]?.map (i, ·))) >>= _) _ _ s
  refine wpAny_bind (wpAny_bind ?_)
  show wpAny _ _ (seqItems? (.ref a) >>= _) _ _ s
  refine wpAny_bind (wpAny_seqItems ho' rfl (wpAny_pure (wpAny_pure ?_)))
  rw [hidx]
  simp only [Option.bind_some, hx', Option.map_some]
  refine wpAny_bind (wpAny_setSeqItemAt ho' rfl ?_)
  refine wpAny_pure ⟨.none, rfl, wpAny_pure (pz _ _ _ _ (R.change ho (Heap.SameBut.update ..) (ao' := .list (xs.set (Int.negSucc j + xs.length).toNat v)) ⟨vs.set (Int.negSucc j + xs.length).toNat vv, ⟨n, ?_⟩, by rw [map_set_abs, hm, e3]⟩) (q))⟩
  rw [Heap.get?_update_self _ ho' (by rw [e]; rfl), e]; rfl
end


theorem small_rng : ∀ k : Fin 1001, Builtin.Range.small 0 ((k.val : Nat) : Int) 1 = true := by decide +kernel

section
variable {ad : Ads} {w : World} {sc : Scope} {d : Nat} {loc : Loc} {H : AH}

theorem CallV.range {n : Int} {Q : AV → AH → Prop} (q : ∀ a, H a = none → Q (.ref a) (AH.put H a (.rng n))) : CallV ad w sc d (.lit (.type "range")) [.int n] loc H Q := by
  intro vf vs hf hvs A B env s r g e R
  refine hideE fun PZ pz => ?_
  have := absV_lit hf; subst this
  refine el1_2 (args1 hvs) ?_
  intro v hE1 h1
  obtain rfl := hE1
  refine el1_1 (absV_int h1) ?_
  intro t hE1
  obtain rfl := hE1
  refine call_range_1 (pz _ _ _ _ (R.alloc (fun _ _ e => Heap.get?_push_of_some _ e) (Nat.le_refl _) (ao := .rng n) ⟨_, _, _, IsRange.new ..⟩) (q _ (R.off (Nat.le_refl _)).h))

theorem SX.for_range {target iter : Expr} {body : List Stmt} {pos : Pos} {Q : AF → Loc → AH → Prop}
    (h : EV ad w sc d absV (eval iter) loc H (fun v H0 => ∃ (a : Addr) (n : Nat) (I : Nat → Loc → AH → Prop), v = .ref a ∧ H0 a = some (.rng n) ∧ n ≤ 1000 ∧ I 0 loc H0 ∧
      (∀ i l H1, i < n → I i l H1 → AT ad w sc d target (.int i) l H1 (fun l2 H2 => SX ad w sc d (execs body) l2 H2 (LoopPost (I (i + 1)) Q))) ∧ (∀ l H1, I n l H1 → Q .next l H1)))
    (hs : ∀ env x, foldedSetIterable iter env x = pure x := by with_unfolding_all (intro _ _; rfl)) :
    SX ad w sc d (exec (.For target iter body [] pos)) loc H Q := by
  intro A B env s r g e R
  refine wpAny_For (h.then r g e R fun v h1 k1 H1 R1 q1 => ?_) (hs env)
  refine hide fun P0 k0 => ?_
  refine el3_6 q1 ?_
  try clear q1
  intro a n I hv hr hn i0 turn fin
  refine el3_1 (R1.own _ _ hr) ?_
  intro t u x hr'
  have hz : Builtin.Range.rangeSize 0 n 1 = n := by rw [rangeSize_one]; split <;> (first | (simp +arith only; done) | lia | omega)
  refine el0_2 (guard_iter R1 { cls := .type "range_iterator", data := .fields #[rawInt 0, rawInt n, rawInt 1] } rfl (fun v q => by cases q)) ?_
  intro gw0 R0
  have it0 : IsRangeIter (h1.push { cls := .type "range_iterator", data := .fields #[rawInt 0, rawInt n, rawInt 1] }) h1.objs.size 0 n 1 := Heap.get?_push_size _ rfl
  refine k0 ?_
  clear k0 P0
  rw [absV_ref hv]
  refine wpAny_pyIter_range hr' (small_rng ⟨n, Nat.lt_succ_of_le hn⟩) ?_
  rw [hz]
  refine for_core (n := n) (J := fun h i => IsRangeIter h h1.objs.size (i : Nat) ((n : Int) - (i : Nat)) 1) r g e R0 gw0 (by simpa using it0) i0 (fun h h' i j em => (em _ (List.mem_singleton.mpr rfl)).symm.trans j)
    (fun i l s H2 K E hlt R2 gw2 it2 iv k => ?_) (fun l s H2 K E R2 gw2 it2 iv k => ?_) fin fun f h' k' l' H' R' q' => fin4 R' q'
  · refine wpAny_pyNext_range_item it2 (by (first | (simp +arith only; done) | lia | omega)) fun h3 it3 sb => k _ h3 _ fun KV E kv => ?_
    have k3 : ∀ b o, b ∉ [h1.objs.size] → s.heap.get? b = some o → h3.get? b = some o := fun b o hb eb => (sb.2 b (not_one hb)).trans eb
    refine let_go it3 rfl (by decide) (kv h3 H2 (Rep.gd_next gw2 R2 k3) (guard_one gw2.b it3 (by intro v q; cases q)) ?_ (turn i l H2 hlt iv))
    have e1 : ((i : Nat) : Int) + 1 = ((i + 1 : Nat) : Int) := rfl
    have e2 : (n : Int) - (i : Nat) - 1 = (n : Int) - ((i + 1 : Nat) : Int) := by (first | (simp +arith only; done) | lia | omega)
    rw [e1, e2] at it3
    exact it3
  · exact wpAny_pyNext_range_end r.1 it2 (by (first | (simp +arith only; done) | lia | omega)) fun h3 eb => k h3 (Rep.gd_end gw2 R2 fun b o hb q => eb b o (not_one hb) q)

theorem mem5 {a b c d e x : Addr} (h : x ∈ [a, b, c, d, e]) : x = a ∨ x = b ∨ x = c ∨ x = d ∨ x = e := by simpa using h
theorem not5 {a b c d e x : Addr} (h : x ∉ [a, b, c, d, e]) : x ≠ a ∧ x ≠ b ∧ x ≠ c ∧ x ≠ d ∧ x ≠ e := by simpa using h
theorem guard_zip {B : PH} {iz ti to i1 i2 a b : Addr} {i j : Nat} {h : Heap} {x u v p q : Value} (gb : ∀ b ∈ [iz, ti, to, i1, i2], B b = none) (z1 : IsZip h iz ti to x) (z2 : IsPair h ti u v) (z3 : IsPair h to p q)
    (z4 : h.IsListIter i1 a i) (z5 : h.IsListIter i2 b j) : Guarded B [iz, ti, to, i1, i2] h := by
  refine el1_3 z4 ?_
  try clear z4
  intro o4 e4 c4 d4
  refine el1_3 z5 ?_
  try clear z5
  intro o5 e5 c5 d5
  refine ⟨gb, fun c hc => ?_, fun c hc o v eo q => ?_⟩
  · rcases mem5 hc with rfl | rfl | rfl | rfl | rfl
    · exact ⟨_, z1⟩
    · exact ⟨_, z2⟩
    · exact ⟨_, z3⟩
    · exact ⟨_, e4⟩
    · exact ⟨_, e5⟩
  · rcases mem5 hc with rfl | rfl | rfl | rfl | rfl
    · rw [z1] at eo; (have hE0 := Option.some.inj eo; subst hE0; clear eo); cases q
    · rw [z2] at eo; (have hE0 := Option.some.inj eo; subst hE0; clear eo); cases q
    · rw [z3] at eo; (have hE0 := Option.some.inj eo; subst hE0; clear eo); cases q
    · rw [e4] at eo; (have hE0 := Option.some.inj eo; subst hE0; clear eo); rw [d4] at q; cases q
    · rw [e5] at eo; (have hE0 := Option.some.inj eo; subst hE0; clear eo); rw [d5] at q; cases q
/-- a new object that a loop's item is -/
theorem Rep.gd_put {B : PH} {W : List Addr} {env : Env} {h h4 : Heap} {x : AO} (R2 : Rep w (gd B W h) env h loc H) (R4 : Rep w (gd B W h4) env h4 loc H) (noW : h.objs.size ∉ W) (hx : Holds w h4 h.objs.size x) :
    Rep w (gd B W h4) env h4 loc (AH.put H h.objs.size x) := by
  have Bf : gd B W h4 h.objs.size = none := by
    unfold gd; rw [if_neg noW]
    have := R2.freshB (Nat.le_refl _)
    unfold gd at this; rw [if_neg noW] at this; exact this
  refine ⟨R4.ns, R4.cl, fun c o ec => ?_, fun c o ec => ?_, R4.keep, R4.frame, R4.clB, R4.clD⟩
  · by_cases qq : c = h.objs.size
    · subst qq; rw [put_same] at ec; (have hE0 := Option.some.inj ec; subst hE0; clear ec); exact hx
    · rw [put_ne qq] at ec; exact R4.own c o ec
  · by_cases qq : c = h.objs.size
    · subst qq
      refine in0_3 (fun z => ?_) Bf (fun x c hk hc z => ?_)
      · have := R2.locals_lt; rw [← z] at this; exact absurd this (Nat.lt_irrefl _)
      · refine el2_3 (R2.cl x hk) ?_
        intro c' v a1 a2 _
        rw [hc] at a1; (have hE0 := Option.some.inj a1; subst hE0; clear a1); subst z
        exact absurd a2.lt (Nat.lt_irrefl _)
    · rw [put_ne qq] at ec; exact R4.apart c o ec

theorem SX.for_zip {elts : List Expr} {x1 : Nat} {tpos : Pos} {func : Expr} {args : List Expr} {cpos : Pos} {body : List Stmt} {pos : Pos} {Q : AF → Loc → AH → Prop}
    (h : EV ad w sc d absV (eval func) loc H (fun f H1 => f = .lit (.type "zip") ∧ AR ad w sc d cpos args loc H1 (fun vs H0 => ∃ (a b : Addr) (xs ys : List AV) (I : Nat → Loc → AH → Prop), vs = [.ref a, .ref b] ∧ xs.length = ys.length ∧ I 0 loc H0 ∧
      (∀ i l H1, I i l H1 → H1 a = some (.list xs) ∧ H1 b = some (.list ys)) ∧
      (∀ i x y l H1 t, xs[i]? = some x → ys[i]? = some y → I i l H1 → H1 t = none → AT ad w sc d (.Tuple elts x1 tpos) (.ref t) l (AH.put H1 t (.tup [x, y])) (fun l2 H2 => SX ad w sc d (execs body) l2 H2 (LoopPost (I (i + 1)) Q))) ∧
      (∀ l H1, I xs.length l H1 → Q .next l H1))))
    (hp : ∀ env, (starEach args env).any (·.1) = false := by with_unfolding_all (intro _; rfl))
    (he : ∀ env, eval (.Call func args [] cpos) env = (eval func env >>= fun f => callWith cpos f [] (backTo cpos (starEach args env)) []) := by with_unfolding_all (intro _; rfl))
    (hs : ∀ env x, foldedSetIterable (.Call func args [] cpos) env x = pure x := by with_unfolding_all (intro _ _; rfl)) :
    SX ad w sc d (exec (.For (.Tuple elts x1 tpos) (.Call func args [] cpos) body [] pos)) loc H Q := by
  intro A B env s r g e R
  refine wpAny_For ?_ (hs env)
  rw [he]
  refine wpAny_bind (h.then r g e R fun f h0 k0 H0 R0 q0 => ?_)
  refine call_with r g e R0 (.type "zip") q0.1 (hp env) q0.2 fun vs h1 k1 H1 R1 q1 => ?_
  refine hide fun P0 k0 => ?_
  refine el5_6 q1 ?_
  try clear q1
  intro a b xs ys I hvs hlen i0 ia turn fin
  refine el2_3 (args2 hvs) ?_
  intro va vb hvs ha hb
  refine el1_2 (R1.own _ _ (ia _ _ _ i0).1) ?_
  intro ws1 hl1 hm1
  refine el1_2 (R1.own _ _ (ia _ _ _ i0).2) ?_
  intro ws2 hl2 hm2
  have la : @LT.lt Nat _ a h1.objs.size := (R1.own _ _ (ia _ _ _ i0).1).lt
  have lb : @LT.lt Nat _ b h1.objs.size := (R1.own _ _ (ia _ _ _ i0).2).lt
  refine k0 ?_
  clear k0 P0
  rw [hvs, absV_ref ha, absV_ref hb, absV_lit q0.1]
  refine call_zip_2 hl1.isList hl2.isList fun h2 z1 z2 z3 z4 z5 z6 z7 => ?_
  refine wpAny_pyIter_zip z1 ?_
  have off : ∀ c ∈ [h1.objs.size + 4, h1.objs.size + 2, h1.objs.size + 3, h1.objs.size, h1.objs.size + 1], Off B env H1 c := fun c hc => R1.off (show h1.objs.size ≤ c by rcases mem5 hc with rfl | rfl | rfl | rfl | rfl <;> first | exact Nat.le_add_right _ _ | exact Nat.le_refl _)
  have gw0 := guard_zip (fun c hc => (off c hc).b) z1 z2 z3 z4 z5
  have R2 : Rep w (gd B _ h2) env h2 loc H1 := R1.gd_in off fun c o _ ec => z7 c o ec
  have D : ZipApart (h1.objs.size + 4) (h1.objs.size + 2) (h1.objs.size + 3) h1.objs.size (h1.objs.size + 1) a b := by
    generalize h1.objs.size = n at la lb
    constructor <;> (intro e; replace e : @Eq Nat _ _ := e; (first | (simp +arith only; done) | lia | omega))
  clear z6 z7 hl1 hm1 hl2 hm2 hvs ha hb off
  revert D z1 z2 z3 z4 z5 gw0 R2
  generalize h1.objs.size + 4 = iz, h1.objs.size + 2 = ti, h1.objs.size + 3 = to, h1.objs.size + 1 = i2
  generalize h1.objs.size = i1
  intro z1 z2 z3 z4 z5 gw0 R2 D
  refine for_core (n := xs.length) (J := fun h i => IsZip h iz ti to .none ∧ IsPair h ti (.ref i1) (.ref i2) ∧ (∃ p q, IsPair h to p q) ∧ h.IsListIter i1 a i ∧ h.IsListIter i2 b i) r g e R2 gw0 ⟨z1, z2, ⟨_, _, z3⟩, z4, z5⟩ i0
    (fun h h' i j em => ?_) (fun i l s H2 K E hlt R2 gw2 it2 iv k => ?_) (fun l s H2 K E R2 gw2 it2 iv k => ?_) fin fun f h' k' l' H' R' q' => fin4 R' q'
  · refine el0_5 j ?_
    try clear j
    intro j1 j2 hE1 j4 j5
    refine el2_1 hE1 ?_
    try clear hE1
    intro p q j3
    exact ⟨(em _ (by simp)).symm.trans j1, (em _ (by simp)).symm.trans j2, ⟨p, q, (em _ (by simp)).symm.trans j3⟩, j4.at fun o e => (em _ (by simp)).symm.trans e, j5.at fun o e => (em _ (by simp)).symm.trans e⟩
  · refine el0_5 it2 ?_
    try clear it2
    intro z1 z2 hE1 z4 z5
    refine el2_1 hE1 ?_
    try clear hE1
    intro p q z3
    refine el1_2 (R2.own _ _ (ia _ _ _ iv).1) ?_
    intro ws1 hl1 hm1
    refine el1_2 (R2.own _ _ (ia _ _ _ iv).2) ?_
    intro ws2 hl2 hm2
    have hx := List.getElem?_eq_getElem hlt
    have hy := List.getElem?_eq_getElem (hlen ▸ hlt)
    refine el1_2 (getElem?_map_abs hm1 hx) ?_
    intro vx hvx hax
    refine el1_2 (getElem?_map_abs hm2 hy) ?_
    intro vy hvy hay
    refine wpAny_pyNext_zip_item D z1 z2 z3 z4 z5 hl1.isList hl2.isList (by simpa using hvx) (by simpa using hvy) fun h3 y1 y3 y4 y5 y6 y7 k3 => k _ h3 _ fun KV E kv => ?_
    refine wpAny_letOwnedTupleGo_zip (s := { s with heap := h3 }) y1 fun h4 x1' sb4 => ?_
    have x2 : IsPair h4 ti (.ref i1) (.ref i2) := (sb4.2 ti D.TIz).trans (k3 ti _ D.TIz D.TITO D.TIi1 D.TIi2 z2)
    have x3 : IsPair h4 to vx vy := (sb4.2 to D.TOz).trans y3
    have x4 : h4.IsListIter i1 a (i + 1) := y4.at fun o e => (sb4.2 i1 D.i1z).trans e
    have x5 : h4.IsListIter i2 b (i + 1) := y5.at fun o e => (sb4.2 i2 D.i2z).trans e
    have x6 : IsPair h4 s.heap.objs.size vx vy := (sb4.2 s.heap.objs.size (Nat.ne_of_gt (Heap.lt_size z1))).trans y6
    have k4 : ∀ c o, c ∉ [iz, ti, to, i1, i2] → s.heap.get? c = some o → h4.get? c = some o := fun c o hc ec => by
      have hc := not5 hc
      exact (sb4.2 c hc.1).trans (k3 c o hc.1 hc.2.2.1 hc.2.2.2.1 hc.2.2.2.2 ec)
    have noW : s.heap.objs.size ∉ [iz, ti, to, i1, i2] := fun hc => by
      refine el1_1 (gw2.s _ hc) ?_
      intro o ho
      exact absurd (Heap.lt_size ho) (Nat.lt_irrefl _)
    exact kv h4 _ (R2.gd_put (x := .tup [xs[i], ys[i]'(hlen ▸ hlt)]) (Rep.gd_next gw2 R2 k4) noW ⟨[vx, vy], ⟨_, x6, rfl, _, rfl⟩, by simp [hax, hay]⟩) (guard_zip gw2.b x1' x2 x3 x4 x5) ⟨x1', x2, ⟨_, _, x3⟩, x4, x5⟩ (turn i _ _ l H2 _ hx hy iv (R2.off (Nat.le_refl _)).h)
  · refine el0_5 it2 ?_
    try clear it2
    intro z1 z2 hE1 z4 z5
    refine el2_1 hE1 ?_
    try clear hE1
    intro p q z3
    refine el1_2 (R2.own _ _ (ia _ _ _ iv).1) ?_
    intro ws1 hl1 hm1
    refine el1_2 (R2.own _ _ (ia _ _ _ iv).2) ?_
    intro ws2 hl2 hm2
    refine wpAny_pyNext_zip_end r.1 D z1 z2 z3 z4 z5 hl1.isList hl2.isList (.inl (by simp [← hm1])) fun h3 eb => k h3 (Rep.gd_end gw2 R2 fun c o hc q => ?_)
    have hc := not5 hc
    exact eb c o hc.1 hc.2.2.1 hc.2.2.2.1 hc.2.2.2.2 q

theorem SX.for_range' {target iter : Expr} {body : List Stmt} {pos : Pos} {Q : AF → Loc → AH → Prop}
    (h : EV ad w sc d absV (eval iter) loc H (fun v H0 => ∃ (a : Addr) (n : Nat) (I : Nat → Loc → AH → Prop), v = .ref a ∧ H0 a = some (.rng n) ∧ n ≤ 1000 ∧ I 0 loc H0 ∧
      (∀ i l H1 N, i < n → I i l H1 → LP (I (i + 1)) Q N → AT ad w sc d target (.int i) l H1 (fun l2 H2 => SX ad w sc d (execs body) l2 H2 N)) ∧ (∀ l H1, I n l H1 → Q .next l H1)))
    (hs : ∀ env x, foldedSetIterable iter env x = pure x := by with_unfolding_all (intro _ _; rfl)) :
    SX ad w sc d (exec (.For target iter body [] pos)) loc H Q :=
  SX.for_range (h.mono fun v H0 => Exists.imp fun a => Exists.imp fun n => Exists.imp fun I => And.imp_right (And.imp_right (And.imp_right (And.imp_right (And.imp_left fun turn i l H1 hi hI => turn i l H1 _ hi hI .post))))) hs
theorem SX.for_zip' {elts : List Expr} {x1 : Nat} {tpos : Pos} {func : Expr} {args : List Expr} {cpos : Pos} {body : List Stmt} {pos : Pos} {Q : AF → Loc → AH → Prop}
    (h : EV ad w sc d absV (eval func) loc H (fun f H1 => f = .lit (.type "zip") ∧ AR ad w sc d cpos args loc H1 (fun vs H0 => ∃ (a b : Addr) (xs ys : List AV) (I : Nat → Loc → AH → Prop), vs = [.ref a, .ref b] ∧ xs.length = ys.length ∧ I 0 loc H0 ∧
      (∀ i l H1, I i l H1 → H1 a = some (.list xs) ∧ H1 b = some (.list ys)) ∧
      (∀ i x y l H1 t N, xs[i]? = some x → ys[i]? = some y → I i l H1 → LP (I (i + 1)) Q N → H1 t = none → AT ad w sc d (.Tuple elts x1 tpos) (.ref t) l (AH.put H1 t (.tup [x, y])) (fun l2 H2 => SX ad w sc d (execs body) l2 H2 N)) ∧
      (∀ l H1, I xs.length l H1 → Q .next l H1))))
    (hp : ∀ env, (starEach args env).any (·.1) = false := by with_unfolding_all (intro _; rfl))
    (he : ∀ env, eval (.Call func args [] cpos) env = (eval func env >>= fun f => callWith cpos f [] (backTo cpos (starEach args env)) []) := by with_unfolding_all (intro _; rfl))
    (hs : ∀ env x, foldedSetIterable (.Call func args [] cpos) env x = pure x := by with_unfolding_all (intro _ _; rfl)) :
    SX ad w sc d (exec (.For (.Tuple elts x1 tpos) (.Call func args [] cpos) body [] pos)) loc H Q :=
  SX.for_zip (h.mono fun f H1 => And.imp_right fun ar => EV.mono ar fun vs H0 => Exists.imp fun a => Exists.imp fun b => Exists.imp fun xs => Exists.imp fun ys => Exists.imp fun I => And.imp_right (And.imp_right (And.imp_right (And.imp_right (And.imp_left fun turn i x y l H1 t hx hy hI ht => turn i x y l H1 t _ hx hy hI .post ht))))) hp he hs
end


section
variable {ad : Ads} {w : World} {sc : Scope} {d : Nat} {loc : Loc} {H : AH}

/-! ### len -/
theorem CallV.len_list {a : Addr} {xs : List AV} {Q : AV → AH → Prop} (ho : H a = some (.list xs)) (q : Q (.int xs.length) H) (hz : xs.length ≤ 1000) : CallV ad w sc d (.lit (.builtin "len")) [.ref a] loc H Q := by
  intro vf vs hf hvs A B env s r g e R
  refine hideE fun PZ pz => ?_
  have := absV_lit hf; subst this
  refine el1_2 (args1 hvs) ?_
  intro v hE1 h1
  obtain rfl := hE1
  have := absV_ref h1; subst this
  refine el1_2 (R.own _ _ ho) ?_
  intro vs hl hm
  have hlen : vs.length = xs.length := by rw [← hm, List.length_map]
  refine Calls.call_len_list hl.isList (by rw [List.size_toArray]; (first | (simp +arith only; done) | lia | omega)) (pz _ _ _ _ (R) (?_))
  show Q (.int (vs.toArray.size : Int)) H
  rw [List.size_toArray, hlen]; exact q
theorem CallV.len_tup {a : Addr} {xs : List AV} {Q : AV → AH → Prop} (ho : H a = some (.tup xs)) (q : Q (.int xs.length) H) (hz : xs.length ≤ 1000) : CallV ad w sc d (.lit (.builtin "len")) [.ref a] loc H Q := by
  intro vf vs hf hvs A B env s r g e R
  refine hideE fun PZ pz => ?_
  have := absV_lit hf; subst this
  refine el1_2 (args1 hvs) ?_
  intro v hE1 h1
  obtain rfl := hE1
  have := absV_ref h1; subst this
  refine el1_2 (R.own _ _ ho) ?_
  intro vs hl hm
  have hlen : vs.length = xs.length := by rw [← hm, List.length_map]
  refine PyProof.Rows.len_tuple hl (by rw [List.size_toArray]; (first | (simp +arith only; done) | lia | omega)) (pz _ _ _ _ (R) (?_))
  show Q (.int (vs.toArray.size : Int)) H
  rw [List.size_toArray, hlen]; exact q

/-! ### isinstance -/
theorem CallV.isi_int_int {i : Int} {Q : AV → AH → Prop} (q : Q (.bool true) H) : CallV ad w sc d (.lit (.builtin "isinstance")) [.int i, .lit (.type "int")] loc H Q := by
  intro vf vs hf hvs A B env s r g e R
  refine hideE fun PZ pz => ?_
  have := absV_lit hf; subst this
  refine el2_3 (args2 hvs) ?_
  intro v u hE1 h1 h2
  obtain rfl := hE1
  refine el1_1 (absV_int h1) ?_
  intro t hE1
  obtain rfl := hE1
  have := absV_lit h2; subst this
  exact IsiPair.int_int (pz _ _ _ _ (R) (q))
theorem CallV.isi_int_str {i : Int} {Q : AV → AH → Prop} (q : Q (.bool false) H) : CallV ad w sc d (.lit (.builtin "isinstance")) [.int i, .lit (.type "str")] loc H Q := by
  intro vf vs hf hvs A B env s r g e R
  refine hideE fun PZ pz => ?_
  have := absV_lit hf; subst this
  refine el2_3 (args2 hvs) ?_
  intro v u hE1 h1 h2
  obtain rfl := hE1
  refine el1_1 (absV_int h1) ?_
  intro t hE1
  obtain rfl := hE1
  have := absV_lit h2; subst this
  exact IsiPair.int_str (pz _ _ _ _ (R) (q))
theorem CallV.isi_str_int {x : Str} {Q : AV → AH → Prop} (q : Q (.bool false) H) : CallV ad w sc d (.lit (.builtin "isinstance")) [.str x, .lit (.type "int")] loc H Q := by
  intro vf vs hf hvs A B env s r g e R
  refine hideE fun PZ pz => ?_
  have := absV_lit hf; subst this
  refine el2_3 (args2 hvs) ?_
  intro v u hE1 h1 h2
  obtain rfl := hE1
  refine el1_1 (absV_str h1) ?_
  intro t hE1
  obtain rfl := hE1
  have := absV_lit h2; subst this
  exact IsiPair.str_int (pz _ _ _ _ (R) (q))
theorem CallV.isi_str_str {x : Str} {Q : AV → AH → Prop} (q : Q (.bool true) H) : CallV ad w sc d (.lit (.builtin "isinstance")) [.str x, .lit (.type "str")] loc H Q := by
  intro vf vs hf hvs A B env s r g e R
  refine hideE fun PZ pz => ?_
  have := absV_lit hf; subst this
  refine el2_3 (args2 hvs) ?_
  intro v u hE1 h1 h2
  obtain rfl := hE1
  refine el1_1 (absV_str h1) ?_
  intro t hE1
  obtain rfl := hE1
  have := absV_lit h2; subst this
  exact IsiPair.str_str (pz _ _ _ _ (R) (q))
theorem CallV.isi_str_list {x : Str} {Q : AV → AH → Prop} (q : Q (.bool false) H) : CallV ad w sc d (.lit (.builtin "isinstance")) [.str x, .lit (.type "list")] loc H Q := by
  intro vf vs hf hvs A B env s r g e R
  refine hideE fun PZ pz => ?_
  have := absV_lit hf; subst this
  refine el2_3 (args2 hvs) ?_
  intro v u hE1 h1 h2
  obtain rfl := hE1
  refine el1_1 (absV_str h1) ?_
  intro t hE1
  obtain rfl := hE1
  have := absV_lit h2; subst this
  exact IsiPair.str_list (pz _ _ _ _ (R) (q))
theorem CallV.isi_str_tuple {x : Str} {Q : AV → AH → Prop} (q : Q (.bool false) H) : CallV ad w sc d (.lit (.builtin "isinstance")) [.str x, .lit (.type "tuple")] loc H Q := by
  intro vf vs hf hvs A B env s r g e R
  refine hideE fun PZ pz => ?_
  have := absV_lit hf; subst this
  refine el2_3 (args2 hvs) ?_
  intro v u hE1 h1 h2
  obtain rfl := hE1
  refine el1_1 (absV_str h1) ?_
  intro t hE1
  obtain rfl := hE1
  have := absV_lit h2; subst this
  exact IsiPair.str_tuple (pz _ _ _ _ (R) (q))
theorem CallV.isi_none_int {Q : AV → AH → Prop} (q : Q (.bool false) H) : CallV ad w sc d (.lit (.builtin "isinstance")) [.none, .lit (.type "int")] loc H Q := by
  intro vf vs hf hvs A B env s r g e R
  refine hideE fun PZ pz => ?_
  have := absV_lit hf; subst this
  refine el2_3 (args2 hvs) ?_
  intro v u hE1 h1 h2
  obtain rfl := hE1
  have := absV_none h1; subst this
  have := absV_lit h2; subst this
  exact IsiPair.NoneType_int (pz _ _ _ _ (R) (q))
theorem CallV.isi_list_list {a : Addr} {xs : List AV} {Q : AV → AH → Prop} (ho : H a = some (.list xs)) (q : Q (.bool true) H) : CallV ad w sc d (.lit (.builtin "isinstance")) [.ref a, .lit (.type "list")] loc H Q := by
  intro vf vs hf hvs A B env s r g e R
  refine hideE fun PZ pz => ?_
  have := absV_lit hf; subst this
  refine el2_3 (args2 hvs) ?_
  intro v u hE1 h1 h2
  obtain rfl := hE1
  have := absV_ref h1; subst this
  have := absV_lit h2; subst this
  refine el1_2 (R.own _ _ ho) ?_
  intro vs hE1 hm
  refine el1_1 hE1 ?_
  try clear hE1
  intro n hl
  exact IsiPair.list_list hl rfl (pz _ _ _ _ (R) (q))
theorem CallV.isi_tup_list {a : Addr} {xs : List AV} {Q : AV → AH → Prop} (ho : H a = some (.tup xs)) (q : Q (.bool false) H) : CallV ad w sc d (.lit (.builtin "isinstance")) [.ref a, .lit (.type "list")] loc H Q := by
  intro vf vs hf hvs A B env s r g e R
  refine hideE fun PZ pz => ?_
  have := absV_lit hf; subst this
  refine el2_3 (args2 hvs) ?_
  intro v u hE1 h1 h2
  obtain rfl := hE1
  have := absV_ref h1; subst this
  have := absV_lit h2; subst this
  refine el1_2 (R.own _ _ ho) ?_
  intro vs hE1 hm
  refine el1_3 hE1 ?_
  try clear hE1
  intro o hl hc _
  exact IsiPair.tuple_list hl hc (pz _ _ _ _ (R) (q))
theorem CallV.isi_tup_tup {a : Addr} {xs : List AV} {Q : AV → AH → Prop} (ho : H a = some (.tup xs)) (q : Q (.bool true) H) : CallV ad w sc d (.lit (.builtin "isinstance")) [.ref a, .lit (.type "tuple")] loc H Q := by
  intro vf vs hf hvs A B env s r g e R
  refine hideE fun PZ pz => ?_
  have := absV_lit hf; subst this
  refine el2_3 (args2 hvs) ?_
  intro v u hE1 h1 h2
  obtain rfl := hE1
  have := absV_ref h1; subst this
  have := absV_lit h2; subst this
  refine el1_2 (R.own _ _ ho) ?_
  intro vs hE1 hm
  refine el1_3 hE1 ?_
  try clear hE1
  intro o hl hc _
  exact IsiPair.tuple_tuple hl hc (pz _ _ _ _ (R) (q))

/-! ### numbers -/
theorem CallV.abs {i : Int} {Q : AV → AH → Prop} (q : Q (.int (if i < 0 then -i else i)) H) : CallV ad w sc d (.lit (.builtin "abs")) [.int i] loc H Q := by
  intro vf vs hf hvs A B env s r g e R
  refine hideE fun PZ pz => ?_
  have := absV_lit hf; subst this
  refine el1_2 (args1 hvs) ?_
  intro v hE1 h1
  obtain rfl := hE1
  refine el1_1 (absV_int h1) ?_
  intro t hE1
  obtain rfl := hE1
  exact PyProof.Rows.call_abs_int fun u tk => (pz _ _ _ _ (R) (q))
theorem CallV.int_bool {b : Bool} {Q : AV → AH → Prop} (q : Q (.int (if b then 1 else 0)) H) : CallV ad w sc d (.lit (.type "int")) [.bool b] loc H Q := by
  intro vf vs hf hvs A B env s r g e R
  refine hideE fun PZ pz => ?_
  have := absV_lit hf; subst this
  refine el1_2 (args1 hvs) ?_
  intro v hE1 h1
  obtain rfl := hE1
  have := absV_bool h1; subst this
  exact call_int_bool (pz _ _ _ _ (R) (q))
theorem CallV.divmod {a b : Int} {Q : AV → AH → Prop} (h0 : 0 < b) (h1 : b < 1000) (q : ∀ n, H n = none → Q (.ref n) (AH.put H n (.tup [.int (a.fdiv b), .int (a.fmod b)]))) : CallV ad w sc d (.lit (.builtin "divmod")) [.int a, .int b] loc H Q := by
  intro vf vs hf hvs A B env s r g e R
  refine hideE fun PZ pz => ?_
  have := absV_lit hf; subst this
  refine el2_3 (args2 hvs) ?_
  intro v u hE1 e1 e2
  obtain rfl := hE1
  refine el1_1 (absV_int e1) ?_
  intro t hE1
  obtain rfl := hE1
  refine el1_1 (absV_int e2) ?_
  intro t2 hE1
  obtain rfl := hE1
  refine divmod_int (by (first | (simp +arith only; done) | lia | omega)) (pz _ _ _ _ (R.alloc (fun _ _ e => Heap.get?_push_of_some _ e) (Nat.le_refl _) (ao := .tup [.int (a.fdiv b), .int (a.fmod b)]) ⟨[_, _], ⟨_, Heap.get?_push_size _ rfl, rfl, _, rfl⟩, rfl⟩) (q _ (R.off (Nat.le_refl _)).h)) (.inl (PyProof.noPylong_small (by (first | (simp +arith only; done) | lia | omega))))

/-! ### containers -/
theorem CallV.tuple_list {a : Addr} {xs : List AV} {Q : AV → AH → Prop} (ho : H a = some (.list xs)) (hz : xs.length ≤ 1000) (q : ∀ n, H n = none → Q (.ref n) (AH.put H n (.tup xs))) : CallV ad w sc d (.lit (.type "tuple")) [.ref a] loc H Q := by
  intro vf vs hf hvs A B env s r g e R
  refine hideE fun PZ pz => ?_
  have := absV_lit hf; subst this
  refine el1_2 (args1 hvs) ?_
  intro v hE1 h1
  obtain rfl := hE1
  have := absV_ref h1; subst this
  refine el1_2 (R.own _ _ ho) ?_
  intro vs hl hm
  have hlen : vs.length = xs.length := by rw [← hm, List.length_map]
  refine call_tuple_list hl.isList (fun h' k => ?_) (by rw [List.size_toArray, sizeLine_eq]; (first | (simp +arith only; done) | lia | omega))
  have R' := R.grow k
  exact (pz _ _ _ _ (R'.alloc (fun _ _ e => Heap.get?_push_of_some _ e) (Nat.le_refl _) (ao := .tup xs) ⟨vs, ⟨_, Heap.get?_push_size _ rfl, rfl, _, rfl⟩, hm⟩) (q _ (R'.off (Nat.le_refl _)).h))

theorem CallV.dict_dict {a : Addr} {kvs : List (Str × AV)} {Q : AV → AH → Prop} (ho : H a = some (.dict kvs)) (hz : kvs.length ≤ 1000) (q : ∀ n, H n = none → Q (.ref n) (AH.put H n (.dict kvs))) : CallV ad w sc d (.lit (.type "dict")) [.ref a] loc H Q := by
  intro vf vs hf hvs A B env s r g e R
  refine hideE fun PZ pz => ?_
  have := absV_lit hf; subst this
  refine el1_2 (args1 hvs) ?_
  intro v hE1 h1
  obtain rfl := hE1
  have := absV_ref h1; subst this
  refine el1_2 (R.own _ _ ho) ?_
  intro kvs' hd hm
  have hlen : kvs'.length = kvs.length := by rw [← hm, List.length_map]
  refine kt_call_dict (knd := sk w) (g.low' R ho) hd (by rw [sizeLine_eq]; (first | (simp +arith only; done) | lia | omega)) fun h' hd' sb => ?_
  have k : ∀ b o, s.heap.get? b = some o → h'.get? b = some o := fun b o e => (sb.2 b (Nat.ne_of_lt (Heap.lt_size e))).trans (Heap.get?_push_of_some _ e)
  exact (pz _ _ _ _ (R.alloc k (Nat.le_refl _) (ao := .dict kvs) ⟨kvs', hd', hm⟩) (q _ (R.off (Nat.le_refl _)).h))

theorem Bin.add_list {a b : Addr} {xs ys : List AV} {Q : AV → AH → Prop} (ha : H a = some (.list xs)) (hb : H b = some (.list ys)) (hz : xs.length + ys.length ≤ 1000) (q : ∀ n, H n = none → Q (.ref n) (AH.put H n (.list (xs ++ ys)))) :
    Bin ad w sc d .Add (.ref a) (.ref b) loc H Q := by
  intro va vb e1 e2 A B env s r g e R
  refine hideE fun PZ pz => ?_
  have := absV_ref e1; subst this
  have := absV_ref e2; subst this
  refine el1_2 (R.own _ _ ha) ?_
  intro vs hE1 m1
  refine el1_1 hE1 ?_
  try clear hE1
  intro n h1
  refine el1_2 (R.own _ _ hb) ?_
  intro us hE1 m2
  refine el1_1 hE1 ?_
  try clear hE1
  intro k h2
  have l1 : vs.length = xs.length := by rw [← m1, List.length_map]
  have l2 : us.length = ys.length := by rw [← m2, List.length_map]
  refine P.add_list h1 h2 (pz _ _ _ _ (R.alloc (fun _ _ e => Heap.get?_push_of_some _ e) (Nat.le_refl _) (ao := .list (xs ++ ys)) ⟨vs ++ us, ⟨0, ?_⟩, by rw [List.map_append, m1, m2]⟩) (q _ (R.off (Nat.le_refl _)).h)) (by simp only [List.size_toArray, sizeLine_eq]; (first | (simp +arith only; done) | lia | omega))
  rw [Heap.get?_push_size _ rfl]; simp
end


mutual
noncomputable def RD (H : AH) : PyData → AV → Prop
  | .none, v => v = .none
  | .bool b, v => v = .bool b
  | .int i, v => v = .int i
  | .str x, v => v = .str x
  | .list xs, v => ∃ a vs, v = .ref a ∧ H a = some (.list vs) ∧ RDs H xs vs
  | .tuple xs, v => ∃ a vs, v = .ref a ∧ H a = some (.tup vs) ∧ RDs H xs vs
  | .dict _, _ => False
noncomputable def RDs (H : AH) : List PyData → List AV → Prop
  | [], vs => vs = []
  | x :: xs, vs => ∃ v r, vs = v :: r ∧ RD H x v ∧ RDs H xs r
end

mutual
theorem RD.det {H : AH} : ∀ (d d' : PyData) (v : AV), RD H d v → RD H d' v → d = d'
  | .none, d', v, h, h' => by simp only [RD] at h; subst h; cases d' <;> simp [RD] at h' ⊢
  | .bool b, d', v, h, h' => by simp only [RD] at h; subst h; cases d' <;> simp [RD] at h' ⊢; exact h'
  | .int b, d', v, h, h' => by simp only [RD] at h; subst h; cases d' <;> simp [RD] at h' ⊢; exact h'
  | .str b, d', v, h, h' => by simp only [RD] at h; subst h; cases d' <;> simp [RD] at h' ⊢; exact h'
  | .list xs, d', v, h, h' => by
    simp only [RD] at h; obtain ⟨a, vs, rfl, h1, h2⟩ := h
    cases d' with
    | list ys =>
      simp only [RD] at h'; obtain ⟨a', vs', e, h3, h4⟩ := h'
      (have hE0 := refE e; subst hE0; clear e); rw [h1] at h3; (have hE0 := slE h3; subst hE0; clear h3)
      rw [RDs.det xs ys vs h2 h4]
    | tuple ys =>
      simp only [RD] at h'; obtain ⟨a', vs', e, h3, h4⟩ := h'
      (have hE0 := refE e; subst hE0; clear e); rw [h1] at h3; cases h3
    | _ => simp [RD] at h'
  | .tuple xs, d', v, h, h' => by
    simp only [RD] at h; obtain ⟨a, vs, rfl, h1, h2⟩ := h
    cases d' with
    | tuple ys =>
      simp only [RD] at h'; obtain ⟨a', vs', e, h3, h4⟩ := h'
      (have hE0 := refE e; subst hE0; clear e); rw [h1] at h3; (have hE0 := stE h3; subst hE0; clear h3)
      rw [RDs.det xs ys vs h2 h4]
    | list ys =>
      simp only [RD] at h'; obtain ⟨a', vs', e, h3, h4⟩ := h'
      (have hE0 := refE e; subst hE0; clear e); rw [h1] at h3; cases h3
    | _ => simp [RD] at h'
  | .dict _, d', v, h, h' => by simp [RD] at h
theorem RDs.det {H : AH} : ∀ (d d' : List PyData) (v : List AV), RDs H d v → RDs H d' v → d = d'
  | [], d', v, h, h' => by
    simp only [RDs] at h; subst h
    cases d' with
    | nil => rfl
    | cons x xs => simp [RDs] at h'
  | x :: xs, d', v, h, h' => by
    simp only [RDs] at h; obtain ⟨u, r, rfl, h1, h2⟩ := h
    cases d' with
    | nil => simp [RDs] at h'
    | cons y ys =>
      simp only [RDs] at h'; obtain ⟨u', r', e, h3, h4⟩ := h'
      cases e
      rw [RD.det x y u h1 h3, RDs.det xs ys r h2 h4]
end

mutual
theorem RD.reads {w : World} {B : PH} {env : Env} {h : Heap} {loc : Loc} {H : AH} (R : Rep w B env h loc H) : ∀ (d : PyData) (v : Value), RD H d (absV v) → ∃ as, Reads h v d as
  | .none, v, x => by simp only [RD] at x; rw [absV_none x]; exact ⟨_, .none⟩
  | .bool b, v, x => by simp only [RD] at x; rw [absV_bool x]; exact ⟨_, .bool b⟩
  | .int b, v, x => by simp only [RD] at x; obtain ⟨t, rfl⟩ := absV_int x; exact ⟨_, .int b t⟩
  | .str b, v, x => by simp only [RD] at x; obtain ⟨t, rfl⟩ := absV_str x; exact ⟨_, .str b t⟩
  | .list xs, v, x => by
    simp only [RD] at x; obtain ⟨a, vs, e, h1, h2⟩ := x
    have := absV_ref e; subst this
    refine el1_2 (R.own _ _ h1) ?_
    intro us hE1 hm
    refine el1_1 hE1 ?_
    try clear hE1
    intro n hl
    subst hm
    refine el1_1 (RDs.reads R xs us h2) ?_
    intro as ha
    exact ⟨_, .list hl rfl rfl ha⟩
  | .tuple xs, v, x => by
    simp only [RD] at x; obtain ⟨a, vs, e, h1, h2⟩ := x
    have := absV_ref e; subst this
    refine el1_2 (R.own _ _ h1) ?_
    intro us hE1 hm
    refine hide fun PZ kZ => ?_
    obtain ⟨o, hl, hc, n, hd⟩ := hE1
    refine kZ ?_
    clear kZ PZ
    subst hm
    refine el1_1 (RDs.reads R xs us h2) ?_
    intro as ha
    exact ⟨_, .tuple hl hc hd ha⟩
  | .dict _, v, x => by simp [RD] at x
theorem RDs.reads {w : World} {B : PH} {env : Env} {h : Heap} {loc : Loc} {H : AH} (R : Rep w B env h loc H) : ∀ (d : List PyData) (vs : List Value), RDs H d (vs.map absV) → ∃ as, ReadsAll h vs d as
  | [], vs, x => by
    simp only [RDs, List.map_eq_nil_iff] at x; subst x; exact ⟨_, .nil⟩
  | y :: ys, vs, x => by
    simp only [RDs] at x; obtain ⟨u, r, e, h1, h2⟩ := x
    refine el2_3 (List.map_eq_cons_iff.mp e) ?_
    intro v vs hE1 hE2 hE3
    obtain rfl := hE1
    obtain rfl := hE2
    obtain rfl := hE3
    refine el1_1 (RD.reads R y v h1) ?_
    intro as ha
    refine el1_1 (RDs.reads R ys vs h2) ?_
    intro bs hb
    exact ⟨_, .cons ha hb⟩
end

theorem RDs.get {H : AH} : ∀ {xs : List PyData} {vs : List AV}, RDs H xs vs → vs.length = xs.length ∧ ∀ j : Nat, ∀ v, vs[j]? = some v → ∃ x, xs[j]? = some x ∧ RD H x v
  | [], vs, h => by simp only [RDs] at h; subst h; simp
  | x :: xs, vs, h => by
    simp only [RDs] at h; obtain ⟨u, r, rfl, h1, h2⟩ := h
    refine el0_2 (RDs.get h2) ?_
    intro e f
    refine ⟨by simp [e], fun j v hv => ?_⟩
    cases j with
    | zero => simp at hv; subst hv; exact in1_2 x rfl h1
    | succ j => simp at hv ⊢; exact f j v hv
theorem RDs.get' {H : AH} : ∀ {xs : List PyData} {vs : List AV}, RDs H xs vs → ∀ j : Nat, ∀ x, xs[j]? = some x → ∃ v, vs[j]? = some v ∧ RD H x v
  | [], vs, h => by simp
  | x :: xs, vs, h => by
    simp only [RDs] at h; obtain ⟨u, r, rfl, h1, h2⟩ := h
    have f := RDs.get' h2
    intro j v hv
    cases j with
    | zero => simp at hv; subst hv; exact in1_2 u rfl h1
    | succ j => simp at hv ⊢; exact f j v hv

section
variable {ad : Ads} {w : World} {sc : Scope} {d : Nat} {loc : Loc} {H : AH}

theorem Room.data {A : Around} (r : Room A d) (hd : 1 ≤ d) {k : Nat} (hk : k ≤ 10) : A.units + k < cLine := by have := r.2.2; (first | (simp +arith only; done) | lia | omega)
theorem Room.data1 {A : Around} (r : Room A d) (hd : 1 ≤ d) {k : Nat} (hk : k ≤ 10) : A.in1.units + k < cLine := by have := r.2.2; show A.units + 1 + k < _; (first | (simp +arith only; done) | lia | omega)

theorem Cmp.eq_data {da db : PyData} {a b : AV} {Q : Bool → AH → Prop} (ha : RD H da a) (hb : RD H db b) (q : Q (PyData.eqv da db) H) (ca : da.canLay0 = true) (cb : db.canLay0 = true) (hd : min da.depth db.depth ≤ 10) (hr : 1 ≤ d) :
    Cmp ad w sc d .Eq a b loc H Q := by
  intro va vb e1 e2 A B env s r g e R
  subst e1 e2
  refine el1_1 (RD.reads R da va ha) ?_
  intro as ra
  refine el1_1 (RD.reads R db vb hb) ?_
  intro bs rb
  exact SeqAt.compareEq_reads ra rb ca cb (r.data hr hd) ⟨_, _, H, rfl, R, _, rfl, q⟩
theorem Cmp.ne_data {da db : PyData} {a b : AV} {Q : Bool → AH → Prop} (ha : RD H da a) (hb : RD H db b) (q : Q (!PyData.eqv da db) H) (ca : da.canLay0 = true) (cb : db.canLay0 = true) (hd : min da.depth db.depth ≤ 10) (hr : 1 ≤ d) :
    Cmp ad w sc d .NotEq a b loc H Q := by
  intro va vb e1 e2 A B env s r g e R
  subst e1 e2
  refine el1_1 (RD.reads R da va ha) ?_
  intro as ra
  refine el1_1 (RD.reads R db vb hb) ?_
  intro bs rb
  exact SeqAt.compareNe_reads ra rb ca cb (r.data hr hd) ⟨_, _, H, rfl, R, _, rfl, q⟩

/-- how an item answers to x -/
noncomputable def ansTo (H : AH) (dx : PyData) (y : Value) : Bool := by
  classical
  exact if h : ∃ e, RD H e (absV y) then PyData.eqv h.choose dx else false
theorem ansTo_of {dx e : PyData} {y : Value} (h : RD H e (absV y)) : ansTo H dx y = PyData.eqv e dx := by
  unfold ansTo
  have hx : ∃ e, RD H e (absV y) := ⟨e, h⟩
  rw [dif_pos hx, RD.det _ _ _ hx.choose_spec h]

theorem canAll {xs : List PyData} (h : PyData.canLayAll0 xs = true) : ∀ x ∈ xs, x.canLay0 = true := by
  induction xs with
  | nil => intro x hx; cases hx
  | cons y ys ih =>
    simp only [PyData.canLayAll0, Bool.and_eq_true] at h
    intro x hx
    cases hx with
    | head => exact h.1
    | tail _ hx => exact ih h.2 x hx
theorem depAll {xs : List PyData} : ∀ x ∈ xs, x.depth ≤ PyData.depthAll xs := by
  induction xs with
  | nil => intro x hx; cases hx
  | cons y ys ih =>
    intro x hx
    simp only [PyData.depthAll]
    cases hx with
    | head => (first | (simp +arith only; done) | lia | omega)
    | tail _ hx => have := ih x hx; (first | (simp +arith only; done) | lia | omega)

theorem any_ans {xs : List PyData} {us : List Value} {dx : PyData} (h : RDs H xs (us.map absV)) : us.any (ansTo H dx) = xs.any (fun e => PyData.eqv e dx) := by
  induction xs generalizing us with
  | nil => simp only [RDs, List.map_eq_nil_iff] at h; subst h; rfl
  | cons x xs ih =>
    simp only [RDs] at h; obtain ⟨u, r, e, h1, h2⟩ := h
    refine el2_3 (List.map_eq_cons_iff.mp e) ?_
    intro v vs hE1 hE2 hE3
    obtain rfl := hE1
    obtain rfl := hE2
    obtain rfl := hE3
    rw [List.any_cons, List.any_cons, ih h2, ansTo_of h1]

theorem eqAt_items {A : Around} {B : PH} {env : Env} {s : Shared} {xs : List PyData} {us : List Value} {dx : PyData} {x : Value} (r : Room A d) (hr : 1 ≤ d) (R : Rep w B env s.heap loc H) (h : RDs H xs (us.map absV)) (hx : RD H dx (absV x))
    (ca : PyData.canLayAll0 xs = true) (cx : dx.canLay0 = true) (hd : dx.depth ≤ 10) : ∀ y ∈ us.toArray, SeqAt.EqAt A.in1 s y x (ansTo H dx y) := fun y hy => by
  refine el1_1 (List.mem_iff_getElem?.mp (by simpa using hy)) ?_
  intro j hj
  refine el1_2 ((RDs.get h).2 j (absV y) (by rw [List.getElem?_map, hj]; rfl)) ?_
  intro e he h1
  refine el1_1 (RD.reads R e y h1) ?_
  intro as ra
  refine el1_1 (RD.reads R dx x hx) ?_
  intro bs rb
  rw [ansTo_of h1]
  exact SeqAt.eqAt_reads _ _ _ _ _ _ _ _ ra rb (canAll ca e (List.mem_iff_getElem?.mpr ⟨j, he⟩)) cx (r.data1 hr (by (first | (simp +arith only; done) | lia | omega)))

theorem Cmp.in_data {xs : List PyData} {dx : PyData} {x : AV} {a : Addr} {vs : List AV} {Q : Bool → AH → Prop} (ho : H a = some (.list vs)) (hs : RDs H xs vs) (hx : RD H dx x) (q : Q (xs.any fun e => PyData.eqv e dx) H)
    (ca : PyData.canLayAll0 xs = true) (cx : dx.canLay0 = true) (hd : dx.depth ≤ 10) (hr : 1 ≤ d) : Cmp ad w sc d .In x (.ref a) loc H Q := by
  intro va vb e1 e2 A B env s r g e R
  subst e1
  have := absV_ref e2; subst this
  refine el1_2 (R.own _ _ ho) ?_
  intro us hl hm
  subst hm
  refine SeqAt.in_listAt (ansTo H dx) hl.isList (eqAt_items r hr R hs hx ca cx hd) ⟨_, _, H, rfl, R, _, rfl, ?_⟩
  rw [List.any_toArray, any_ans hs]; exact q
theorem Cmp.notin_data {xs : List PyData} {dx : PyData} {x : AV} {a : Addr} {vs : List AV} {Q : Bool → AH → Prop} (ho : H a = some (.list vs)) (hs : RDs H xs vs) (hx : RD H dx x) (q : Q (!xs.any fun e => PyData.eqv e dx) H)
    (ca : PyData.canLayAll0 xs = true) (cx : dx.canLay0 = true) (hd : dx.depth ≤ 10) (hr : 1 ≤ d) : Cmp ad w sc d .NotIn x (.ref a) loc H Q := by
  intro va vb e1 e2 A B env s r g e R
  subst e1
  have := absV_ref e2; subst this
  refine el1_2 (R.own _ _ ho) ?_
  intro us hl hm
  subst hm
  refine SeqAt.notIn_listAt (ansTo H dx) hl.isList (eqAt_items r hr R hs hx ca cx hd) ⟨_, _, H, rfl, R, _, rfl, ?_⟩
  rw [List.any_toArray, any_ans hs]; exact q
theorem CallV.index {xs : List PyData} {dx : PyData} {x : AV} {a : Addr} {vs : List AV} {j : Nat} {Q : AV → AH → Prop} (ho : H a = some (.list vs)) (hs : RDs H xs vs) (hx : RD H dx x) (hj : j < xs.length) (hz : xs.length ≤ 1000)
    (hit : ∀ e, xs[j]? = some e → PyData.eqv e dx = true) (hno : ∀ m e, m < j → xs[m]? = some e → PyData.eqv e dx = false) (q : Q (.int j) H)
    (ca : PyData.canLayAll0 xs = true) (cx : dx.canLay0 = true) (hd : dx.depth ≤ 10) (hr : 1 ≤ d) : CallV ad w sc d (.lit (.builtin "list.index")) [.ref a, x] loc H Q := by
  intro vf vs' hf hvs A B env s r g e R
  refine hideE fun PZ pz => ?_
  have := absV_lit hf; subst this
  refine el2_3 (args2 hvs) ?_
  intro v u hE1 h1 h2
  obtain rfl := hE1
  have := absV_ref h1; subst this
  subst h2
  refine el1_2 (R.own _ _ ho) ?_
  intro us hE1 hm
  refine el1_1 hE1 ?_
  try clear hE1
  intro n hl
  subst hm
  have len := (RDs.get hs).1
  rw [List.length_map] at len
  have at_ : ∀ m (hm : m < us.toArray.size), ∃ e, xs[m]? = some e ∧ ansTo H dx us.toArray[m] = PyData.eqv e dx := fun m hm => by
    refine el1_2 ((RDs.get hs).2 m (absV us.toArray[m]) (by rw [List.getElem?_map, List.getElem?_eq_getElem (by simpa using hm)]; simp)) ?_
    intro e he h1
    exact in1_2 e he (ansTo_of h1)
  have hj' : j < us.toArray.size := by rw [List.size_toArray]; (first | (simp +arith only; done) | lia | omega)
  refine call_meets PySem.F.slot_list_index ⟨_, hl, rfl⟩ PySem.F.entry_list_index (PySem.F.args_list_index_2 _ _) (SeqAt.list_indexAt a us.toArray n none #[] u (ansTo H dx) j hj' (by (first | (simp +arith only; done) | lia | omega)) ?_ ?_) ⟨hl, ?_, ?_⟩
  · refine el1_2 (at_ j hj') ?_
    intro e he h1
    rw [h1]; exact hit e he
  · intro m hm hlt
    refine el1_2 (at_ m hm) ?_
    intro e he h1
    rw [h1]; exact hno m e hlt he
  · intro y hy
    exact (eqAt_items r hr R hs hx ca cx hd y hy)
  · exact (pz _ _ _ _ (R) (q))
end


/-! ### a sequence's iterator, list or tuple -/
noncomputable def aseq (tup : Bool) (xs : List AV) : AO := if tup then .tup xs else .list xs
noncomputable def IterAt (tup : Bool) (h : Heap) (it a : Addr) (i : Nat) : Prop := if tup then h.IsTupleIter it a i else h.IsListIter it a i
noncomputable def iterName (tup : Bool) : String := if tup then "tuple_iterator" else "list_iterator"

theorem IterAt.obj {tup : Bool} {h : Heap} {it a : Addr} {i : Nat} (x : IterAt tup h it a i) : ∃ o, h.get? it = some o ∧ o.cls = .type (iterName tup) ∧ ∀ v, o.data ≠ .cell v := by
  cases tup with
  | true => obtain ⟨o, ho, hc, hd⟩ := x; exact in1_3 o ho hc (fun v q => by rw [hd] at q; cases q)
  | false => obtain ⟨o, ho, hc, hd⟩ := x; exact in1_3 o ho hc (fun v q => by rw [hd] at q; cases q)
theorem IterAt.move {tup : Bool} {h h' : Heap} {it a : Addr} {i : Nat} (x : IterAt tup h it a i) (e : h.get? it = h'.get? it) : IterAt tup h' it a i := by
  cases tup with
  | true => obtain ⟨o, ho, r⟩ := x; exact in1_2 o (e ▸ ho) r
  | false => obtain ⟨o, ho, r⟩ := x; exact in1_2 o (e ▸ ho) r

section
variable {ad : Ads} {w : World} {sc : Scope} {d : Nat} {loc : Loc} {H : AH}

theorem seq_iter {tup : Bool} {B : PH} {env : Env} {A : Around} {E : Value → Shared → Prop} {s : Shared} {a : Addr} {xs : List AV} {Q : Value → Shared → Prop} (R : Rep w B env s.heap loc H) (ho : H a = some (aseq tup xs))
    (q : ∀ o : Obj, o.isFreed = false → (∀ v, o.data ≠ .cell v) → IterAt tup (s.heap.push o) s.heap.objs.size a 0 → Q (.ref s.heap.objs.size) { s with heap := s.heap.push o }) : wpAny (model prog w) A (pyIter (.ref a)) Q E s := by
  cases tup with
  | true =>
    refine el1_2 (R.own _ _ ho) ?_
    intro vs hl hm
    exact wpAny_pyIter_tuple hl (q _ rfl (fun v q => by cases q) ⟨_, Heap.get?_push_size _ rfl, rfl, rfl⟩)
  | false =>
    refine el1_2 (R.own _ _ ho) ?_
    intro vs hl hm
    exact wpAny_pyIter_list hl.isList (q _ rfl (fun v q => by cases q) ⟨_, Heap.get?_push_size _ rfl, rfl, rfl⟩)
theorem seq_iter_again {tup : Bool} {A : Around} {E : Value → Shared → Prop} {s : Shared} {a it : Addr} {i : Nat} {Q : Value → Shared → Prop} (x : IterAt tup s.heap it a i) (q : Q (.ref it) s) : wpAny (model prog w) A (pyIter (.ref it)) Q E s := by
  cases tup with
  | true => exact wpAny_pyIter_tupleiter x q
  | false => exact wpAny_pyIter_listiter x q
theorem seq_item {tup : Bool} {B : PH} {env : Env} {A : Around} {E : Value → Shared → Prop} {s : Shared} {a it : Addr} {xs : List AV} {i : Nat} {x : AV} {Q : Option Value → Shared → Prop} (R : Rep w B env s.heap loc H) (ho : H a = some (aseq tup xs))
    (hi : IterAt tup s.heap it a i) (hx : xs[i]? = some x) (q : ∀ v h', absV v = x → IterAt tup h' it a (i + 1) → Heap.SameBut it s.heap h' → Q (some v) { s with heap := h' }) : wpAny (model prog w) A (pyNext (.ref it)) Q E s := by
  cases tup with
  | true =>
    refine el1_2 (R.own _ _ ho) ?_
    intro vs hl hm
    refine el1_2 (getElem?_map_abs hm hx) ?_
    intro v hvv hav
    exact wpAny_pyNext_tuple_item hi hl (by simpa using hvv) fun h' i' sb => q v h' hav i' sb
  | false =>
    refine el1_2 (R.own _ _ ho) ?_
    intro vs hl hm
    refine el1_2 (getElem?_map_abs hm hx) ?_
    intro v hvv hav
    exact wpAny_pyNext_list_item hi hl.isList (by simpa using hvv) fun h' i' sb => q v h' hav i' sb
theorem seq_end {tup : Bool} {B : PH} {env : Env} {A : Around} {E : Value → Shared → Prop} {s : Shared} {a it : Addr} {xs : List AV} {Q : Option Value → Shared → Prop} (r : A.handled = none) (R : Rep w B env s.heap loc H) (ho : H a = some (aseq tup xs))
    (hi : IterAt tup s.heap it a xs.length) (q : ∀ h', Heap.ExtBut it s.heap h' → Q none { s with heap := h' }) : wpAny (model prog w) A (pyNext (.ref it)) Q E s := by
  cases tup with
  | true =>
    refine el1_2 (R.own _ _ ho) ?_
    intro vs hl hm
    exact wpAny_pyNext_tuple_end r hi hl (by simp [← hm]) fun h' sb => q h' sb
  | false =>
    refine el1_2 (R.own _ _ ho) ?_
    intro vs hl hm
    exact wpAny_pyNext_list_end r hi hl.isList (by simp [← hm]) fun h' sb => q h' sb

/-! ### the comprehension's frame -/
noncomputable def relS (scope sc : Scope) : Scope := { scope with names := scope.names.map fun (n, k) => if (k == .free && sc.names.lookup n == some .cell) then (n, .cell) else (n, k) }
theorem relS_eq {scope : Scope} {env : Env} (e : EnvIs sc env) : relabel scope env = relS scope sc := by
  unfold relabel relS
  congr 1
  apply List.map_congr_left
  rintro hI0 _
  refine hide fun PZ kZ => ?_
  obtain ⟨n, k⟩ := hI0
  refine kZ ?_
  clear kZ PZ
  have h1 : (env.scope.kind == ScopeKind.function) = true := by rw [e.scope, e.kind]; rfl
  have h2 : env.kindOf n = sc.names.lookup n := by unfold Env.kindOf; rw [e.scope]
  simp only [h1, h2, Bool.and_true]

noncomputable def closL (env : Env) : List (Str × NameKind) → List (Str × Addr) → List (Str × Addr)
  | [], acc => acc
  | (n, k) :: r, acc => closL env r (if k == .free then (n, (env.cells.lookup n).getD 0) :: acc else acc)
theorem clos_run {env : Env} (f : Str × NameKind → List (Str × Addr) → Sem (ForInStep (List (Str × Addr)))) (hf : ∀ n k cs, f (n, k) cs = if k == .free then cellOf env n >>= fun c => pure (.yield ((n, c) :: cs)) else pure (.yield cs)) :
    ∀ (names : List (Str × NameKind)) (acc : List (Str × Addr)), (∀ n, (n, NameKind.free) ∈ names → (env.cells.lookup n).isSome = true) → forIn names acc f = pure (closL env names acc)
  | [], acc, _ => rfl
  | (n, k) :: r, acc, h => by
    rw [List.forIn_cons, hf]
    have ih := fun acc => clos_run f hf r acc fun n hn => h n (.tail _ hn)
    unfold closL
    by_cases hk : (k == NameKind.free) = true
    · have hk' : k = .free := by simpa using hk
      subst hk'
      refine el1_1 (Option.isSome_iff_exists.mp (h n (.head _))) ?_
      intro c hc
      simp only [if_true, beq_self_eq_true]
      unfold cellOf
      rw [hc]
      exact ih _
    · rw [if_neg hk, if_neg hk]
      exact ih _
theorem clos_eq {scope : Scope} {env : Env} (h : ∀ n, (n, NameKind.free) ∈ scope.names → (env.cells.lookup n).isSome = true) : closureFor scope env = pure (closL env scope.names []) := by
  unfold closureFor
  dsimp only
  rw [clos_run (env := env) _ (fun n k cs => rfl) scope.names [] h]
  rfl
theorem closL_get {env : Env} {x : Str} : ∀ {names : List (Str × NameKind)} {acc : List (Str × Addr)}, (∀ n, (n, NameKind.free) ∈ names → (env.cells.lookup n).isSome = true) → (∀ c, acc.lookup x = some c → env.cells.lookup x = some c) →
    ∀ c, (closL env names acc).lookup x = some c → env.cells.lookup x = some c
  | [], acc, _, h, c, e => h c e
  | (n, k) :: r, acc, hf, h, c, e => by
    unfold closL at e
    refine closL_get (names := r) (fun n hn => hf n (.tail _ hn)) (fun c' e' => ?_) c e
    by_cases hk : (k == NameKind.free) = true
    · have hk' : k = .free := by simpa using hk
      subst hk'
      rw [if_pos hk, List.lookup_cons] at e'
      refine el1_1 (Option.isSome_iff_exists.mp (hf n (.head _))) ?_
      intro c0 hc0
      cases hx : x == n with
      | true => rw [hx, hc0] at e'; have := eq_of_beq hx; subst this; (have hE0 := Option.some.inj e'; subst hE0; clear e'); exact hc0
      | false => rw [hx] at e'; exact h c' e'
    · rw [if_neg hk] at e'; exact h c' e'
theorem closL_some {env : Env} {x : Str} : ∀ {names : List (Str × NameKind)} {acc : List (Str × Addr)}, (x, NameKind.free) ∈ names ∨ (acc.lookup x).isSome = true → ((closL env names acc).lookup x).isSome = true
  | [], acc, h => h.elim (fun h => nomatch h) id
  | (n, k) :: r, acc, h => by
    unfold closL
    refine closL_some (names := r) ?_
    rcases h with h | h
    · cases h with
      | head => exact .inr (by simp [List.lookup_cons])
      | tail _ h => exact .inl h
    · refine .inr ?_
      split
      · rw [List.lookup_cons]; split <;> first | rfl | exact h
      · exact h

theorem map_lookup_cell {x : Str} : ∀ {names : List (Str × NameKind)}, (∀ y ∈ names, y.2 ≠ .cell) → (names.map fun (n, k) => if (k == NameKind.free && sc.names.lookup n == some .cell) then (n, NameKind.cell) else (n, k)).lookup x = some .cell →
    (x, NameKind.free) ∈ names ∧ sc.names.lookup x = some .cell
  | [], _, h => by simp at h
  | (n, k) :: r, hc, h => by
    have ih := @map_lookup_cell x r fun y hy => hc y (.tail _ hy)
    rw [List.map_cons] at h
    by_cases hk : (k == NameKind.free && sc.names.lookup n == some .cell) = true
    · simp only [hk, if_true, List.lookup_cons] at h
      cases hx : x == n with
      | true =>
        have := eq_of_beq hx; subst this
        rw [Bool.and_eq_true, beq_iff_eq, beq_iff_eq] at hk
        rw [← hk.1]; exact ⟨.head _, hk.2⟩
      | false => rw [hx] at h; exact ⟨.tail _ (ih h).1, (ih h).2⟩
    · simp only [hk, Bool.false_eq_true, if_false, List.lookup_cons] at h
      cases hx : x == n with
      | true => rw [hx] at h; (have hE0 := Option.some.inj h; subst hE0; clear h); exact absurd rfl (hc _ (.head _))
      | false => rw [hx] at h; exact ⟨.tail _ (ih h).1, (ih h).2⟩

structure CompOK (scope sc : Scope) : Prop where
  cell : ∀ y ∈ scope.names, y.2 ≠ .cell
  free : ∀ n, (n, NameKind.free) ∈ scope.names → sc.names.lookup n = some .cell
  kind : scope.kind = .function
  names : ∀ x ∈ scope.names, x.2 = .local → scope.names.lookup x.1 = some .local
  zero : ((relS scope sc).names.lookup (".0" : Str)).isNone = false

noncomputable def compOK (scope sc : Scope) : Bool := (scope.names.all fun y => y.2 != .cell && (y.2 != .free || sc.names.lookup y.1 == some .cell) && (y.2 != .local || scope.names.lookup y.1 == some .local)) && (scope.kind == .function) && !((relS scope sc).names.lookup (".0" : Str)).isNone
theorem CompOK.of {scope sc : Scope} (h : compOK scope sc = true) : CompOK scope sc := by
  unfold compOK at h
  simp only [Bool.and_eq_true, List.all_eq_true, Bool.or_eq_true, bne_iff_ne, beq_iff_eq, Bool.not_eq_true'] at h
  refine el0_2 h ?_
  try clear h
  intro hE1 h3
  refine el0_2 hE1 ?_
  try clear hE1
  intro h1 h2
  exact ⟨fun y hy => (h1 y hy).1.1, fun n hn => (h1 _ hn).1.2.resolve_left (fun z => z rfl), h2, fun y hy hl => (h1 y hy).2.resolve_left (fun z => z hl), h3⟩

noncomputable def Loc.comp (scope sc : Scope) (loc : Loc) : Loc := fun y => if (relS scope sc).names.lookup y = some .cell then loc y else none

theorem Rep.comp {scope : Scope} {B : PH} {env cenv : Env} {h h' : Heap} {C : Addr} (R : Rep w B env h loc H) (e : EnvIs sc env) (ok : CompOK scope sc) (hC : h.objs.size ≤ C) (hf : cenv.func = none) (hs : cenv.scope = relS scope sc) (hL : cenv.locals = C) (hcl : cenv.cells = closL env scope.names [])
    (k : ∀ b o, h.get? b = some o → h'.get? b = some o) (n : h'.Ns C (fun _ => none)) : Rep w (hideH H h) cenv h' (Loc.comp scope sc loc) H := by
  have env_k : ∀ y, env.kindOf y = sc.names.lookup y := fun y => by unfold Env.kindOf; rw [e.scope]
  have cells : ∀ n, (n, NameKind.free) ∈ scope.names → (env.cells.lookup n).isSome = true := fun n hn => by
    refine el2_2 (R.cl n (by rw [env_k]; exact ok.free n hn)) ?_
    intro c v h1 _
    rw [h1]; rfl
  have ck : ∀ y, cenv.kindOf y = some .cell → (y, NameKind.free) ∈ scope.names ∧ env.kindOf y = some .cell := fun y hy => by
    unfold Env.kindOf at hy; rw [hs] at hy
    rw [env_k]; exact map_lookup_cell ok.cell hy
  have cc : ∀ y c, cenv.cells.lookup y = some c → env.cells.lookup y = some c := fun y c hy => by
    rw [hcl] at hy
    exact closL_get cells (fun c z => by exact nsE z) c hy
  refine ⟨⟨_, by rw [hL]; exact n, fun y hy => ?_⟩, fun y hy => ?_, fun b o eb => (R.own b o eb).mono fun ob => k b ob, fun b o eb => ⟨?_, hideH_none eb, fun y c hy hc => (R.apart b o eb).2.2 y c (ck y hy).2 (cc y c hc)⟩, fun b o eb => k b o (hideH_some eb).1, ?_, fun hz => (by rw [hf] at hz; exact ftE hz), fun y z c hy hz h1 h2 => R.clD y z c (ck y hy).2 (ck z hz).2 (cc y c h1) (cc z c h2)⟩
  · show (none : Option Value).map absV = _
    unfold Loc.comp
    rw [if_neg]
    · rfl
    · intro z; unfold Env.kindOf at hy; rw [hs, z] at hy; cases hy
  · refine el2_3 (R.cl y (ck y hy).2) ?_
    intro c v h1 h2 h3
    refine el1_1 (Option.isSome_iff_exists.mp (closL_some (env := env) (acc := []) (.inl (ck y hy).1))) ?_
    intro c' hc'
    have := cc y c' (by rw [hcl]; exact hc')
    rw [h1] at this; (have hE0 := Option.some.inj this; subst hE0; clear this)
    refine in2_3 c v (by rw [hcl]; exact hc') (h2.keeps k) ?_
    unfold Loc.comp
    rw [if_pos]
    · exact h3
    · unfold Env.kindOf at hy; rw [hs] at hy; exact hy
  · rw [hL]; exact Nat.ne_of_lt (Nat.lt_of_lt_of_le (R.own b o eb).lt hC)
  · rw [hL]
    cases q : hideH H h C with
    | none => rfl
    | some o => exact absurd (Heap.lt_size (hideH_some q).1) (Nat.not_lt.mpr hC)

/-- the cells' names keep what they name -/
theorem Rep.cells_fix {B : PH} {cenv : Env} {h h' : Heap} {loc0 : Loc} {H0 : AH} {W : List Addr} {h1 : Heap} (R0 : Rep w (gd B W h1) cenv h loc0 H0) (R : Rep w (gd B W h1) cenv h' loc H) (hB : ∀ y c v, cenv.kindOf y = some .cell → cenv.cells.lookup y = some c → h.IsCell c v → ∃ o, gd B W h1 c = some o) :
    ∀ y, cenv.kindOf y = some .cell → loc y = loc0 y := fun y hy => by
  refine el2_3 (R0.cl y hy) ?_
  intro c v a1 a2 a3
  refine el2_3 (R.cl y hy) ?_
  intro c' v' b1 b2 b3
  rw [a1] at b1; (have hE0 := Option.some.inj b1; subst hE0; clear b1)
  refine el1_1 (hB y c v hy a1 a2) ?_
  intro o ho
  have x1 := R0.keep _ _ ho
  have x2 := R.keep _ _ ho
  refine el1_2 a2 ?_
  try clear a2
  intro o1 y1 y2
  refine el1_2 b2 ?_
  try clear b2
  intro o2 z1 z2
  rw [x1] at y1; (have hE0 := Option.some.inj y1; subst hE0; clear y1)
  rw [x2] at z1; (have hE0 := Option.some.inj z1; subst hE0; clear z1)
  rw [y2] at z2; cases z2
  rw [← a3, ← b3]

/-- a fresh object is taken over -/
theorem Rep.adopt {B : PH} {env : Env} {h : Heap} (R : Rep w B env h loc H) {a : Addr} {ao : AO} (off : Off B env H a) (x : Holds w h a ao) : Rep w B env h loc (AH.put H a ao) := by
  refine ⟨R.ns, R.cl, fun c o ec => ?_, fun c o ec => ?_, R.keep, R.frame, R.clB, R.clD⟩
  · by_cases qq : c = a
    · subst qq; rw [put_same] at ec; (have hE0 := Option.some.inj ec; subst hE0; clear ec); exact x
    · rw [put_ne qq] at ec; exact R.own c o ec
  · by_cases qq : c = a
    · subst qq; exact in0_3 off.l off.b off.c
    · rw [put_ne qq] at ec; exact R.apart c o ec

/-- an object that is not ours has changed -/
theorem Rep.other {B : PH} {env : Env} {h h' : Heap} (R : Rep w B env h loc H) {C : Addr} (off : Off B env H C) (sb : Heap.SameBut C h h') : Rep w B env h' loc H :=
  (R.gd_in (W := [C]) (fun b hb => by have := List.mem_singleton.mp hb; subst this; exact off) fun b o hb eb => (sb.2 b (not_one hb)).trans eb).gd_out fun b hb => by have := List.mem_singleton.mp hb; subst this; exact off.b

theorem compLoop_any {A : Around} {R : Result → Shared → Prop} {s : Shared} {elt target iter : Expr} {ifs : List Expr} {scope : Scope} {pos : Pos} {it acc : Value} {env : Env} (I : Nat → Shared → Prop)
    (turn : ∀ n s, I n s → wpAny (model prog w) A (pyNext it) (fun r s₁ => match r with
      | none => R (.ok .next) s₁
      | some v => wpAny (model prog w) A (letOwnedTupleGo target it v) (fun _ s₁' => wpAny (model prog w) A (assign target env v) (fun _ s₂ =>
          wpAny (model prog w) A (forIn ifs true fun c r => if r = true then do let ok ← isTrue c env (eval c env); pure (ForInStep.yield ok) else pure (ForInStep.yield r)) (fun ok s₃ =>
            if ok = true then wpAny (model prog w) A (eval elt env) (fun x s₄ =>
              wpAny (model prog w) A (call (.builtin "list.append") [acc, x]) (fun _ s₅ => ∃ m, m < n ∧ I m s₅) (fun _ _ => False) s₄) (fun _ _ => False) s₃
            else ∃ m, m < n ∧ I m s₃) (fun _ _ => False) s₂) (fun _ _ => False) s₁') (fun _ _ => False) s₁) (fun _ _ => False) s)
    (n : Nat) (h : I n s) : codeAny (model prog w) A (.compLoop (.ListComp elt [⟨target, iter, ifs, 0⟩] scope pos) 0 it acc env) R s := by
  have up : ∀ {α : Type} {m : Sem α} {Q Q' : α → Shared → Prop} {s : Shared}, wpAny (model prog w) A m Q (fun _ _ => False) s → (∀ a s', Q a s' → Q' a s') → wpAny (model prog w) A m Q' (notedBy (model prog w) A env fun e s' => R (.error e) s') s := fun h k => wpAny_mono h k fun _ _ z => z.elim
  refine codeAny_loop rfl I (fun n s hI => ?_) n h
  show wpAny _ A ((compTurn (.ListComp elt [⟨target, iter, ifs, 0⟩] scope pos) 0 it acc env).onRaise (fun x => do noteFrame x env; theTreesLotGoes x)) _ _ s
  refine wpAny_noted ?_
  rw [compTurn_list]
  refine wpAny_bind (wpAny_standAt (wpAny_bind (up (turn n s hI) (fun r s₁ h₁ => ?_))))
  cases r with
  | none => exact wpAny_pure h₁
  | some v =>
    refine wpAny_bind (up h₁ (fun _ s₁' h₁' => ?_))
    refine wpAny_bind (up h₁' (fun _ s₂ h₂ => wpAny_bind (up h₂ (fun ok s₃ h₃ => ?_))))
    cases ok with
    | false => exact wpAny_pure ⟨rfl, h₃⟩
    | true => exact wpAny_bind (wpAny_bind (up h₃ (fun x s₄ h₄ => wpAny_bind (up h₄ (fun _ s₅ h₅ => wpAny_pure (wpAny_pure ⟨rfl, h₅⟩))))))
end


section
variable {ad : Ads} {w : World} {sc : Scope} {d : Nat} {loc : Loc} {H : AH}

noncomputable def TE (ad : Ads) (w : World) (sc : Scope) (d : Nat) (ifs : List Expr) (loc : Loc) (H : AH) (Q : Bool → AH → Prop) : Prop :=
  EV ad w sc d id (fun env => forIn ifs true fun c r => if r = true then do let ok ← isTrue c env (eval c env); pure (ForInStep.yield ok) else pure (ForInStep.yield r)) loc H Q
theorem TE.nil {Q : Bool → AH → Prop} (q : Q true H) : TE ad w sc d [] loc H Q := fun _ _ _ _ _ _ _ R => wpAny_tests_nil (fin3 (R) (q))
theorem TE.one {c : Expr} {Q : Bool → AH → Prop} (h : EV ad w sc d id (IT c) loc H Q) : TE ad w sc d [c] loc H Q := fun A B env s r g e R => wpAny_tests_one (h A B env s r g e R)

theorem cells_keep {B1 : PH} {W : List Addr} {hh : Heap} {cenv : Env} {h' : Heap} {l : Loc} (base : ∀ y, cenv.kindOf y = some .cell → ∃ c o v, cenv.cells.lookup y = some c ∧ B1 c = some o ∧ c ∉ W ∧ o.data = .cell v ∧ v.map absV = loc y)
    (R : Rep w (gd B1 W hh) cenv h' l H) : ∀ y, cenv.kindOf y = some .cell → l y = loc y := fun y hy => by
  refine el3_5 (base y hy) ?_
  intro c o v a1 a2 a3 a4 a5
  refine el2_3 (R.cl y hy) ?_
  intro c' v' b1 hE1 b3
  refine el1_2 hE1 ?_
  try clear hE1
  intro o' b2 b4
  rw [a1] at b1; (have hE0 := Option.some.inj b1; subst hE0; clear b1)
  have := R.keep c o (by unfold gd; rw [if_neg a3]; exact a2)
  rw [this] at b2; (have hE0 := Option.some.inj b2; subst hE0; clear b2)
  rw [a4] at b4; cases b4
  rw [← b3, ← a5]

theorem mem2 {n m c : Addr} (h : c ∈ [n, m]) : c = n ∨ c = m := by simpa using h
theorem guard_two {B : PH} {n m : Addr} {h : Heap} {o l : Obj} (gb : ∀ b ∈ [n, m], B b = none) (ho : h.get? n = some o) (hc : ∀ v, o.data ≠ .cell v) (hl : h.get? m = some l) (lc : ∀ v, l.data ≠ .cell v) : Guarded B [n, m] h := by
  refine ⟨gb, fun c hc => ?_, fun c hc' o' v eo => ?_⟩
  · rcases mem2 hc with rfl | rfl
    · exact ⟨_, ho⟩
    · exact ⟨_, hl⟩
  · rcases mem2 hc' with rfl | rfl
    · rw [ho] at eo; (have hE0 := Option.some.inj eo; subst hE0; clear eo); exact hc v
    · rw [hl] at eo; (have hE0 := Option.some.inj eo; subst hE0; clear eo); exact lc v
theorem comp_loop {tup : Bool} {A : Around} {B1 : PH} {cenv : Env} {s : Shared} {elt target iter : Expr} {ifs : List Expr} {scope : Scope} {pos : Pos} {a n m : Addr} {xs : List AV} {I : Nat → List AV → AH → Prop} {RR : Result → Shared → Prop} {loc0 : Loc}
    (r : Room A d) (gB : Gx ad w B1) (ei : EnvIs (relS scope sc) cenv) (hz : xs.length ≤ 1000) (nm : n ≠ m)
    (i0 : I 0 [] H) (ho : ∀ i acc H1, I i acc H1 → H1 a = some (aseq tup xs))
    (lc : ∀ h2 l H2, Rep w (gd B1 [n, m] h2) cenv h2 l H2 → ∀ y, (relS scope sc).names.lookup y = some .cell → l y = loc y)
    (turn : ∀ i acc x l H1, xs[i]? = some x → I i acc H1 → (∀ y, (relS scope sc).names.lookup y = some .cell → l y = loc y) →
      AT ad w (relS scope sc) d target x l H1 (fun l2 H2 => TE ad w (relS scope sc) d ifs l2 H2 (fun c H3 => (c = true → EV ad w (relS scope sc) d absV (eval elt) l2 H3 (fun y H4 => I (i + 1) (acc ++ [y]) H4)) ∧ (c = false → I (i + 1) acc H3))))
    (R0 : Rep w (gd B1 [n, m] s.heap) cenv s.heap loc0 H) (gw0 : Guarded B1 [n, m] s.heap) (it1 : IterAt tup s.heap n a 0) (d1 : s.heap.get? m = some { cls := .type "list", dict := none, data := .seq (#[] : Array Value) 0 })
    (fin : ∀ acc l H2 (h2 h3 : Heap) k (ys : List Value) c, I xs.length acc H2 → acc.length ≤ xs.length → Rep w (gd B1 [n, m] h2) cenv h2 l H2 → h2.get? m = some { cls := .type "list", dict := none, data := .seq (List.toArray ys) c } → Rep w B1 cenv h3 l H2 →
      h3.get? m = some { cls := .type "list", dict := none, data := .seq (List.toArray ys) c } → ys.map absV = acc → RR (.ok .next) { s with heap := h3, toks := k }) :
    codeAny (model prog w) A (.compLoop (.ListComp elt [⟨target, iter, ifs, 0⟩] scope pos) 0 (.ref n) (.ref m) cenv) RR s := by
  refine compLoop_any (fun t s' => ∃ i acc l H2 h2 k2 ys c, t = xs.length - i ∧ i ≤ xs.length ∧ s' = { s with heap := h2, toks := k2 } ∧ Rep w (gd B1 [n, m] h2) cenv h2 l H2 ∧ Guarded B1 [n, m] h2 ∧ IterAt tup h2 n a i ∧
      h2.get? m = some { cls := .type "list", dict := none, data := .seq (List.toArray ys) c } ∧ ys.map absV = acc ∧ acc.length ≤ i ∧ I i acc H2)
    (fun t s' hI => ?_) (xs.length - 0) ⟨0, [], _, H, s.heap, s.toks, [], 0, rfl, Nat.zero_le _, rfl, R0, gw0, it1, d1, rfl, Nat.le_refl _, i0⟩
  refine hide fun P0 k0 => ?_
  refine el8_10 hI ?_
  try clear hI
  intro i acc l H2 h2 k2 ys c hE1 hi hE2 R2 gw2 it2 d2 hys hacc iv
  obtain rfl := hE1
  obtain rfl := hE2
  refine k0 ?_
  clear k0 P0
  have mn : m ∈ [n, m] := .tail _ (.head _)
  have nn : n ∈ [n, m] := .head _
  rcases Nat.lt_or_eq_of_le hi with hlt | hie
  · have hx := List.getElem?_eq_getElem hlt
    generalize xs[i] = x at hx
    have low : xs.length - (i + 1) < xs.length - i := Nat.sub_lt_sub_left hlt (Nat.lt_succ_self i)
    refine seq_item R2 (ho _ _ _ iv) it2 hx fun v h3 hv it3 sb => ?_
    have d3 : h3.get? m = some { cls := .type "list", dict := none, data := .seq (List.toArray ys) c } := (sb.2 m (Ne.symm nm)).trans d2
    have R3 := Rep.gd_next gw2 R2 fun b o hb eb => (sb.2 b fun z => hb (z ▸ nn)).trans eb
    refine hide fun P0 k0 => ?_
    refine el1_3 it3.obj ?_
    intro oit ho1 ho2 ho3
    refine k0 ?_
    clear k0 P0
    have gw3 : Guarded B1 [n, m] h3 := guard_two gw2.b ho1 ho3 d3 (fun v q => by cases q)
    refine let_go (s := { s with heap := h3, toks := k2 }) ho1 ho2 (by cases tup <;> decide) ?_
    clear ho1 ho2 ho3
    have g3 := gd_gx (h := h3) gB gw3.b
    refine (turn i acc x l H2 hx iv (lc _ _ _ R2) v hv).then r g3 ei (s := { s with heap := h3, toks := k2 }) R3 fun h4 k4 l4 H4 R4 q4 => ?_
    refine EV.then q4 r g3 ei R4 fun cc h5 k5 H5 R5 q5 => ?_
    cases cc with
    | false =>
      have e5 := Rep.gd_eq gw3 R5
      have M := Rep.gd_move gw3 R5
      exact ⟨_, low, i + 1, acc, l4, H5, h5, k5, ys, c, rfl, hlt, rfl, M.1, M.2, it3.move (e5 n nn), (e5 m mn).symm.trans d3, hys, Nat.le_succ_of_le hacc, q5.2 rfl⟩
    | true =>
      refine EV.then (q5.1 rfl) r g3 ei R5 fun y h6 k6 H6 R6 q6 => ?_
      have e6 := Rep.gd_eq gw3 R6
      have M := Rep.gd_move gw3 R6
      have d6 : h6.get? m = some { cls := .type "list", dict := none, data := .seq (List.toArray ys) c } := (e6 m mn).symm.trans d3
      refine wpAny_list_append_plain (l := m) (items := List.toArray ys) ⟨c, d6⟩ (fun h7 hl7 sb7 => ?_) (by
        have : ys.length = acc.length := by rw [← hys, List.length_map]
        simp only [List.size_toArray, sizeLine_eq]; (first | (simp +arith only; done) | lia | omega))
      refine hide fun P0 k0 => ?_
      refine el1_1 hl7 ?_
      try clear hl7
      intro c7 d7
      have it7 : IterAt tup h7 n a (i + 1) := (it3.move (e6 n nn)).move (sb7.2 n nm).symm
      refine el1_3 it7.obj ?_
      intro o i1 _ i3
      refine k0 ?_
      clear k0 P0
      have gw7 : Guarded B1 [n, m] h7 := guard_two gw2.b i1 i3 d7 (fun v q => by cases q)
      have R7 := Rep.gd_next M.2 M.1 fun b o hb eb => (sb7.2 b fun z => hb (z ▸ mn)).trans eb
      exact ⟨_, low, i + 1, acc ++ [absV y], l4, H6, h7, k6, ys ++ [y], c7, rfl, hlt, rfl, R7, gw7, it7, by simpa using d7, by rw [List.map_append, hys]; rfl, by rw [List.length_append]; exact Nat.add_le_add_right hacc 1, q6⟩
  · subst hie
    refine seq_end r.1 R2 (ho _ _ _ iv) it2 fun h3 eb => ?_
    exact fin acc l H2 h2 h3 k2 ys c iv hacc R2 d2 (Rep.gd_end gw2 R2 fun b o hb q => eb b o (fun z => hb (z ▸ nn)) q) (eb m _ (Ne.symm nm) d2) hys

theorem comp_run {tup : Bool} {A : Around} {B : PH} {env : Env} {s : Shared} {E : Value → Shared → Prop} {elt target iter : Expr} {ifs : List Expr} {scope : Scope} {pos : Pos} {a : Addr} {xs : List AV} {I : Nat → List AV → AH → Prop} {RR : Value → Addr → Result → Shared → Prop}
    (r : Room A d) (g : Gx ad w B) (e : EnvIs sc env) (R : Rep w B env s.heap loc H) (ok : CompOK scope sc) (hz : xs.length ≤ 1000)
    (i0 : I 0 [] H) (ho : ∀ i acc H1, I i acc H1 → H1 a = some (aseq tup xs))
    (turn : ∀ i acc x l H1, xs[i]? = some x → I i acc H1 → (∀ y, (relS scope sc).names.lookup y = some .cell → l y = loc y) →
      AT ad w (relS scope sc) d target x l H1 (fun l2 H2 => TE ad w (relS scope sc) d ifs l2 H2 (fun c H3 => (c = true → EV ad w (relS scope sc) d absV (eval elt) l2 H3 (fun y H4 => I (i + 1) (acc ++ [y]) H4)) ∧ (c = false → I (i + 1) acc H3))))
    (fin : ∀ acc H1 D C h' tk, I xs.length acc H1 → acc.length ≤ xs.length → Rep w B env h' loc H1 → Off B env H1 C → Off B env H1 D → D ≠ C → (∃ m, h'.Ns C m) → Holds w h' D (.list acc) → RR (.ref D) C (.ok .next) { s with heap := h', toks := tk }) :
    wpAny (model prog w) A (pyIter (.ref a)) (fun it s₂ => wpAny (model prog w) A (newList []) (fun acc s₃ => wpAny (model prog w) A (newFunctionEnv scope env.globals (closL env scope.names []) [] env.qual none .none (some env)) (fun cenv s₄ =>
      codeAny (model prog w) A (.compStart (.ListComp elt [⟨target, iter, ifs, 0⟩] scope pos) 0 it acc { cenv with scope := relabel scope env }) (RR acc cenv.locals) s₄) E s₃) E s₂) E s := by
  refine seq_iter R (ho _ _ _ i0) fun oI f1 f2 it0 => ?_
  refine wpAny_newObj_type (wpAny_newFunctionEnv ok.cell (by intro y hy; simp at hy) (fun h₁ hns₁ hsb₁ => ?_) ok.kind)
  dsimp only at hns₁ hsb₁ ⊢
  generalize hn : s.heap.objs.size = n at it0 ⊢
  have s1 : (s.heap.push oI).objs.size = n + 1 := by rw [Heap.size_push, hn]
  have s2 : ((s.heap.push oI).push { cls := .type "list", dict := none, data := .seq ([] : List Value).toArray }).objs.size = n + 2 := by rw [Heap.size_push, s1]
  rw [s2] at hns₁ hsb₁ ⊢
  rw [s1]
  have nI : @Ne Nat n (n + 2) := by (first | (simp +arith only; done) | lia | omega)
  have nD : @Ne Nat (n + 1) (n + 2) := by (first | (simp +arith only; done) | lia | omega)
  have nID : @Ne Nat n (n + 1) := by (first | (simp +arith only; done) | lia | omega)
  have up : ∀ b o, s.heap.get? b = some o → h₁.get? b = some o := fun b o eb => by
    have hlt : @LT.lt Nat _ b n := by rw [← hn]; exact Heap.lt_size eb
    have hne : @Ne Nat b (n + 2) := by (first | (simp +arith only; done) | lia | omega)
    exact hsb₁.extBut b o hne (Heap.get?_push_of_some _ (Heap.get?_push_of_some _ (Heap.get?_push_of_some _ eb)))
  have it1 : IterAt tup h₁ n a 0 := by
    refine it0.move ?_
    refine el1_2 it0.obj ?_
    intro o ho _
    rw [ho]
    exact (hsb₁.extBut n o nI (Heap.get?_push_of_some _ (Heap.get?_push_of_some _ ho))).symm
  have d1 : h₁.get? (n + 1) = some { cls := .type "list", dict := none, data := .seq (#[] : Array Value) 0 } := by
    refine hsb₁.extBut (n + 1) _ nD (Heap.get?_push_of_some _ ?_)
    rw [← s1]; exact Heap.get?_push_size _ rfl
  have off : ∀ c : Addr, @LE.le Nat _ n c → Off B env H c := fun c hc => R.off (by rw [hn]; exact hc)
  -- the frame's representation
  have cenvE : ({ newEnv scope (n + 2) env.globals (closL env scope.names []) env.qual none .none (some env) env.builtins with scope := relabel scope env } : Env) = compEnvC scope (closL env scope.names []) (n + 2) env := rfl
  generalize hce : compEnvC scope (closL env scope.names []) (n + 2) env = cenv
  have sce : cenv.scope = relS scope sc := by rw [← hce]; exact relS_eq e
  have ei : EnvIs (relS scope sc) cenv := ⟨sce, by rw [← hce]; exact e.globals, by rw [← hce]; exact e.builtins, ok.kind, fun z => by rw [ok.zero] at z; exact ftE z⟩
  have hL : cenv.locals = n + 2 := by rw [← hce]; rfl
  have hcl : cenv.cells = closL env scope.names [] := by rw [← hce]; rfl
  have hfn : cenv.func = none := by rw [← hce]; rfl
  have Rc : Rep w (hideH H s.heap) cenv h₁ (Loc.comp scope sc loc) H := R.comp e ok (by rw [hn]; exact Nat.le_add_right n 2) hfn sce hL hcl up hns₁
  have gB : Gx ad w (hideH H s.heap) := R.gx g
  have ck : ∀ y, cenv.kindOf y = (relS scope sc).names.lookup y := fun y => by unfold Env.kindOf; rw [sce]
  have freshB : ∀ c : Addr, @LE.le Nat _ n c → hideH H s.heap c = none := fun c hc => by
    cases q : hideH H s.heap c with
    | none => rfl
    | some o => exact absurd (Heap.lt_size (hideH_some q).1) (by rw [hn]; exact Nat.not_lt.mpr hc)
  generalize hB1 : hideH H s.heap = B1 at Rc gB freshB
  have offC : ∀ c ∈ [n, n + 1], Off B1 cenv H c := fun c hc => by
    have hc' : @LE.le Nat _ n c ∧ @Ne Nat c (n + 2) := by simp at hc; rcases hc with rfl | rfl <;> exact ⟨by (first | (simp +arith only; done) | lia | omega), by (first | (simp +arith only; done) | lia | omega)⟩
    refine ⟨(off c hc'.1).h, by rw [hL]; exact hc'.2, fun x c' hx hc2 z => ?_, freshB c hc'.1⟩
    have hx' : env.kindOf x = some .cell := by
      rw [ck] at hx
      have := (map_lookup_cell (sc := sc) ok.cell hx).2
      unfold Env.kindOf; rw [e.scope]; exact this
    refine el2_3 (R.cl x hx') ?_
    intro c3 v a1 a2 _
    rw [hcl] at hc2
    have := closL_get (names := scope.names) (acc := []) (fun n hn => by
      refine el2_2 (R.cl n (by unfold Env.kindOf; rw [e.scope]; exact ok.free n hn)) ?_
      intro c v h1 _
      rw [h1]; rfl) (fun c z => by exact nsE z) c' hc2
    rw [a1] at this; (have hE0 := Option.some.inj this; subst hE0; clear this)
    subst z
    have := a2.lt; rw [hn] at this
    exact absurd this (Nat.not_lt.mpr hc'.1)
  have base : ∀ y, cenv.kindOf y = some .cell → ∃ c o v, cenv.cells.lookup y = some c ∧ B1 c = some o ∧ c ∉ [n, n + 1] ∧ o.data = .cell v ∧ v.map absV = loc y := fun y hy => by
    have hx' : env.kindOf y = some .cell := by
      rw [ck] at hy
      have := (map_lookup_cell (sc := sc) ok.cell hy).2
      unfold Env.kindOf; rw [e.scope]; exact this
    refine el2_3 (R.cl y hx') ?_
    intro c v a1 hE1 a3
    refine el1_2 hE1 ?_
    try clear hE1
    intro o a2 a4
    refine el2_2 (Rc.cl y hy) ?_
    intro c' _ b1 _
    have := closL_get (names := scope.names) (acc := []) (fun n hn => by
      refine el2_2 (R.cl n (by unfold Env.kindOf; rw [e.scope]; exact ok.free n hn)) ?_
      intro c v h1 _
      rw [h1]; rfl) (fun c z => by exact nsE z) c' (by rw [← hcl]; exact b1)
    rw [a1] at this; (have hE0 := Option.some.inj this; subst hE0; clear this)
    refine in3_5 c o v b1 ?_ (fun hc => ?_) a4 a3
    · rw [← hB1]; refine hideH_of a2 ?_
      cases q : H c with
      | none => rfl
      | some z => exact absurd rfl ((R.apart _ _ q).2.2 y c hx' a1)
    · have hlt : @LT.lt Nat _ c n := by rw [← hn]; exact Heap.lt_size a2
      simp at hc; rcases hc with rfl | rfl <;> (first | (simp +arith only; done) | lia | omega)
  have gw0 : Guarded B1 [n, n + 1] h₁ := by
    refine el1_3 it1.obj ?_
    intro o i1 _ i3
    exact guard_two (fun c hc => (offC c hc).b) i1 i3 d1 (fun v q => by cases q)
  have R0 : Rep w (gd B1 [n, n + 1] h₁) cenv h₁ (Loc.comp scope sc loc) H := Rc.gd_in offC fun b o _ eb => eb
  have loop : ∀ s₃ : Shared, s₃ = { s with heap := h₁, toks := s.toks + ([] : List (Str × Value)).length } →
      codeAny (model prog w) A (.compLoop (.ListComp elt [⟨target, iter, ifs, 0⟩] scope pos) 0 (.ref n) (.ref (n + 1)) cenv) (RR (.ref (n + 1)) (n + 2)) s₃ := by
    rintro s₃ rfl
    refine comp_loop (s := { s with heap := h₁, toks := s.toks + ([] : List (Str × Value)).length }) r gB ei hz nID i0 ho (fun h2 l H2 R2 y hy => cells_keep base R2 y (by rw [ck]; exact hy)) turn R0 gw0 it1 d1 fun acc l H2 h2 h3 k2 ys c iv hacc R2 d2 R3 d3 hys => ?_
    have R4 : Rep w B env h3 loc H2 := Rep.back R (hB1 ▸ R3)
    refine el1_2 R3.ns ?_
    intro mC nC _
    rw [hL] at nC
    have offEnv : ∀ c : Addr, @LE.le Nat _ n c → H2 c = none → Off B env H2 c := fun c hc h0 => ⟨h0, (off c hc).l, (off c hc).c, (off c hc).b⟩
    refine fin acc H2 (n + 1) (n + 2) h3 k2 iv hacc R4 (offEnv _ (by (first | (simp +arith only; done) | lia | omega)) ?_) (offEnv _ (by (first | (simp +arith only; done) | lia | omega)) ?_) nD ⟨mC, nC⟩ ⟨ys, ⟨c, d3⟩, hys⟩
    · cases q : H2 (n + 2) with
      | none => rfl
      | some z => exact absurd hL.symm (R3.apart _ _ q).1
    · cases q : H2 (n + 1) with
      | none => rfl
      | some z =>
        have := (R2.apart _ _ q).2.1
        unfold gd at this
        rw [if_pos (by simp), d2] at this; exact snE this
  refine codeAny_compStart_list ?_ ?_
  · have := loop _ rfl
    rw [← hce] at this
    exact this
  · refine seq_iter_again it1 ?_
    have := loop _ rfl
    rw [← hce] at this
    exact this

theorem EV.listcomp {elt target iter : Expr} {ifs : List Expr} {scope : Scope} {pos : Pos} {Q : AV → AH → Prop} (tup : Bool)
    (ok : compOK scope sc = true)
    (h : EV ad w sc d absV (eval iter) loc H (fun v H0 => ∃ (a : Addr) (xs : List AV) (I : Nat → List AV → AH → Prop), v = .ref a ∧ xs.length ≤ 1000 ∧ I 0 [] H0 ∧ (∀ i acc H1, I i acc H1 → H1 a = some (aseq tup xs)) ∧
      (∀ i acc x l H1, xs[i]? = some x → I i acc H1 → (∀ y, (relS scope sc).names.lookup y = some .cell → l y = loc y) →
        AT ad w (relS scope sc) d target x l H1 (fun l2 H2 => TE ad w (relS scope sc) d ifs l2 H2 (fun c H3 => (c = true → EV ad w (relS scope sc) d absV (eval elt) l2 H3 (fun y H4 => I (i + 1) (acc ++ [y]) H4)) ∧ (c = false → I (i + 1) acc H3)))) ∧
      (∀ acc H1 n, I xs.length acc H1 → acc.length ≤ xs.length → H1 n = none → Q (.ref n) (AH.put H1 n (.list acc)))))
    (hs : ∀ env x, foldedSetIterable iter env x = pure x := by with_unfolding_all (intro _ _; rfl)) : EV ad w sc d absV (eval (.ListComp elt [⟨target, iter, ifs, 0⟩] scope pos)) loc H Q := by
  intro A B env s r g e R
  have ok' := CompOK.of ok
  have cells : ∀ n, (n, NameKind.free) ∈ scope.names → (env.cells.lookup n).isSome = true := fun n hn => by
    refine el2_2 (R.cl n (by unfold Env.kindOf; rw [e.scope]; exact ok'.free n hn)) ?_
    intro c v h1 _
    rw [h1]; rfl
  show wpAny _ _ (eval (.ListComp elt [⟨target, iter, ifs, 0⟩] scope pos) env) _ _ _
  rw [eval_ListComp]
  refine wpAny_comprehension_free (use := none) rfl (hs env) (clos_eq cells) ok'.kind ok'.names ?_
  refine h.then r g e R fun v h1 k1 H1 R1 q1 => ?_
  refine el3_6 q1 ?_
  try clear q1
  intro a xs I hv hz i0 ia turn fin
  have := absV_ref hv; subst this
  refine comp_run (RR := fun acc C => compPost (model prog w) A _ none _ acc C) r g e R1 ok' hz i0 ia turn fun acc H2 D C h' tk iv hl R2 oC oD nDC nC hD => ?_
  refine el1_1 nC ?_
  try clear nC
  intro m nC
  refine in1_2 m nC (fun h'' sb => ⟨h'', tk, _, rfl, ((R2.adopt oD hD).other ?_ sb), fin acc H2 D iv hl oD.h⟩)
  exact ⟨by rw [put_ne (Ne.symm nDC)]; exact oC.h, oC.l, oC.c, oC.b⟩

end


/-! ## the pure side -/
noncomputable def sgS : Fin 5 → Str
  | 0 => "$" | 1 => "@" | 2 => "$" | 3 => "%" | 4 => "$"
noncomputable def nmS : Fin 5 → Str
  | 0 => "x" | 1 => "x" | 2 => "y" | 3 => "y" | 4 => "z"
noncomputable def kyS : Fin 5 → Str
  | 0 => "$x" | 1 => "@x" | 2 => "$y" | 3 => "%y" | 4 => "$z"
noncomputable def enS : Fin 5 → Str
  | 0 => "s" | 1 => "a" | 2 => "s" | 3 => "h" | 4 => "s"
theorem kyS_inj : ∀ i j, kyS i = kyS j → i = j := by decide
theorem ky_add : ∀ k, sgS k ++ nmS k = kyS k := by decide

inductive Pl where
  | slot (n : Nat)
  | whole (s : Str)
noncomputable def Pl.av : Pl → AV
  | .slot n => .int n
  | .whole s => .str s

noncomputable abbrev Blk := List (Fin 5 × Pl)
noncomputable def bget : Blk → Fin 5 → Option Pl
  | [], _ => none
  | (x, v) :: r, k => if x = k then some v else bget r k
noncomputable def bput : Blk → Fin 5 → Pl → Blk
  | [], k, v => [(k, v)]
  | (x, u) :: r, k, v => if x = k then (x, v) :: r else (x, u) :: bput r k v
noncomputable def bAV (b : Blk) : List (Str × AV) := b.map fun p => (kyS p.1, p.2.av)

theorem bAV_get (k : Fin 5) : ∀ b : Blk, kvGet (bAV b) (kyS k) = (bget b k).map Pl.av
  | [] => rfl
  | (x, v) :: r => by
    have ih := bAV_get k r
    unfold bAV at ih ⊢
    simp only [List.map_cons, kvGet, bget]
    by_cases h : x = k
    · subst h; simp
    · rw [if_neg h, if_neg fun z => h (kyS_inj _ _ z)]; exact ih
theorem bAV_put (k : Fin 5) (p : Pl) : ∀ b : Blk, kvPut (bAV b) (kyS k) p.av = bAV (bput b k p)
  | [] => rfl
  | (x, v) :: r => by
    have ih := bAV_put k p r
    unfold bAV at ih ⊢
    simp only [List.map_cons, kvPut, bput]
    by_cases h : x = k
    · subst h; simp
    · rw [if_neg h, if_neg fun z => h (kyS_inj _ _ z), List.map_cons, ih]
theorem bget_put (k : Fin 5) (p : Pl) (x : Fin 5) : ∀ b : Blk, bget (bput b k p) x = if x = k then some p else bget b x
  | [] => by
    simp only [bput, bget]
    by_cases h : k = x
    · subst h; simp
    · rw [if_neg h, if_neg (Ne.symm h)]
  | (y, u) :: r => by
    have ih := bget_put k p x r
    simp only [bput]
    by_cases hy : y = k
    · subst hy
      simp only [if_pos, bget]
      by_cases h : y = x
      · subst h; simp
      · rw [if_neg h, if_neg (Ne.symm h), if_neg h]
    · rw [if_neg hy]
      simp only [bget]
      by_cases h : y = x
      · subst h; simp [hy]
      · rw [if_neg h, if_neg h]; exact ih
theorem bput_new (k : Fin 5) (p : Pl) : ∀ b : Blk, bget b k = none → bput b k p = b ++ [(k, p)]
  | [], _ => rfl
  | (y, u) :: r, h => by
    simp only [bget] at h
    by_cases hy : y = k
    · rw [if_pos hy] at h; exact snE h
    · rw [if_neg hy] at h
      simp only [bput, if_neg hy, bput_new k p r h, List.cons_append]
theorem bput_keys (k : Fin 5) (p : Pl) : ∀ b : Blk, (bput b k p).map (·.1) = if k ∈ b.map (·.1) then b.map (·.1) else b.map (·.1) ++ [k]
  | [] => by simp [bput]
  | (y, u) :: r => by
    have ih := bput_keys k p r
    simp only [bput]
    by_cases hy : y = k
    · subst hy; simp
    · have hk : ¬ k = y := fun z => hy z.symm
      rw [if_neg hy]
      simp only [List.map_cons, ih, List.mem_cons, hk, false_or]
      split <;> simp

theorem five {l : List (Fin 5)} (h : l.Nodup) : l.length ≤ 5 := by
  have key : ∀ (u l : List (Fin 5)), l.Nodup → (∀ x ∈ l, x ∈ u) → l.length ≤ u.length := by
    intro u
    induction u with
    | nil =>
      intro l _ h
      cases l with
      | nil => exact Nat.le_refl _
      | cons x r => exact absurd (h x (.head _)) (fun z => nomatch z)
    | cons y u ih =>
      intro l hn h
      have h1 := ih (l.filter (· ≠ y)) (hn.filter _) (fun x hx => by
        have hm := List.mem_filter.mp hx
        rcases List.mem_cons.mp (h x hm.1) with z | z
        · exact absurd z (by simpa using hm.2)
        · exact z)
      have h2 : l.length ≤ (l.filter (· ≠ y)).length + 1 := by
        clear h ih h1
        induction l with
        | nil => simp
        | cons x r ih =>
          rw [List.nodup_cons] at hn
          by_cases hx : x = y
          · subst hx
            have : r.filter (· ≠ x) = r := List.filter_eq_self.mpr fun z hz => by
              simp only [ne_eq, decide_not, Bool.not_eq_true', decide_eq_false_iff_not]
              intro q; subst q; exact hn.1 hz
            rw [List.filter_cons_of_neg (by simp), this]; simp
          · have := ih hn.2
            simp only [List.length_cons, ne_eq, hx, not_false_eq_true, decide_true, List.filter_cons_of_pos]
            simp only [ne_eq] at this
            (first | (simp +arith only; done) | lia | omega)
      simp only [List.length_cons]
      (first | (simp +arith only; done) | lia | omega)
  have := key [0, 1, 2, 3, 4] l h (fun x _ => (by decide : ∀ x : _root_.Fin 5, x ∈ [0, 1, 2, 3, 4]) x)
  simpa using this

structure PS where
  base : Blk
  inner : List Blk
  pend : List (Fin 5 × Nat)
  size : Nat
  caps : List (Nat × Nat × Fin 5)

noncomputable def PS.new : PS := ⟨[], [], [], 0, []⟩
noncomputable def hereL : List Blk → Fin 5 → Option Pl
  | [], _ => none
  | b :: r, k => match bget b k with
    | some p => some p
    | none => hereL r k
noncomputable def PS.here (ps : PS) (k : Fin 5) : Option Pl := hereL (ps.inner ++ [ps.base]) k
noncomputable def PS.capture (ps : PS) (n : Nat) (k : Fin 5) : PS := { ps with size := ps.size + 1, caps := ps.caps ++ [(n, ps.size, k)], base := bput ps.base k (.slot ps.size) }

noncomputable def findName : List PS → Fin 5 → Option Pl × List PS
  | [], _ => (none, [])
  | [ps], k => (ps.here k, [ps])
  | ps :: r :: rs, k => match ps.here k with
    | some p => (some p, ps :: r :: rs)
    | none => match findName (r :: rs) k with
      | (some (.slot n), s) => (some (.slot ps.size), ps.capture n k :: s)
      | (p, s) => (p, ps :: s)

inductive Tr where
  | my (k : Fin 5)
  | use (k1 k2 : Fin 5)
  | anon (b : List Tr)
  | bare (b : List Tr)
inductive Dn where
  | my (k : Fin 5) (n : Nat)
  | use (k1 : Fin 5) (p1 : Option Pl) (k2 : Fin 5) (p2 : Option Pl)
  | anon (b : List Dn) (size : Nat) (caps : List (Nat × Nat × Fin 5))
  | bare (b : List Dn)

noncomputable def topS (f : PS → PS) : List PS → List PS
  | [] => []
  | ps :: r => f ps :: r
noncomputable def PS.push (ps : PS) : PS := { ps with inner := [] :: ps.inner }
noncomputable def PS.pop (ps : PS) : PS := { ps with inner := ps.inner.tail }
noncomputable def PS.told (ps : PS) (k : Fin 5) : PS := { ps with size := ps.size + 1, pend := ps.pend ++ [(k, ps.size)] }
noncomputable def putAll (b : Blk) : List (Fin 5 × Nat) → Blk
  | [] => b
  | (k, n) :: r => putAll (bput b k (.slot n)) r
noncomputable def PS.intro (ps : PS) : PS := match ps.inner with
  | [] => { ps with base := putAll ps.base ps.pend, pend := [] }
  | b :: r => { ps with inner := putAll b ps.pend :: r, pend := [] }

mutual
noncomputable def rStmt : Tr → List PS → Dn × List PS
  | .my k, s => (.my k (s.head?.elim 0 (·.size)), topS (·.told k) s)
  | .use k1 k2, s => (.use k1 (findName s k1).1 k2 (findName (findName s k1).2 k2).1, (findName (findName s k1).2 k2).2)
  | .anon b, s => (.anon (rStmts b (topS PS.push (PS.new :: s))).1 ((rStmts b (topS PS.push (PS.new :: s))).2.head?.elim 0 (·.size)) ((rStmts b (topS PS.push (PS.new :: s))).2.head?.elim [] (·.caps)), (rStmts b (topS PS.push (PS.new :: s))).2.tail)
  | .bare b, s => (.bare (rStmts b (topS PS.push s)).1, topS PS.pop (rStmts b (topS PS.push s)).2)
noncomputable def rStmts : List Tr → List PS → List Dn × List PS
  | [], s => ([], s)
  | t :: ts, s => ((rStmt t s).1 :: (rStmts ts (topS PS.intro (rStmt t s).2)).1, (rStmts ts (topS PS.intro (rStmt t s).2)).2)
end

theorem hereL_none {k : Fin 5} : ∀ {l : List Blk}, hereL l k = none → ∀ b ∈ l, bget b k = none
  | [], _, b, h => nomatch h
  | c :: r, h, b, hb => by
    unfold hereL at h
    cases q : bget c k with
    | some p => rw [q] at h; exact snE h
    | none =>
      rw [q] at h
      cases hb with
      | head => exact q
      | tail _ hb => exact hereL_none h b hb

/-- what a scope keeps -/
structure PS.Ok (ps : PS) : Prop where
  base : (ps.base.map (·.1)).Nodup
  inner : ∀ b ∈ ps.inner, (b.map (·.1)).Nodup
  caps : ps.caps.length ≤ ps.base.length
theorem PS.Ok.blk {ps : PS} (h : ps.Ok) : ∀ b ∈ ps.base :: ps.inner, b.length ≤ 5 := fun b hb => by
  cases hb with
  | head => simpa using five h.base
  | tail _ hb => simpa using five (h.inner b hb)
theorem nodup_put {b : Blk} {k : Fin 5} {p : Pl} (h : (b.map (·.1)).Nodup) : ((bput b k p).map (·.1)).Nodup := by
  rw [bput_keys]
  split
  · exact h
  · rename_i hk
    rw [List.nodup_append]
    refine in0_3 h (by simp) (fun a ha c hc => ?_)
    simp at hc; subst hc; intro z; subst z; exact hk ha
theorem PS.Ok.capture {ps : PS} (h : ps.Ok) {k : Fin 5} {n : Nat} (hn : ps.here k = none) : (ps.capture n k).Ok := by
  refine ⟨nodup_put h.base, h.inner, ?_⟩
  have : bget ps.base k = none := hereL_none hn _ (by simp)
  show (ps.caps ++ [(n, ps.size, k)]).length ≤ (bput ps.base k (.slot ps.size)).length
  rw [bput_new _ _ _ this]
  have := h.caps
  simp; (first | (simp +arith only; done) | lia | omega)
theorem nodup_putAll : ∀ {l : List (Fin 5 × Nat)} {b : Blk}, (b.map (·.1)).Nodup → ((putAll b l).map (·.1)).Nodup
  | [], _, h => h
  | _ :: r, b, h => nodup_putAll (l := r) (nodup_put h)


noncomputable def scAttrs (o p b wt sz cp ln : AV) : List (Str × AV) := [("outer", o), ("package", p), ("blocks", b), ("waiting", wt), ("size", sz), ("captures", cp), ("line", ln)]

inductive Role where
  | self (out : AV)
  | dd | bl | wt | cp
  | blk (i : Nat)
  | wtl (i : Nat)
noncomputable abbrev Own := Addr → Option (Nat × Role)
noncomputable def Own.put (own : Own) (a : Addr) (l : Nat × Role) : Own := fun b => if b = a then some l else own b
theorem oput_same {own : Own} {a : Addr} {l : Nat × Role} : Own.put own a l a = some l := if_pos rfl
theorem oput_ne {own : Own} {a b : Addr} {l : Nat × Role} (h : b ≠ a) : Own.put own a l b = own b := if_neg h

/-- what is frozen: the objects that are no scope's -/
noncomputable def fz (own : Own) (H : AH) : AH := fun a => match own a with
  | some _ => none
  | none => H a
theorem fz_some {own : Own} {H : AH} {a : Addr} {o : AO} (h : fz own H a = some o) : H a = some o ∧ own a = none := by
  unfold fz at h
  cases q : own a with
  | some l => rw [q] at h; exact nsE h
  | none => rw [q] at h; exact ⟨h, rfl⟩
theorem fz_of {own : Own} {H : AH} {a : Addr} {o : AO} (h : H a = some o) (n : own a = none) : fz own H a = some o := by unfold fz; rw [n]; exact h

noncomputable def Ext (own own' : Own) : Prop := ∀ a j o, own a = some (j, .self o) → own' a = some (j, .self o)
theorem Ext.refl {own : Own} : Ext own own := fun _ _ _ h => h
theorem Ext.trans {a b c : Own} (h : Ext a b) (k : Ext b c) : Ext a c := fun x j o e => k x j o (h x j o e)
noncomputable def Sub (F F' : AH) : Prop := ∀ a o, F a = some o → F' a = some o
theorem Sub.refl {F : AH} : Sub F F := fun _ _ h => h
theorem Sub.trans {F G K : AH} (a : Sub F G) (b : Sub G K) : Sub F K := fun x o h => b x o (a x o h)
noncomputable def Lab (own : Own) (H : AH) : Prop := ∀ a, H a = none → own a = none

theorem put_lab {own : Own} {H : AH} {a x : Addr} {o : AO} {l l' : Nat × Role} (hx : own x = some l) (ha : own a = some l') (ne : l ≠ l') : AH.put H a o x = H x :=
  put_ne fun z => ne (by subst z; rw [hx] at ha; exact Option.some.inj ha)
theorem Sub.put {own : Own} {H : AH} {a : Addr} {o : AO} {l : Nat × Role} (ha : own a = some l) : Sub (fz own H) (fz own (AH.put H a o)) := fun x y h => by
  refine el0_2 (fz_some h) ?_
  intro h1 h2
  exact fz_of (by rw [put_ne]; exact h1; intro z; subst z; rw [ha] at h2; exact snE h2) h2
theorem Sub.new {own : Own} {H : AH} {a : Addr} {o : AO} (ha : H a = none) : Sub (fz own H) (fz own (AH.put H a o)) := fun x y h => by
  refine el0_2 (fz_some h) ?_
  intro h1 h2
  exact fz_of (by rw [put_ne]; exact h1; intro z; subst z; rw [ha] at h1; exact nsE h1) h2
theorem Sub.newl {own : Own} {H : AH} {a : Addr} {o : AO} {l : Nat × Role} (ha : H a = none) : Sub (fz own H) (fz (own.put a l) (AH.put H a o)) := fun x y h => by
  refine el0_2 (fz_some h) ?_
  intro h1 h2
  have ne : x ≠ a := fun z => by subst z; rw [ha] at h1; exact nsE h1
  exact fz_of (by rw [put_ne ne]; exact h1) (by rw [oput_ne ne]; exact h2)
theorem Lab.put {own : Own} {H : AH} {a : Addr} {o : AO} (L : Lab own H) : Lab own (AH.put H a o) := fun x h => by
  by_cases z : x = a
  · subst z; rw [put_same] at h; exact snE h
  · rw [put_ne z] at h; exact L x h
theorem Lab.newl {own : Own} {H : AH} {a : Addr} {o : AO} {l : Nat × Role} (L : Lab own H) : Lab (own.put a l) (AH.put H a o) := fun x h => by
  by_cases z : x = a
  · subst z; rw [put_same] at h; exact snE h
  · rw [put_ne z] at h; rw [oput_ne z]; exact L x h
theorem fz_new {own : Own} {H : AH} {a : Addr} {o : AO} (L : Lab own H) (ha : H a = none) : fz own (AH.put H a o) a = some o := fz_of put_same (L a ha)

noncomputable def CapsR (F : AH) : List (Nat × Nat × Fin 5) → List AV → Prop
  | [], vs => vs = []
  | (o, i, k) :: r, vs => ∃ t us, vs = .ref t :: us ∧ F t = some (.tup [.int o, .int i, .str (sgS k)]) ∧ CapsR F r us
noncomputable def PendR (F : AH) : List (Fin 5 × Nat) → List AV → Prop
  | [], vs => vs = []
  | (k, n) :: r, vs => ∃ t us, vs = .ref t :: us ∧ F t = some (.tup [.str (kyS k), .int n]) ∧ PendR F r us
theorem CapsR.mono {F F' : AH} (s : Sub F F') : ∀ {l : List (Nat × Nat × Fin 5)} {vs : List AV}, CapsR F l vs → CapsR F' l vs
  | [], _, h => h
  | (o, i, k) :: r, _, ⟨t, us, e, h, q⟩ => ⟨t, us, e, s _ _ h, q.mono s⟩
theorem PendR.mono {F F' : AH} (s : Sub F F') : ∀ {l : List (Fin 5 × Nat)} {vs : List AV}, PendR F l vs → PendR F' l vs
  | [], _, h => h
  | (k, n) :: r, _, ⟨t, us, e, h, q⟩ => ⟨t, us, e, s _ _ h, q.mono s⟩
theorem CapsR.snoc {F : AH} {o i : Nat} {k : Fin 5} {t : Addr} (h : F t = some (.tup [.int o, .int i, .str (sgS k)])) : ∀ {l : List (Nat × Nat × Fin 5)} {vs : List AV}, CapsR F l vs → CapsR F (l ++ [(o, i, k)]) (vs ++ [.ref t])
  | [], _, e => by simp only [CapsR] at e; subst e; exact in2_3 t ([]) rfl h rfl
  | (o', i', k') :: r, _, ⟨t', us, e, h', q⟩ => by subst e; exact in2_3 t' (us ++ [.ref t]) rfl h' (q.snoc h)
theorem PendR.snoc {F : AH} {n : Nat} {k : Fin 5} {t : Addr} (h : F t = some (.tup [.str (kyS k), .int n])) : ∀ {l : List (Fin 5 × Nat)} {vs : List AV}, PendR F l vs → PendR F (l ++ [(k, n)]) (vs ++ [.ref t])
  | [], _, e => by simp only [PendR] at e; subst e; exact in2_3 t ([]) rfl h rfl
  | (k', n') :: r, _, ⟨t', us, e, h', q⟩ => by subst e; exact in2_3 t' (us ++ [.ref t]) rfl h' (q.snoc h)
theorem CapsR.len {F : AH} : ∀ {l : List (Nat × Nat × Fin 5)} {vs : List AV}, CapsR F l vs → vs.length = l.length
  | [], _, e => by simp only [CapsR] at e; subst e; rfl
  | (o', i', k') :: r, _, ⟨t', us, e, h', q⟩ => by subst e; simp [q.len]
theorem PendR.len {F : AH} : ∀ {l : List (Fin 5 × Nat)} {vs : List AV}, PendR F l vs → vs.length = l.length
  | [], _, e => by simp only [PendR] at e; subst e; rfl
  | (k', n') :: r, _, ⟨t', us, e, h', q⟩ => by subst e; simp [q.len]

structure LA where
  self : Addr
  dd : Addr
  bl : Addr
  wt : Addr
  cp : Addr
  line : Int
  bas : List Addr
  was : List Addr
  cs : List AV
  pd : List AV

noncomputable def pyB (ps : PS) : List Blk := ps.base :: ps.inner.reverse
theorem pyB_len (ps : PS) : (pyB ps).length = ps.inner.length + 1 := by simp [pyB]

structure Lev (ad : Ads) (own : Own) (H : AH) (j : Nat) (ps : PS) (out : AV) (la : LA) : Prop where
  o1 : own la.self = some (j, .self out)
  o2 : own la.dd = some (j, .dd)
  o3 : own la.bl = some (j, .bl)
  o4 : own la.wt = some (j, .wt)
  o5 : own la.cp = some (j, .cp)
  h1 : H la.self = some (.inst ad.cls la.dd)
  h2 : H la.dd = some (.attrs (scAttrs out (.str "P") (.ref la.bl) (.ref la.wt) (.int ps.size) (.ref la.cp) (.int la.line)))
  h3 : H la.bl = some (.list (la.bas.map .ref))
  h4 : H la.wt = some (.list (la.was.map .ref))
  h5 : H la.cp = some (.list la.cs)
  l1 : la.bas.length = ps.inner.length + 1
  l2 : la.was.length = ps.inner.length + 1
  b : ∀ (i : Nat) (x : Addr), la.bas[i]? = some x → own x = some (j, .blk i)
  bh : ∀ (i : Nat) (x : Addr) (B : Blk), la.bas[i]? = some x → (pyB ps)[i]? = some B → H x = some (.dict (bAV B))
  w : ∀ (i : Nat) (x : Addr), la.was[i]? = some x → own x = some (j, .wtl i)
  wh : ∀ (i : Nat) (x : Addr), la.was[i]? = some x → H x = some (.list (if i = ps.inner.length then la.pd else []))
  c : CapsR (fz own H) ps.caps la.cs
  p : PendR (fz own H) ps.pend la.pd

theorem Lev.move {ad : Ads} {own own' : Own} {H H' : AH} {j : Nat} {ps : PS} {out : AV} {la : LA} (L : Lev ad own H j ps out la) (k : ∀ a r, own a = some (j, r) → own' a = some (j, r) ∧ H' a = H a) (s : Sub (fz own H) (fz own' H')) : Lev ad own' H' j ps out la :=
  ⟨(k _ _ L.o1).1, (k _ _ L.o2).1, (k _ _ L.o3).1, (k _ _ L.o4).1, (k _ _ L.o5).1, (k _ _ L.o1).2.trans L.h1, (k _ _ L.o2).2.trans L.h2, (k _ _ L.o3).2.trans L.h3, (k _ _ L.o4).2.trans L.h4, (k _ _ L.o5).2.trans L.h5, L.l1, L.l2,
    fun i x hx => (k _ _ (L.b i x hx)).1, fun i x B hx hB => (k _ _ (L.b i x hx)).2.trans (L.bh i x B hx hB), fun i x hx => (k _ _ (L.w i x hx)).1, fun i x hx => (k _ _ (L.w i x hx)).2.trans (L.wh i x hx), L.c.mono s, L.p.mono s⟩

noncomputable def Stk (ad : Ads) (own : Own) (H : AH) : List PS → AV → Prop
  | [], v => v = .none
  | ps :: r, v => ∃ la out, v = .ref la.self ∧ Lev ad own H r.length ps out la ∧ ps.Ok ∧ Stk ad own H r out
theorem Stk.move {ad : Ads} {own own' : Own} {H H' : AH} : ∀ {stk : List PS} {v : AV}, Stk ad own H stk v → (∀ a j r, own a = some (j, r) → j < stk.length → own' a = some (j, r) ∧ H' a = H a) → Sub (fz own H) (fz own' H') → Stk ad own' H' stk v
  | [], _, h, _, _ => h
  | ps :: r, _, ⟨la, out, e, L, ok, h⟩, k, s => ⟨la, out, e, L.move (fun a ro ha => k a _ ro ha (Nat.lt_succ_self _)) s, ok, h.move (fun a j ro ha hj => k a j ro ha (Nat.lt_succ_of_lt hj)) s⟩

/-- the scopes and the labels -/
structure SS (ad : Ads) (own : Own) (H : AH) (stk : List PS) (v : AV) : Prop where
  stk : Stk ad own H stk v
  lab : Lab own H

section
variable {ad : Ads} {own : Own} {H : AH} {j : Nat} {ps : PS} {out : AV} {la : LA} {r : List PS}

/-- the lower levels stand when the top level's objects change -/
theorem Stk.below {v : AV} {a : Addr} {o : AO} {ro : Role} (S : Stk ad own H r v) (ha : own a = some (r.length, ro)) : Stk ad own (AH.put H a o) r v :=
  S.move (fun b j q hb hj => ⟨hb, put_lab hb ha (by intro z; (have hE0 := prE z; clear z; refine el0_2 hE0 ?_; clear hE0; intro hE1 hE2; subst hE1; subst hE2); exact Nat.lt_irrefl _ hj)⟩) (.put ha)
theorem Stk.fresh {v : AV} {a : Addr} {o : AO} (S : Stk ad own H r v) (L : Lab own H) (ha : H a = none) : Stk ad own (AH.put H a o) r v :=
  S.move (fun b j q hb hj => ⟨hb, put_ne fun z => by subst z; rw [L _ ha] at hb; exact nsE hb⟩) (.new ha)
theorem Lev.fresh {a : Addr} {o : AO} (S : Lev ad own H j ps out la) (L : Lab own H) (ha : H a = none) : Lev ad own (AH.put H a o) j ps out la :=
  S.move (fun b q hb => ⟨hb, put_ne fun z => by subst z; rw [L _ ha] at hb; exact nsE hb⟩) (.new ha)
theorem SS.fresh {v : AV} {a : Addr} {o : AO} (S : SS ad own H r v) (ha : H a = none) : SS ad own (AH.put H a o) r v := ⟨S.stk.fresh S.lab ha, S.lab.put⟩
theorem Stk.freshl {v : AV} {a : Addr} {o : AO} {l : Nat × Role} (S : Stk ad own H r v) (L : Lab own H) (ha : H a = none) : Stk ad (own.put a l) (AH.put H a o) r v :=
  S.move (fun b j q hb hj => by
    have ne : b ≠ a := fun z => by subst z; rw [L _ ha] at hb; exact nsE hb
    exact ⟨(oput_ne ne).trans hb, put_ne ne⟩) (.newl ha)

theorem Lev.attrs (L : Lev ad own H j ps out la) (m : Nat) (ln : Int) : Lev ad own (AH.put H la.dd (.attrs (scAttrs out (.str "P") (.ref la.bl) (.ref la.wt) (.int m) (.ref la.cp) (.int ln)))) j { ps with size := m } out { la with line := ln } := by
  have q : ∀ x ro, own x = some (j, ro) → ro ≠ .dd → AH.put H la.dd (.attrs (scAttrs out (.str "P") (.ref la.bl) (.ref la.wt) (.int m) (.ref la.cp) (.int ln))) x = H x := fun x ro hx ne => put_lab hx L.o2 (by intro z; cases z; exact ne rfl)
  exact ⟨L.o1, L.o2, L.o3, L.o4, L.o5, (q _ _ L.o1 nofun).trans L.h1, put_same, (q _ _ L.o3 nofun).trans L.h3, (q _ _ L.o4 nofun).trans L.h4, (q _ _ L.o5 nofun).trans L.h5, L.l1, L.l2, L.b,
    fun i x B hx hB => (q _ _ (L.b i x hx) (by intro z; cases z)).trans (L.bh i x B hx hB), L.w, fun i x hx => (q _ _ (L.w i x hx) (by intro z; cases z)).trans (L.wh i x hx), L.c.mono (.put L.o2), L.p.mono (.put L.o2)⟩

theorem Lev.cap (L : Lev ad own H j ps out la) {t : Addr} {o i : Nat} {k : Fin 5} (ht : fz own H t = some (.tup [.int o, .int i, .str (sgS k)])) :
    Lev ad own (AH.put H la.cp (.list (la.cs ++ [.ref t]))) j { ps with caps := ps.caps ++ [(o, i, k)] } out { la with cs := la.cs ++ [.ref t] } := by
  have q : ∀ x ro, own x = some (j, ro) → ro ≠ .cp → AH.put H la.cp (.list (la.cs ++ [.ref t])) x = H x := fun x ro hx ne => put_lab hx L.o5 (by intro z; cases z; exact ne rfl)
  exact ⟨L.o1, L.o2, L.o3, L.o4, L.o5, (q _ _ L.o1 nofun).trans L.h1, (q _ _ L.o2 nofun).trans L.h2, (q _ _ L.o3 nofun).trans L.h3, (q _ _ L.o4 nofun).trans L.h4, put_same, L.l1, L.l2, L.b,
    fun i x B hx hB => (q _ _ (L.b i x hx) (by intro z; cases z)).trans (L.bh i x B hx hB), L.w, fun i x hx => (q _ _ (L.w i x hx) (by intro z; cases z)).trans (L.wh i x hx), (L.c.mono (.put L.o5)).snoc (Sub.put L.o5 _ _ ht), L.p.mono (.put L.o5)⟩

/-- a block's dict is changed -/
theorem Lev.blk (L : Lev ad own H j ps out la) {ps' : PS} {n : Nat} {x : Addr} {B : Blk} (hx : la.bas[n]? = some x) (hB : pyB ps' = (pyB ps).set n B) (h1 : ps'.size = ps.size) (h2 : ps'.caps = ps.caps) (h3 : ps'.pend = ps.pend) :
    Lev ad own (AH.put H x (.dict (bAV B))) j ps' out la := by
  have ox := L.b n x hx
  have q : ∀ y ro, own y = some (j, ro) → ro ≠ .blk n → AH.put H x (.dict (bAV B)) y = H y := fun y ro hy ne => put_lab hy ox (by intro z; cases z; exact ne rfl)
  have hl : ps'.inner.length = ps.inner.length := by
    have := congrArg List.length hB
    rw [List.length_set, pyB_len, pyB_len] at this; (first | (simp +arith only; done) | lia | omega)
  refine ⟨L.o1, L.o2, L.o3, L.o4, L.o5, (q _ _ L.o1 (by intro z; cases z)).trans L.h1, ?_, (q _ _ L.o3 (by intro z; cases z)).trans L.h3, (q _ _ L.o4 (by intro z; cases z)).trans L.h4, (q _ _ L.o5 (by intro z; cases z)).trans L.h5, by rw [hl]; exact L.l1, by rw [hl]; exact L.l2, L.b,
    fun i y C hy hC => ?_, L.w, fun i y hy => ?_, ?_, ?_⟩
  · rw [h1]; exact (q _ _ L.o2 (by intro z; cases z)).trans L.h2
  · rw [hB] at hC
    by_cases e : i = n
    · subst e
      rw [hx] at hy; (have hE0 := Option.some.inj hy; subst hE0; clear hy)
      have hn : i < (pyB ps).length := by
        have := (List.getElem?_eq_some_iff.mp hC).1; rw [List.length_set] at this; exact this
      rw [List.getElem?_set_self hn] at hC; (have hE0 := Option.some.inj hC; subst hE0; clear hC)
      exact put_same
    · rw [List.getElem?_set_ne (Ne.symm e)] at hC
      exact (q _ _ (L.b i y hy) (by intro z; cases z; exact e rfl)).trans (L.bh i y C hy hC)
  · rw [hl]; exact (q _ _ (L.w i y hy) (by intro z; cases z)).trans (L.wh i y hy)
  · rw [h2]; exact L.c.mono (.put ox)
  · rw [h3]; exact L.p.mono (.put ox)
end
/-- the new part of what is frozen -/
noncomputable def dif (F F0 : AH) : AH := fun a => match F0 a with
  | none => F a
  | some _ => none
theorem dif_of {F F0 : AH} {a : Addr} {o : AO} (h : F a = some o) (n : F0 a = none) : dif F F0 a = some o := by unfold dif; rw [n]; exact h
theorem dif_some {F F0 : AH} {a : Addr} {o : AO} (h : dif F F0 a = some o) : F a = some o ∧ F0 a = none := by
  unfold dif at h
  cases q : F0 a with
  | none => rw [q] at h; exact ⟨h, rfl⟩
  | some x => rw [q] at h; exact nsE h
theorem none_of_sub {F F' : AH} {a : Addr} (s : Sub F F') (h : F' a = none) : F a = none := by
  cases q : F a with
  | none => rfl
  | some o => rw [s _ _ q] at h; exact snE h
theorem dif_mono {F F' F0 F1 : AH} (s0 : Sub F0 F1) (s : Sub F F') : Sub (dif F F1) (dif F' F0) := fun a o h =>
  let ⟨h1, h2⟩ := dif_some h
  dif_of (s _ _ h1) (none_of_sub s0 h2)
theorem fz_none {own : Own} {H : AH} {a : Addr} (h : H a = none) : fz own H a = none := by
  unfold fz; split <;> first | rfl | exact h
theorem dif_new {own : Own} {H1 F0 : AH} {a : Addr} {o : AO} (s : Sub F0 (fz own H1)) (lab : Lab own H1) (ha : H1 a = none) : dif (fz own (AH.put H1 a o)) F0 a = some o :=
  dif_of (fz_new lab ha) (none_of_sub s (fz_none ha))
noncomputable def TSub (F F' : AH) : Prop := ∀ a xs, F a = some (.tup xs) → F' a = some (.tup xs)
theorem Sub.t {F F' : AH} (s : Sub F F') : TSub F F' := fun a xs h => s _ _ h



section
variable {ad : Ads} {w : World} {sc : Scope} {d : Nat} {loc : Loc} {H : AH}
theorem SX.assign_local {x : Str} {p1 pos : Pos} {value : Expr} {Q : AF → Loc → AH → Prop} (hk : sc.names.lookup x = some .local) (h : EV ad w sc d absV (eval value) loc H (fun v H1 => Q .next (Loc.set loc x v) H1))
    (hs : ∀ env, swapsWith value (some (.Name x p1)) pos.line env = pure false := by with_unfolding_all (intro _; rfl)) : SX ad w sc d (exec (.Assign [.Name x p1] value pos)) loc H Q :=
  SX.assign_name (h.mono fun v H1 q va hva => by subst hva; exact St.name hk q) hs
theorem SX.assign_cell {x : Str} {p1 pos : Pos} {value : Expr} {Q : AF → Loc → AH → Prop} (hk : sc.names.lookup x = some .cell) (hfn : (sc.names.lookup (".0" : Str)).isNone = true) (h : EV ad w sc d absV (eval value) loc H (fun v H1 => Q .next (Loc.set loc x v) H1))
    (hs : ∀ env, swapsWith value (some (.Name x p1)) pos.line env = pure false := by with_unfolding_all (intro _; rfl)) : SX ad w sc d (exec (.Assign [.Name x p1] value pos)) loc H Q :=
  SX.assign_name (h.mono fun v H1 q va hva => by subst hva; exact St.cell hk hfn q) hs
theorem SX.run {body : List Stmt} {b : List Stmt} {Q : AF → Loc → AH → Prop} (e : body = b) (h : SX ad w sc d (execs b) loc H Q) : SX ad w sc d (execs body) loc H Q := e ▸ h
end

theorem len1 {α : Type} {vs : List α} {n : Nat} (h : vs.length = n + 1) : ∃ a r, vs = a :: r ∧ r.length = n := by
  cases vs with
  | nil => cases h
  | cons a r => exact in2_2 a r rfl (Nat.succ.inj h)
theorem len0 {α : Type} {vs : List α} (h : vs.length = 0) : vs = [] := List.length_eq_zero_iff.mp h
theorem binds1 {p : Arguments} {n : Str} {b : List Stmt} {sc : Scope} {k : Nat} (h : ∀ pm cd doc a, bindArgs (Calls.docDef n p b sc pm cd doc) ⟨[a], []⟩ = pure ((pnames p).zip [a])) (hk : (pnames p).length = 1) :
    ∀ pm cd doc vs, vs.length = (pnames p).length → bindArgs (Calls.docDef n p b sc pm cd doc) ⟨vs, []⟩ = pure ((pnames p).zip vs) := fun pm cd doc vs hv => by
  rw [hk] at hv
  refine el2_2 (len1 hv) ?_
  intro x r1 hE1 h1
  obtain rfl := hE1
  obtain rfl := len0 h1
  exact h pm cd doc x
theorem binds2 {p : Arguments} {n : Str} {b : List Stmt} {sc : Scope} (h : ∀ pm cd doc x y, bindArgs (Calls.docDef n p b sc pm cd doc) ⟨[x, y], []⟩ = pure ((pnames p).zip [x, y])) (hk : (pnames p).length = 2) :
    ∀ pm cd doc vs, vs.length = (pnames p).length → bindArgs (Calls.docDef n p b sc pm cd doc) ⟨vs, []⟩ = pure ((pnames p).zip vs) := fun pm cd doc vs hv => by
  rw [hk] at hv
  refine el2_2 (len1 hv) ?_
  intro x r1 hE1 h1
  obtain rfl := hE1
  refine el2_2 (len1 h1) ?_
  intro y r2 hE1 h2
  obtain rfl := hE1
  obtain rfl := len0 h2
  exact h pm cd doc x y
theorem binds3 {p : Arguments} {n : Str} {b : List Stmt} {sc : Scope} (h : ∀ pm cd doc x y z, bindArgs (Calls.docDef n p b sc pm cd doc) ⟨[x, y, z], []⟩ = pure ((pnames p).zip [x, y, z])) (hk : (pnames p).length = 3) :
    ∀ pm cd doc vs, vs.length = (pnames p).length → bindArgs (Calls.docDef n p b sc pm cd doc) ⟨vs, []⟩ = pure ((pnames p).zip vs) := fun pm cd doc vs hv => by
  rw [hk] at hv
  refine el2_2 (len1 hv) ?_
  intro x r1 hE1 h1
  obtain rfl := hE1
  refine el2_2 (len1 h1) ?_
  intro y r2 hE1 h2
  obtain rfl := hE1
  refine el2_2 (len1 h2) ?_
  intro z r3 hE1 h3
  obtain rfl := hE1
  obtain rfl := len0 h3
  exact h pm cd doc x y z

section
variable {ad : Ads} {w : World} {sc : Scope} {d : Nat} {loc : Loc} {H : AH}
/-- the call of a def, its body given -/
theorem CallV.fn1 {i : Nat} {a : AV} {b : List Stmt} {Q : AV → AH → Prop} (e : fnBody i = b) (hi : i ∈ fnList) (hk : (pnames (fnParams i)).length = 1)
    (hb : ∀ pm cd doc a, bindArgs (Calls.docDef (fnName i) (fnParams i) (fnBody i) (fnScope i) pm cd doc) ⟨[a], []⟩ = pure ((pnames (fnParams i)).zip [a]))
    (hns : kindsOK (pnames (fnParams i)) (fnScope i) = true) (hok : okScope (fnScope i) = true)
    (h : SX ad w (fnScope i) d (execs b) (Loc.bind (pnames (fnParams i)) [a] Loc.nil) H (fun f _ H1 => Q (match f with | .ret v => v | _ => .none) H1)) : CallV ad w sc (d + 1) (.ref (ad.fn i)) [a] loc H Q :=
  CallV.fn hi hk.symm (binds1 (k := 1) hb hk) hns hok (SX.run e h)
theorem CallV.fn2 {i : Nat} {x y : AV} {b : List Stmt} {Q : AV → AH → Prop} (e : fnBody i = b) (hi : i ∈ fnList) (hk : (pnames (fnParams i)).length = 2)
    (hb : ∀ pm cd doc x y, bindArgs (Calls.docDef (fnName i) (fnParams i) (fnBody i) (fnScope i) pm cd doc) ⟨[x, y], []⟩ = pure ((pnames (fnParams i)).zip [x, y]))
    (hns : kindsOK (pnames (fnParams i)) (fnScope i) = true) (hok : okScope (fnScope i) = true)
    (h : SX ad w (fnScope i) d (execs b) (Loc.bind (pnames (fnParams i)) [x, y] Loc.nil) H (fun f _ H1 => Q (match f with | .ret v => v | _ => .none) H1)) : CallV ad w sc (d + 1) (.ref (ad.fn i)) [x, y] loc H Q :=
  CallV.fn hi hk.symm (binds2 hb hk) hns hok (SX.run e h)
theorem CallV.fn3 {i : Nat} {x y z : AV} {b : List Stmt} {Q : AV → AH → Prop} (e : fnBody i = b) (hi : i ∈ fnList) (hk : (pnames (fnParams i)).length = 3)
    (hb : ∀ pm cd doc x y z, bindArgs (Calls.docDef (fnName i) (fnParams i) (fnBody i) (fnScope i) pm cd doc) ⟨[x, y, z], []⟩ = pure ((pnames (fnParams i)).zip [x, y, z]))
    (hns : kindsOK (pnames (fnParams i)) (fnScope i) = true) (hok : okScope (fnScope i) = true)
    (h : SX ad w (fnScope i) d (execs b) (Loc.bind (pnames (fnParams i)) [x, y, z] Loc.nil) H (fun f _ H1 => Q (match f with | .ret v => v | _ => .none) H1)) : CallV ad w sc (d + 1) (.ref (ad.fn i)) [x, y, z] loc H Q :=
  CallV.fn hi hk.symm (binds3 hb hk) hns hok (SX.run e h)
end

section
variable {ad : Ads} {w : World} {sc : Scope} {d : Nat} {loc : Loc} {H : AH}
/-! the rules as the walk's line takes them: side goals by themselves -/
theorem zG4 {x : Str} {p1 pos : Pos} {value : Expr} {Q : AF → Loc → AH → Prop} (h : EV ad w sc d absV (eval value) loc H (fun v H1 => Q .next (Loc.set loc x v) H1)) (hk : sc.names.lookup x = some .local := by with_unfolding_all rfl)
    (hs : ∀ env, swapsWith value (some (.Name x p1)) pos.line env = pure false := by intro _; with_unfolding_all rfl) : SX ad w sc d (exec (.Assign [.Name x p1] value pos)) loc H Q := SX.assign_local hk h hs
theorem zG5 {x : Str} {p1 pos : Pos} {value : Expr} {Q : AF → Loc → AH → Prop} (h : EV ad w sc d absV (eval value) loc H (fun v H1 => Q .next (Loc.set loc x v) H1)) (hk : sc.names.lookup x = some .cell := by with_unfolding_all rfl) (hfn : (sc.names.lookup (".0" : Str)).isNone = true := by with_unfolding_all rfl)
    (hs : ∀ env, swapsWith value (some (.Name x p1)) pos.line env = pure false := by intro _; with_unfolding_all rfl) : SX ad w sc d (exec (.Assign [.Name x p1] value pos)) loc H Q := SX.assign_cell hk hfn h hs
theorem zG6 {x : Str} {pos : Pos} {v : AV} {Q : Loc → AH → Prop} (q : Q (Loc.set loc x v) H) (hk : sc.names.lookup x = some .local := by with_unfolding_all rfl) : AT ad w sc d (.Name x pos) v loc H Q := AT.name hk q
theorem zG7 {i : Nat} {P : Prop} (q : P) (hm : i ∈ fnList := by decide) : CalleeOK ad (.ref (ad.fn i)) ∧ P := ⟨.fn hm, q⟩
theorem zG8 {P : Prop} {i : String} (q : P) : CalleeOK ad (.lit (.builtin i)) ∧ P := ⟨.builtin _, q⟩
theorem zG9 {P : Prop} {i : String} (q : P) : CalleeOK ad (.lit (.type i)) ∧ P := ⟨.type _, q⟩
theorem zG0 {P : Prop} (q : P) : CalleeOK ad (.ref ad.cls) ∧ P := ⟨.cls, q⟩
inductive IsAt : Expr → Prop
  | n (x : Str) (p : Pos) : IsAt (.Name x p)
  | c (c : Const) (k : Nat) (p : Pos) : IsAt (.Constant c k p)
theorem at_cases {P : Expr → Prop} (h1 : ∀ x p, P (.Name x p)) (h2 : ∀ c k p, P (.Constant c k p)) {e : Expr} (h : IsAt e) : P e := IsAt.rec (motive := fun e _ => P e) h1 h2 h
theorem at_star {e : Expr} (h : IsAt e) (rest : List Expr) (env : Env) : starEach (e :: rest) env = (false, eval e env) :: starEach rest env := at_cases (P := fun e => starEach (e :: rest) env = (false, eval e env) :: starEach rest env) (fun _ _ => rfl) (fun _ _ _ => rfl) h
theorem at_slice {e : Expr} (h : IsAt e) : NoSlice e := at_cases (P := NoSlice) (fun _ _ _ _ => rfl) (fun _ _ _ _ _ => rfl) h
theorem at_marks {e : Expr} {op : CmpOp} (h : IsAt e) : behindInMarks op e = false := at_cases (P := fun e => behindInMarks op e = false) (fun _ _ => by with_unfolding_all cases op <;> rfl) (fun _ _ _ => by with_unfolding_all cases op <;> rfl) h
theorem at_call {e : Expr} (h : IsAt e) (args : List Expr) (pos : Pos) (env : Env) : eval (.Call e args [] pos) env = (eval e env >>= fun f => callWith pos f [] (backTo pos (starEach args env)) []) :=
  at_cases (P := fun func => eval (.Call func args [] pos) env = (eval func env >>= fun f => callWith pos f [] (backTo pos (starEach args env)) [])) (fun _ _ => rfl) (fun _ _ _ => rfl) h
theorem at_swaps {e : Expr} (h : IsAt e) (x : Str) (p1 : Pos) (n : Nat) (env : Env) : swapsWith e (some (.Name x p1)) n env = pure false :=
  at_cases (P := fun e => swapsWith e (some (.Name x p1)) n env = pure false) (fun _ _ => rfl) (fun _ _ _ => rfl) h
theorem at_attr {e : Expr} (h : IsAt e) (name : Str) (pos : Pos) (env : Env) : eval (.Attribute e name pos) env = (do
      let o ← eval e env
      standAt pos.atName
      let r ← holding [o] (getAttr o name true)
      letTemporaryGo e o r
      pure r) := at_cases (P := fun e => eval (.Attribute e name pos) env = (do
      let o ← eval e env
      standAt pos.atName
      let r ← holding [o] (getAttr o name true)
      letTemporaryGo e o r
      pure r)) (fun _ _ => by with_unfolding_all rfl) (fun _ _ _ => by with_unfolding_all rfl) h
theorem AS.n {Q : Loc → AH → Prop} (h : Q loc H) : AS ad w sc d [] [] loc H Q := h
theorem AS.c {t : Expr} {ts : List Expr} {v : AV} {vs : List AV} {Q : Loc → AH → Prop} (h : AT ad w sc d t v loc H (fun l H1 => AS ad w sc d ts vs l H1 Q)) : AS ad w sc d (t :: ts) (v :: vs) loc H Q := h
/-! atoms: what gives its value with nothing done -/
structure Atm (ad : Ads) (sc : Scope) (loc : Loc) (e : Expr) (v : AV) : Prop where
  a : IsAt e
  q : ∀ (w : World) (d : Nat) (H : AH) (Q : AV → AH → Prop), Q v H → EV ad w sc d absV (eval e) loc H Q
noncomputable def nmv (ad : Ads) (loc : Loc) (x : Str) : NameKind → Option AV | .local => loc x | .cell => loc x | .globalImplicit => gval ad x | _ => none
theorem Atm.m {x : Str} {pos : Pos} {v : AV} {k : NameKind} (hk : sc.names.lookup x = some k) (hv : nmv ad loc x k = some v) (hd : (x == ("__debug__" : Str)) = false) : Atm ad sc loc (.Name x pos) v := by
  refine ⟨.n _ _, fun w d H Q q => ?_⟩
  cases k with
  | «local» => exact EV.name_local hk hv q hd
  | cell => exact EV.name_cell hk hv q hd
  | globalImplicit => exact EV.name_glob hk hv q hd
  | free => exact nsE hv
  | globalExplicit => exact nsE hv
theorem Atm.i {i : Int} {k : Nat} {pos : Pos} : Atm ad sc loc (.Constant (.int i) k pos) (.int i)   := ⟨.c _ _ _, fun _ _ _ _ q => EV.const_int q⟩
theorem Atm.s {i : Str} {k : Nat} {pos : Pos} : Atm ad sc loc (.Constant (.str i) k pos) (.str i)   := ⟨.c _ _ _, fun _ _ _ _ q => EV.const_str q⟩
theorem Atm.n {k : Nat} {pos : Pos} : Atm ad sc loc (.Constant .none k pos) .none   := ⟨.c _ _ _, fun _ _ _ _ q => EV.const_none q⟩
theorem Atm.b {i : Bool} {k : Nat} {pos : Pos} : Atm ad sc loc (.Constant (.bool i) k pos) (.bool i)   := ⟨.c _ _ _, fun _ _ _ _ q => EV.const_bool q⟩
noncomputable def AtmO (ad : Ads) (sc : Scope) (loc : Loc) : Option Expr → AV → Prop | none, v => v = .none | some e, v => Atm ad sc loc e v
theorem AtmO.n : AtmO ad sc loc none .none := rfl
theorem AtmO.s {e : Expr} {v : AV} (h : Atm ad sc loc e v) : AtmO ad sc loc (some e) v := h
theorem AtmO.pe {e : Option Expr} {v : AV} {Q : AV → AH → Prop} (h : AtmO ad sc loc e v) (q : Q v H) : PE ad w sc d e loc H Q := by
  cases e with
  | none => cases h; exact PE.none q
  | some e => exact PE.some (Atm.q h w d H Q q)
structure AtmL (ad : Ads) (sc : Scope) (loc : Loc) (pos : Pos) (es : List Expr) (vs : List AV) : Prop where
  a : ∀ env, (starEach es env).any (·.1) = false
  q : ∀ (w : World) (d : Nat) (H : AH) (Q : List AV → AH → Prop), Q vs H → AR ad w sc d pos es loc H Q
theorem AtmL.n {pos : Pos} : AtmL ad sc loc pos [] [] := ⟨fun _ => rfl, fun _ _ _ _ q => AR.nil q⟩
theorem AtmL.c {pos : Pos} {x : Expr} {rest : List Expr} {v : AV} {vs : List AV} (h1 : Atm ad sc loc x v) (h2 : AtmL ad sc loc pos rest vs) : AtmL ad sc loc pos (x :: rest) (v :: vs) :=
  ⟨fun env => by rw [at_star h1.a]; exact h2.a env, fun w d H _ q => AR.cons (h1.q w d H _ (h2.q w d H _ q)) (at_star h1.a rest)⟩
theorem EV.subA {value slice : Expr} {pos : Pos} {vo vi : AV} {Q : AV → AH → Prop} (h1 : Atm ad sc loc value vo) (h2 : Atm ad sc loc slice vi) (h : SubT ad w sc d vo vi loc H Q) :
    EV ad w sc d absV (eval (.Subscript value slice pos)) loc H Q := EV.subscript (h1.q w d H _ (h2.q w d H _ h)) (at_slice h2.a)
theorem EV.callA {func : Expr} {args : List Expr} {pos : Pos} {f : AV} {vs : List AV} {Q : AV → AH → Prop} (h1 : Atm ad sc loc func f) (h2 : AtmL ad sc loc pos args vs) (h0 : CalleeOK ad f) (h : CallV ad w sc d f vs loc H Q) :
    EV ad w sc d absV (eval (.Call func args [] pos)) loc H Q := EV.call (h1.q w d H _ ⟨h0, h2.q w d H _ h⟩) h2.a (at_call h1.a args pos)
theorem EV.callB {func : Expr} {args : List Expr} {pos : Pos} {f : AV} {Q : AV → AH → Prop} (h1 : Atm ad sc loc func f) (h0 : CalleeOK ad f)
    (hp : ∀ env, (starEach args env).any (·.1) = false) (h : AR ad w sc d pos args loc H (fun vs H2 => CallV ad w sc d f vs loc H2 Q)) : EV ad w sc d absV (eval (.Call func args [] pos)) loc H Q := EV.call (h1.q w d H _ ⟨h0, h⟩) hp (at_call h1.a args pos)
theorem EV.mcallA {o : Expr} {name : Str} {apos pos : Pos} {args : List Expr} {ov : AV} {Q : AV → AH → Prop}
    (h1 : Atm ad sc loc o ov)
    (hp : ∀ env, (starEach args env).any (·.1) = false)
    (he : ∃ pl : Env → Sem Bool, ∀ env, eval (.Call (.Attribute o name apos) args [] pos) env = (do
      let ov ← eval o env
      standAt apos.atName
      let (f, first) ← holding [ov] (getMethod ov name (pl env))
      callWith pos f first (backTo pos (starEach args env)) [])) (h : ∃ id, GetM ad w ov name id H ∧ AR ad w sc d pos args loc H (fun vs H2 => CallV ad w sc d (.lit (.builtin id)) (ov :: vs) loc H2 Q)) : EV ad w sc d absV (eval (.Call (.Attribute o name apos) args [] pos)) loc H Q := let ⟨_, he⟩ := he; EV.mcall (h1.q w d H _ h) hp he
theorem EV.attrA {value : Expr} {name : Str} {pos : Pos} {o : AV} {Q : AV → AH → Prop} (h1 : Atm ad sc loc value o) (h : AttrT ad w sc d o name loc H Q) : EV ad w sc d absV (eval (.Attribute value name pos)) loc H Q := EV.attr (h1.q w d H _ h) (at_attr h1.a name pos)
theorem EV.binA {l r : Expr} {op : Operator} {pos : Pos} {a b : AV} {Q : AV → AH → Prop} (h1 : Atm ad sc loc l a) (h2 : Atm ad sc loc r b) (h : Bin ad w sc d op a b loc H Q) : EV ad w sc d absV (eval (.BinOp l op r pos)) loc H Q := EV.binop (h1.q w d H _ (h2.q w d H _ h))
theorem EV.cmpA {l r : Expr} {op : CmpOp} {pos : Pos} {a b : AV} {Q : AV → AH → Prop} (h1 : Atm ad sc loc l a) (h2 : Atm ad sc loc r b) (h : Cmp ad w sc d op a b loc H (fun c H' => Q (.bool c) H')) : EV ad w sc d absV (eval (.Compare l [op] [r] pos)) loc H Q :=
  EV.compare (h1.q w d H _ (h2.q w d H _ h)) (at_marks h2.a)
theorem EV.itcA {l r : Expr} {op : CmpOp} {pos : Pos} {a b : AV} {Q : Bool → AH → Prop} (h1 : Atm ad sc loc l a) (h2 : Atm ad sc loc r b) (h : Cmp ad w sc d op a b loc H Q) : EV ad w sc d id (IT (.Compare l [op] [r] pos)) loc H Q :=
  EV.it_compare (h1.q w d H _ (h2.q w d H _ h)) (at_marks h2.a)
theorem EV.tupA {elts : List Expr} {k : Nat} {pos : Pos} {vs : List AV} {Q : AV → AH → Prop} (h1 : AtmL ad sc loc pos elts vs) (h : vs.length ≤ 1000 ∧ ∀ a, H a = none → Q (.ref a) (AH.put H a (.tup vs))) :
    EV ad w sc d absV (eval (.Tuple elts k pos)) loc H Q := EV.tuple (h1.q w d H _ h)
theorem EV.listA {elts : List Expr} {pos : Pos} {vs : List AV} {Q : AV → AH → Prop} (h1 : AtmL ad sc loc pos elts vs) (h : vs.length ≤ 1000 ∧ ∀ a, H a = none → Q (.ref a) (AH.put H a (.list vs))) :
    EV ad w sc d absV (eval (.List elts pos)) loc H Q := EV.list (h1.q w d H _ h)
theorem EV.sliceA {value : Expr} {lo hi st : Option Expr} {p pos : Pos} {o l u k : AV} {Q : AV → AH → Prop} (h1 : Atm ad sc loc value o)
    (hl : AtmO ad sc loc lo l) (hu : AtmO ad sc loc hi u) (hk : AtmO ad sc loc st k)
    (hs : ∀ o i, ∃ ops, subscripted (.Slice lo hi st p) false o i = operate ops (getItem o i)) (h : SliceT ad w sc d o l u k loc H Q) :
    EV ad w sc d absV (eval (.Subscript value (.Slice lo hi st p) pos)) loc H Q := EV.slice (h1.q w d H _ (hl.pe (hu.pe (hk.pe h)))) hs
theorem SX.retA {x : Expr} {pos : Pos} {v : AV} {Q : AF → Loc → AH → Prop} (h1 : Atm ad sc loc x v) (h : Q (.ret v) loc H) : SX ad w sc d (exec (.Return (some x) pos)) loc H Q := SX.ret (h1.q w d H _ h)
theorem zG1 {e : Expr} {v : AV} {Q : AV → AH → Prop} (h1 : Atm ad sc loc e v) (q : Q v H) : EV ad w sc d absV (eval e) loc H Q := h1.q w d H Q q
theorem SX.asgA {x : Str} {p1 pos : Pos} {value : Expr} {v : AV} {Q : AF → Loc → AH → Prop} (h1 : Atm ad sc loc value v) (hk : sc.names.lookup x = some .local) (h : Q .next (Loc.set loc x v) H) :
    SX ad w sc d (exec (.Assign [.Name x p1] value pos)) loc H Q := SX.assign_local hk (h1.q w d H _ h) (at_swaps h1.a x p1 pos.line)
end

local macro_rules
  | `(tactic| walk_at "at") => `(tactic| first | (with_reducible refine' Atm.m ..); rotate_left 2; rfl; (first | rfl | assumption); decide | exact Atm.i | exact Atm.s | exact Atm.n | exact Atm.b)
  | `(tactic| walk_at "ats") => `(tactic| first | exact AtmL.n | (with_reducible refine' AtmL.c ..); rotate_left 2; walk_at "at"; walk_at "ats")
  | `(tactic| walk_at "ato") => `(tactic| first | exact AtmO.n | (with_reducible refine' AtmO.s ..); walk_at "ra")
  | `(tactic| walk_at "ok") => `(tactic| first | (with_reducible refine CalleeOK.fn ?_); decide | constructor)
  | `(tactic| walk_at "ra") => `(tactic| (rotate_left; walk_at "at"))
  | `(tactic| walk_at "rb") => `(tactic| (rotate_left 2; walk_at "at"; walk_at "at"))
  | `(tactic| walk_at "rc") => `(tactic| (rotate_left 2; walk_at "at"; walk_at "ats"; walk_at "ok"))
  | `(tactic| walk_at "rm") => `(tactic| (rotate_left; walk_at "at"; (intro _; rfl); exact ⟨_, fun _ => rfl⟩))
  | `(tactic| walk_at "rs") => `(tactic| (rotate_left 4; walk_at "at"; walk_at "ato"; walk_at "ato"; walk_at "ato"; intro _ _; exact ⟨_, rfl⟩))
  | `(tactic| walk_at "rt") => `(tactic| (rotate_left; walk_at "ats"))
  | `(tactic| walk_at "rg") => `(tactic| (rotate_left; walk_at "at"; rfl))
  | `(tactic| walk_at "rd") => `(tactic| (rotate_left; walk_at "at"; walk_at "ok"; (intro _; rfl)))
local macro_rules | `(tactic| walk_at "goA") => `(tactic| first | (with_reducible refine' SX.retA ..); walk_at "ra" | (with_reducible refine' EV.subA ..); walk_at "rb" | (with_reducible refine' EV.callA ..); walk_at "rc" | (with_reducible refine' EV.mcallA ..); walk_at "rm" | (with_reducible refine' EV.attrA ..); walk_at "ra" | (with_reducible refine' EV.sliceA ..); walk_at "rs" | (with_reducible refine' EV.itcA ..); walk_at "rb" | (with_reducible refine' EV.cmpA ..); walk_at "rb" | (with_reducible refine' EV.binA ..); walk_at "rb" | (with_reducible refine' EV.tupA ..); walk_at "rt" | (with_reducible refine' EV.listA ..); walk_at "rt" | (with_reducible refine' SX.asgA ..); walk_at "rg" | (with_reducible refine' EV.callB ..); walk_at "rd" | (with_reducible refine' zG1 ..); walk_at "ra")
local macro_rules | `(tactic| walk_at "go1") => `(tactic| with_reducible first | refine SX.ret ?_ | refine AR.cons ?_ | refine EV.mcall ?_ | refine EV.call ?_ | refine EV.attr ?_ | refine EV.slice ?_ | refine EV.subscript ?_ | refine EV.binop ?_ | refine EV.compare ?_ | refine EV.unary ?_ | refine EV.tuple ?_ | refine EV.dict_empty ?_ | refine EV.list ?_ | refine EV.ifexp ?_ | refine EV.or_cons ?_ | refine EV.or_one ?_ | refine EV.and_cons ?_ | refine EV.and_one ?_ | refine EV.it_compare ?_ | refine EV.it_not ?_ | refine EV.it_and_nil ?_ | refine EV.it_or_nil ?_ | refine EV.it_and ?_ | refine EV.it_or ?_ | refine PE.none ?_ | refine PE.some ?_ | refine zG4 ?_ | refine zG5 ?_ | refine SX.expr ?_ | refine SX.assign_tuple ?_ | refine SX.aug_sub ?_ | refine SX.aug_attr ?_ | refine SX.assign_attr ?_ | refine SX.assign_sub ?_ | refine Inp.add_int ?_ | refine Bin.sub_int ?_ | refine Bin.add_int ?_ | refine Una.neg_int ?_ | refine zG7 ?_ | refine zG8 ?_ | refine zG9 ?_ | refine zG0 ?_ | refine zG6 ?_ | refine AS.n ?_ | refine AS.c ?_)
local macro_rules | `(tactic| walk_at "go0") => `(tactic| with_reducible first | refine SX.cons ?_ | refine Nx.next ?_ | refine Nx.ret ?_ | refine Nx.brk ?_ | refine Nx.cont ?_ | refine SX.nil ?_ | refine SX.brk ?_ | refine SX.cont ?_ | refine SX.ite ?_ | refine AR.nil ?_)
local macro_rules | `(tactic| walk_at "go") => `(tactic| repeat (first | walk_at "go0" | walk_at "goA" | walk_at "go1" | dsimp only))

theorem hereL_drop {k : Fin 5} {l : List Blk} {i : Nat} {B : Blk} (h : l[i]? = some B) : hereL (l.drop i) k = match bget B k with | some p => some p | none => hereL (l.drop (i + 1)) k := by
  refine hide fun PZ kZ => ?_
  obtain ⟨hi, hE1⟩ := List.getElem?_eq_some_iff.mp h
  refine kZ ?_
  clear kZ PZ
  obtain rfl := hE1
  rw [List.drop_eq_getElem_cons hi]; rfl

section
variable {ad : Ads} {w : World} {sc : Scope} {d : Nat} {loc : Loc} {own : Own} {H : AH} {j : Nat} {ps : PS} {out : AV} {la : LA} {r : List PS}

theorem sp_new_slot {Q : AV → AH → Prop} (L : Lev ad own H j ps out la) (q : Q (.int ps.size) (AH.put H la.dd (.attrs (scAttrs out (.str "P") (.ref la.bl) (.ref la.wt) (.int ((ps.size + 1 : Nat) : Int)) (.ref la.cp) (.int la.line))))) :
    CallV ad w sc (d + 1) (.ref (ad.fn 17)) [.ref la.self] loc H Q := by
  have hne : la.self ≠ la.dd := fun z => by have := L.o1; rw [z, L.o2] at this; cases this
  refine CallV.fn1 (by conv => lhs; whnf) (by decide) rfl (fun _ _ _ _ => rfl) (by decide) (by decide) ?_
  walk_at "go"
  refine AttrT.inst L.h1 L.h2 (by rfl) ?_
  walk_at "go"
  refine SetA.inst L.h1 L.h2 (by show _ ≤ _; simp [scAttrs]) ?_
  walk_at "go"
  refine AttrT.inst (by rw [put_ne hne]; exact L.h1) put_same (by rfl) ?_
  walk_at "go"
  have e : ((ps.size : Int) + 1 - 1) = ps.size := by (first | (simp +arith only; done) | lia | omega)
  rw [e]
  exact q

theorem sp_find_here {Q : AV → AH → Prop} (k : Fin 5) (L : Lev ad own H j ps out la) (hz : ps.inner.length ≤ 100) (q : ∀ n, H n = none → Q (((ps.here k).map Pl.av).getD .none) (AH.put H n (.list (la.bas.map .ref).reverse))) :
    CallV ad w sc (d + 1) (.ref (ad.fn 18)) [.ref la.self, .str (kyS k)] loc H Q := by
  refine CallV.fn2 (by conv => lhs; whnf) (by decide) rfl (fun _ _ _ _ _ => rfl) (by decide) (by decide) ?_
  refine SX.cons ?_
  refine SX.for_list ?_
  walk_at "go"
  refine AttrT.inst L.h1 L.h2 (by rfl) ?_
  walk_at "go"
  refine SliceT.list_rev L.h3 (by have := L.l1; simp; (first | (simp +arith only; done) | lia | omega)) fun n hn => ?_
  have hB : (pyB ps).reverse = ps.inner ++ [ps.base] := by simp [pyB]
  have hlen : (la.bas.map AV.ref).reverse.length = (pyB ps).length := by rw [pyB_len, List.length_reverse, List.length_map, L.l1]
  refine in3_5 n ((la.bas.map .ref).reverse) (fun i l H1 => H1 = AH.put H n (.list (la.bas.map .ref).reverse) ∧ l "key" = some (.str (kyS k)) ∧ ps.here k = hereL ((ps.inner ++ [ps.base]).drop i) k) rfl (⟨rfl, rfl, rfl⟩) ?_ ?_ ?_
  · rintro i l H1 ⟨rfl, _⟩; exact put_same
  · rintro i x l H1 hx hI0 
    refine el0_3 hI0 ?_
    try clear hI0
    intro hE1 hkey hh
    obtain rfl := hE1
    have hi : i < (pyB ps).length := by rw [← hlen]; exact (List.getElem?_eq_some_iff.mp hx).1
    have hi2 : i < la.bas.length := by rw [pyB_len] at hi; rw [L.l1]; exact hi
    obtain ⟨B, hBi⟩ : ∃ B, (pyB ps).reverse[i]? = some B := ⟨_, List.getElem?_eq_getElem (by simpa using hi)⟩
    obtain ⟨b, hb, rfl⟩ : ∃ b, la.bas[la.bas.length - 1 - i]? = some b ∧ x = .ref b := by
      rw [List.getElem?_reverse (by simpa using hi2), List.length_map, List.getElem?_map] at hx
      refine el1_2 (Option.map_eq_some_iff.mp hx) ?_
      intro b h1 h2
      exact in1_2 b h1 h2.symm
    have hbH : H b = some (.dict (bAV B)) := L.bh _ b B hb (by
      rw [List.getElem?_reverse hi] at hBi
      rw [L.l1, ← pyB_len]; exact hBi)
    have hbH' : AH.put H n (.list (la.bas.map .ref).reverse) b = some (.dict (bAV B)) := by rw [put_ne]; exact hbH; intro z; subst z; rw [hn] at hbH; exact nsE hbH
    rw [hB] at hBi
    have hd := hereL_drop (k := k) hBi
    refine AT.name (by rfl) ?_
    walk_at "go"
    refine Cmp.in_dict hbH' ?_
    rw [bAV_get]
    cases hg : bget B k with
    | none =>
      rw [hg] at hd
      refine ⟨fun z => (by exact ftE z), fun _ => by walk_at "go"; exact ⟨rfl, hkey, hh.trans hd⟩⟩
    | some p =>
      rw [hg] at hd
      refine pick_t ?_
      walk_at "go"
      refine SubT.dict hbH' (x := p.av) (by rw [bAV_get, hg]; rfl) ?_
      have e : ((ps.here k).map Pl.av).getD .none = p.av := by rw [hh, hd]; rfl
      have := q n hn
      rw [e] at this
      exact this
  · rintro l H1 hI0 
    refine el0_3 hI0 ?_
    try clear hI0
    intro hE1 hkey hh
    obtain rfl := hE1
    walk_at "go"
    have e : ((ps.here k).map Pl.av).getD .none = .none := by
      rw [hh, List.drop_eq_nil_of_le]
      · rfl
      · rw [hlen, pyB_len]; simp
    have := q n hn
    rw [e] at this
    exact this
end


theorem CallV.room {ad : Ads} {w : World} {sc : Scope} {d d' : Nat} {loc : Loc} {H : AH} {f : AV} {args : List AV} {Q : AV → AH → Prop} (h : CallV ad w sc d' f args loc H Q) (l : d' ≤ d) : CallV ad w sc d f args loc H Q :=
  fun vf vs a b => (h vf vs a b).room l
theorem ky_sg : ∀ k, Txt.item (kyS k) 0 = sgS k := by decide
theorem ky_len : ∀ k, (kyS k).length = 2 := by decide
noncomputable def plv (p : Option Pl) : AV := (p.map Pl.av).getD .none

theorem Cmp.isnot_pl {ad : Ads} {w : World} {sc : Scope} {d : Nat} {loc : Loc} {H : AH} {p : Option Pl} {Q : Bool → AH → Prop} (q : Q p.isSome H) : Cmp ad w sc d .IsNot (plv p) .none loc H Q := by
  cases p with
  | none => exact Cmp.isnot_none q rfl
  | some p => cases p <;> exact Cmp.isnot_none q rfl
theorem Cmp.is_pl {ad : Ads} {w : World} {sc : Scope} {d : Nat} {loc : Loc} {H : AH} {p : Option Pl} {Q : Bool → AH → Prop} (q : Q p.isNone H) : Cmp ad w sc d .Is (plv p) .none loc H Q := by
  cases p with
  | none => exact Cmp.is_none q rfl
  | some p => cases p <;> exact Cmp.is_none q rfl

theorem findName_len (k : Fin 5) : ∀ (stk : List PS), (findName stk k).2.length = stk.length
  | [] => rfl
  | [ps] => rfl
  | ps :: r :: rs => by
    have ih := findName_len k (r :: rs)
    simp only [findName]
    split
    · rfl
    · split
      · rename_i n s hs; rw [hs] at ih; simp at ih ⊢; exact ih
      · rename_i p s _ hs; rw [hs] at ih; simp at ih ⊢; exact ih
section
variable {ad : Ads} {w : World} {sc : Scope} {loc : Loc}

theorem Stk.out_lit {own : Own} {H : AH} {stk : List PS} {v : AV} (S : Stk ad own H stk v) : v.isLit = false ∧ v.isNone = stk.isEmpty := by
  cases stk with
  | nil => simp only [Stk] at S; subst S; exact ⟨rfl, rfl⟩
  | cons ps r => obtain ⟨la, out, rfl, _⟩ := S; exact ⟨rfl, rfl⟩

theorem sp_find_name (k : Fin 5) : ∀ (stk : List PS) (d : Nat) (own : Own) (H : AH) (v : AV) (sc : Scope) (loc : Loc) (Q : AV → AH → Prop), SS ad own H stk v → stk ≠ [] → (∀ ps ∈ stk, ps.inner.length ≤ 100) →
    (∀ H', SS ad own H' (findName stk k).2 v → Sub (fz own H) (fz own H') → (∀ a j r, own a = some (j, r) → stk.length ≤ j → H' a = H a) → Q (plv (findName stk k).1) H') → CallV ad w sc (d + stk.length + 1) (.ref (ad.fn 19)) [v, .str (kyS k)] loc H Q
  | [], _, _, _, _, _, _, _, _, h, _, _ => absurd rfl h
  | ps :: rest, d, own, H, v, sc, loc, Q, S, _, hb, q => by
    refine hide fun PZ kZ => ?_
    obtain ⟨hE1, lab⟩ := S
    refine kZ ?_
    clear kZ PZ
    refine el2_4 hE1 ?_
    try clear hE1
    intro la out hE2 L ok S2
    obtain rfl := hE2
    have hz := hb ps (.head _)
    refine CallV.fn2 (by conv => lhs; whnf) (by decide) rfl (fun _ _ _ _ _ => rfl) (by decide) (by decide) ?_
    walk_at "go"
    refine CallV.room (d' := 0 + 1) (sp_find_here k L hz fun n hn => ?_) (by simp; (first | (simp +arith only; done) | lia | omega))
    have L1 : Lev ad own (AH.put H n (.list (la.bas.map .ref).reverse)) rest.length ps out la := L.fresh lab hn
    have S21 : Stk ad own (AH.put H n (.list (la.bas.map .ref).reverse)) rest out := S2.fresh lab hn
    have lab1 : Lab own (AH.put H n (.list (la.bas.map .ref).reverse)) := lab.put
    have sub1 : Sub (fz own H) (fz own (AH.put H n (.list (la.bas.map .ref).reverse))) := .new hn
    have abv1 : ∀ a j r, own a = some (j, r) → AH.put H n (.list (la.bas.map .ref).reverse) a = H a := fun a j r ha => put_ne fun z => by subst z; rw [lab _ hn] at ha; exact nsE ha
    generalize AH.put H n (.list (la.bas.map .ref).reverse) = H1 at L1 S21 lab1 sub1 abv1
    walk_at "go"
    refine Cmp.isnot_pl (p := ps.here k) ?_
    cases hh : ps.here k with
    | some p =>
      refine ⟨fun _ => ⟨fun _ => ?_, fun z => by exact tfE z⟩, fun z => by exact tfE z⟩
      walk_at "go"
      have e : findName (ps :: rest) k = (some p, ps :: rest) := by cases rest <;> simp [findName, hh]
      rw [e] at q
      exact q H1 ⟨⟨la, out, rfl, L1, ok, S21⟩, lab1⟩ sub1 fun a j r ha _ => abv1 a j r ha
    | none =>
      refine pick_f ?_
      walk_at "go"
      refine AttrT.inst L1.h1 L1.h2 (by rfl) ?_ (hl := S21.out_lit.1)
      walk_at "go"
      refine Cmp.is_none ?_ S21.out_lit.1
      rw [S21.out_lit.2]
      cases rest with
      | nil =>
        refine ⟨fun _ => ⟨fun _ => ?_, fun z => by exact tfE z⟩, fun z => by exact tfE z⟩
        walk_at "go"
        have e : findName [ps] k = (none, [ps]) := by simp [findName, hh]
        rw [e] at q
        exact q H1 ⟨⟨la, out, rfl, L1, ok, S21⟩, lab1⟩ sub1 fun a j r ha _ => abv1 a j r ha
      | cons p2 rs =>
        refine pick_f ?_
        walk_at "go"
        refine pick_f ?_
        walk_at "go"
        refine AttrT.inst L1.h1 L1.h2 (by rfl) ?_ (hl := S21.out_lit.1)
        walk_at "go"
        refine CallV.room (d' := d + (p2 :: rs).length + 1) (sp_find_name k (p2 :: rs) d own H1 out _ _ _ ⟨S21, lab1⟩ (by simp) (fun ps hps => hb ps (.tail _ hps)) fun H2 S3 sub2 abv2 => ?_) (by simp; (first | (simp +arith only; done) | lia | omega))
        refine hide fun PZ kZ => ?_
        obtain ⟨S31, lab2⟩ := S3
        refine kZ ?_
        clear kZ PZ
        have L2 : Lev ad own H2 (p2 :: rs).length ps out la := L1.move (fun a r ha => ⟨ha, abv2 a _ r ha (Nat.le_refl _)⟩) sub2
        have hlen : (findName (p2 :: rs) k).2.length = (p2 :: rs).length := findName_len _ _
        cases hf : findName (p2 :: rs) k with | mk fp fs =>
        rw [hf] at S31 hlen
        dsimp only at S31 hlen ⊢
        walk_at "go"
        refine Cmp.is_pl ?_
        cases fp with
        | none =>
          refine ⟨fun _ => ⟨fun _ => ?_, fun z => by exact tfE z⟩, fun z => by exact tfE z⟩
          walk_at "go"
          have e : findName (ps :: p2 :: rs) k = (none, ps :: fs) := by simp only [findName, hh, hf]
          rw [e] at q
          exact q H2 ⟨⟨la, out, rfl, hlen.symm ▸ L2, ok, S31⟩, lab2⟩ (sub1.trans sub2) fun a j r ha hj => (abv2 a j r ha (by simp at hj ⊢; (first | (simp +arith only; done) | lia | omega))).trans (abv1 a j r ha)
        | some p =>
          refine pick_f ?_
          walk_at "go"
          refine EV.it_plain ?_
          walk_at "go"
          cases p with
          | whole x =>
            refine CallV.isi_str_str ?_
            refine Tru.bool ?_
            refine ⟨fun _ => ⟨fun _ => ?_, fun z => by exact tfE z⟩, fun z => by exact tfE z⟩
            walk_at "go"
            have e : findName (ps :: p2 :: rs) k = (some (.whole x), ps :: fs) := by simp only [findName, hh, hf]
            rw [e] at q
            exact q H2 ⟨⟨la, out, rfl, hlen.symm ▸ L2, ok, S31⟩, lab2⟩ (sub1.trans sub2) fun a j r ha hj => (abv2 a j r ha (by simp at hj ⊢; (first | (simp +arith only; done) | lia | omega))).trans (abv1 a j r ha)
          | slot n =>
            refine CallV.isi_int_str ?_
            refine Tru.bool ?_
            refine pick_f ?_
            walk_at "go"
            refine pick_f ?_
            walk_at "go"
            refine CallV.room (d' := 0 + 1) (sp_new_slot L2 ?_) (by simp; (first | (simp +arith only; done) | lia | omega))
            have abv3 : ∀ a j r, own a = some (j, r) → (ps :: p2 :: rs).length ≤ j → AH.put H2 la.dd (.attrs (scAttrs out (.str "P") (.ref la.bl) (.ref la.wt) (.int ((ps.size + 1 : Nat) : Int)) (.ref la.cp) (.int la.line))) a = H a := fun a j r ha hj => by
              rw [put_lab ha L2.o2 (by intro z; (have hE0 := prE z; clear z; refine el0_2 hE0 ?_; clear hE0; intro hE1 hE2; subst hE1; subst hE2); simp at hj; (first | (simp +arith only; done) | lia | omega))]
              exact (abv2 a j r ha (by simp at hj ⊢; (first | (simp +arith only; done) | lia | omega))).trans (abv1 a j r ha)
            have L3 := L2.attrs (ps.size + 1) la.line
            have S4 : Stk ad own (AH.put H2 la.dd (.attrs (scAttrs out (.str "P") (.ref la.bl) (.ref la.wt) (.int ((ps.size + 1 : Nat) : Int)) (.ref la.cp) (.int la.line)))) fs out := S31.below (ro := .dd) (by rw [hlen]; exact L2.o2)
            have lab3 : Lab own (AH.put H2 la.dd (.attrs (scAttrs out (.str "P") (.ref la.bl) (.ref la.wt) (.int ((ps.size + 1 : Nat) : Int)) (.ref la.cp) (.int la.line)))) := lab2.put
            have sub3 : Sub (fz own H2) (fz own (AH.put H2 la.dd (.attrs (scAttrs out (.str "P") (.ref la.bl) (.ref la.wt) (.int ((ps.size + 1 : Nat) : Int)) (.ref la.cp) (.int la.line))))) := .put L2.o2
            generalize AH.put H2 la.dd (.attrs (scAttrs out (.str "P") (.ref la.bl) (.ref la.wt) (.int ((ps.size + 1 : Nat) : Int)) (.ref la.cp) (.int la.line))) = H3 at L3 S4 lab3 sub3 abv3
            walk_at "go"
            refine AttrT.inst L3.h1 L3.h2 (by rfl) ?_
            refine in1_2 _ (GetM.append L3.h5) ?_
            walk_at "go"
            refine SubT.str (by decide) (by rw [ky_len]; decide) ?_ (by rw [ky_len]; decide)
            walk_at "go"
            refine ⟨Nat.le_of_ble_eq_true rfl, fun t ht => ?_⟩
            walk_at "go"
            have L4 := L3.fresh (o := .tup [.int n, .int ps.size, .str (sgS k)]) lab3 ht
            have S5 := S4.fresh (o := .tup [.int n, .int ps.size, .str (sgS k)]) lab3 ht
            have f4 := fz_new (o := .tup [.int n, .int ps.size, .str (sgS k)]) lab3 ht
            have lab4 : Lab own (AH.put H3 t (.tup [.int n, .int ps.size, .str (sgS k)])) := lab3.put
            have sub4 : Sub (fz own H3) (fz own (AH.put H3 t (.tup [.int n, .int ps.size, .str (sgS k)]))) := .new ht
            have abv4 : ∀ a j r, own a = some (j, r) → (ps :: p2 :: rs).length ≤ j → AH.put H3 t (.tup [.int n, .int ps.size, .str (sgS k)]) a = H a := fun a j r ha hj => by
              rw [put_ne (by intro z; subst z; rw [lab3 _ ht] at ha; exact nsE ha)]; exact abv3 a j r ha hj
            rw [ky_sg]
            show CallV ad w (fnScope 19) _ _ _ _ (AH.put H3 t (.tup [.int n, .int ps.size, .str (sgS k)])) _
            generalize AH.put H3 t (.tup [.int n, .int ps.size, .str (sgS k)]) = H4 at L4 S5 f4 lab4 sub4 abv4
            have hcs : la.cs.length ≤ 5 := by
              have h1 := L4.c.len; have h2 := ok.caps; have h3 := ok.blk _ (.head _)
              have : la.cs.length = ps.caps.length := h1
              (first | (simp +arith only; done) | lia | omega)
            refine CallV.append L4.h5 (by show la.cs.length ≤ _; (first | (simp +arith only; done) | lia | omega)) ?_
            have L5 := L4.cap f4
            have S6 := S5.below (ro := .cp) (o := .list (la.cs ++ [.ref t])) (by rw [hlen]; exact L4.o5)
            have lab5 : Lab own (AH.put H4 la.cp (.list (la.cs ++ [.ref t]))) := lab4.put
            have sub5 : Sub (fz own H4) (fz own (AH.put H4 la.cp (.list (la.cs ++ [.ref t])))) := .put L4.o5
            have abv5 : ∀ a j r, own a = some (j, r) → (ps :: p2 :: rs).length ≤ j → AH.put H4 la.cp (.list (la.cs ++ [.ref t])) a = H a := fun a j r ha hj => by
              rw [put_lab ha L4.o5 (by intro z; (have hE0 := prE z; clear z; refine el0_2 hE0 ?_; clear hE0; intro hE1 hE2; subst hE1; subst hE2); simp at hj; (first | (simp +arith only; done) | lia | omega))]; exact abv4 a j r ha hj
            try with_reducible refine Nx.next ?_
            show SX ad w (fnScope 19) _ _ _ (AH.put H4 la.cp (.list (la.cs ++ [.ref t]))) _
            generalize AH.put H4 la.cp (.list (la.cs ++ [.ref t])) = H5 at L5 S6 lab5 sub5 abv5
            walk_at "go"
            refine AttrT.inst L5.h1 L5.h2 (by rfl) ?_
            walk_at "go"
            have hb0 : ∃ b, la.bas[0]? = some b := ⟨_, List.getElem?_eq_getElem (by have := L5.l1; show 0 < la.bas.length; rw [this]; (first | (simp +arith only; done) | lia | omega))⟩
            refine el1_1 hb0 ?_
            try clear hb0
            intro b0 hb0
            refine SubT.list L5.h3 (by decide) (x := .ref b0) (by show (la.bas.map AV.ref)[0]? = _; rw [List.getElem?_map, hb0]; rfl) ?_ (by decide)
            walk_at "go"
            refine SetT.dict (L5.bh 0 b0 ps.base hb0 rfl) (by show (bAV ps.base).length ≤ _; have := ok.blk _ (.head _); simp [bAV]; (first | (simp +arith only; done) | lia | omega)) ?_
            have e := bAV_put k (.slot ps.size) ps.base
            have L6 := L5.blk (n := 0) (ps' := ps.capture n k) hb0 (B := bput ps.base k (.slot ps.size)) rfl rfl rfl rfl
            have S7 := S6.below (ro := .blk 0) (o := .dict (bAV (bput ps.base k (.slot ps.size)))) (by rw [hlen]; exact L5.b 0 b0 hb0)
            rw [show AV.int (ps.size : Int) = (Pl.slot ps.size).av from rfl, e]
            walk_at "go"
            have e : findName (ps :: p2 :: rs) k = (some (.slot ps.size), ps.capture n k :: fs) := by simp only [findName, hh, hf]
            rw [e] at q
            refine q _ ⟨⟨{ la with cs := la.cs ++ [.ref t] }, out, rfl, hlen.symm ▸ L6, ok.capture hh, S7⟩, lab5.put⟩ ?_ fun a j r ha hj => ?_
            · exact ((((sub1.trans sub2).trans sub3).trans sub4).trans sub5).trans (.put (L5.b 0 b0 hb0))
            · rw [put_lab ha (L5.b 0 b0 hb0) (by intro z; (have hE0 := prE z; clear z; refine el0_2 hE0 ?_; clear hE0; intro hE1 hE2; subst hE1; subst hE2); simp at hj; (first | (simp +arith only; done) | lia | omega))]; exact abv5 a j r ha hj
end


/-! ### the globals' objects -/
structure GH (ad : Ads) (F : AH) : Prop where
  triv : True
theorem GH.mono {ad : Ads} {F F' : AH} (g : GH ad F) (s : Sub F F') : GH ad F' := ⟨trivial⟩
theorem GH.up {ad : Ads} {own : Own} {H : AH} (g : GH ad (fz own H)) : GH ad H := ⟨trivial⟩

theorem RDs.strs {H : AH} : ∀ (xs : List Str), RDs H (xs.map .str) (xs.map .str)
  | [] => by simp [RDs]
  | x :: xs => by simp only [RDs, List.map_cons]; exact in2_3 (.str x) (xs.map .str) rfl (by simp [RD]) (RDs.strs xs)

noncomputable def wholeOf (k : Fin 5) : Str := "P::" ++ nmS k

section
variable {ad : Ads} {w : World} {sc : Scope} {d : Nat} {loc : Loc} {H : AH}

theorem SubT.endsG {k : Str} {x : AV} {Q : AV → AH → Prop} (hx : kvGet endsL k = some x) (q : Q x H) : SubT ad w sc d (.ref ad.ends) (.str k) loc H Q := by
  intro vo vi value slice h1 h2 hs A B env s r g e R
  refine hideE fun PZ pz => ?_
  refine el1_1 (absV_str h2) ?_
  intro t hE1
  obtain rfl := hE1
  have := absV_ref h1; subst this
  refine el1_2 (g.ends _ R.keep) ?_
  intro kvs' hd hm
  have hg := kvGet_map kvs' k
  rw [absKv_eq] at hm
  rw [hm, hx] at hg
  refine el1_2 (Option.map_eq_some_iff.mp hg) ?_
  intro v hv hE1
  obtain rfl := hE1
  exact tail_any hd.typeIs slot_dict_getitem.lookup (wpAny_getItem_of (strKind_is prog w k t) hd.mapOf hv (pz _ _ _ _ (R) (q))) (hs _ _)
theorem SubT.resG {k : Str} {x : AV} {Q : AV → AH → Prop} (hx : kvGet (resL ad) k = some x) (q : Q x H) : SubT ad w sc d (.ref ad.res) (.str k) loc H Q := by
  intro vo vi value slice h1 h2 hs A B env s r g e R
  refine hideE fun PZ pz => ?_
  refine el1_1 (absV_str h2) ?_
  intro t hE1
  obtain rfl := hE1
  have := absV_ref h1; subst this
  refine el1_3 g.res ?_
  intro l hl hl1 _
  refine el1_2 (hl _ R.keep) ?_
  intro kvs' hd hm
  have hg := kvGet_map kvs' k
  rw [absKv_eq] at hm
  rw [hm, hl1 _ _ hx] at hg
  refine el1_2 (Option.map_eq_some_iff.mp hg) ?_
  intro v hv hE1
  obtain rfl := hE1
  exact tail_any hd.typeIs slot_dict_getitem.lookup (wpAny_getItem_of (strKind_is prog w k t) hd.mapOf hv (pz _ _ _ _ (R) (q))) (hs _ _)
theorem Cmp.in_resG {k : Str} {b : Bool} {Q : Bool → AH → Prop} (hb : (∃ v, kvGet (resL ad) k = some v ∧ b = true) ∨ (k ∈ (["list", "anonsub", "bare"] : List Str) ∧ b = false)) (q : Q b H) : Cmp ad w sc d .In (.str k) (.ref ad.res) loc H Q := by
  intro va vb ha hb' A B env s r g e R
  refine el1_1 (absV_str ha) ?_
  intro t hE1
  obtain rfl := hE1
  have := absV_ref hb'; subst this
  refine el1_3 g.res ?_
  intro l hl hl1 hl2
  refine el1_2 (hl _ R.keep) ?_
  intro kvs' hd hm
  have hg := kvGet_map kvs' k
  rw [absKv_eq] at hm
  rw [hm] at hg
  refine wpAny_in_of (strKind_is prog w k t) g.resLow hd.mapOf ⟨_, _, H, rfl, R, _, rfl, ?_⟩
  have : (valueAt kvs' k).isSome = b := by
    rw [← Option.isSome_map (f := absV), hg]
    rcases hb with ⟨v, h1, rfl⟩ | ⟨h1, rfl⟩
    · rw [hl1 _ _ h1]; rfl
    · rw [hl2 _ h1]; rfl
  rw [this]; exact q
theorem Cmp.in_forcedG {dx : PyData} {x : AV} {Q : Bool → AH → Prop} (hx : RD H dx x) (q : Q ((forcedL.map PyData.str).any fun e => PyData.eqv e dx) H)
    (ca : PyData.canLayAll0 (forcedL.map PyData.str) = true) (cx : dx.canLay0 = true) (hd : dx.depth ≤ 10) (hr : 1 ≤ d) : Cmp ad w sc d .In x (.ref ad.forced) loc H Q := by
  intro va vb e1 e2 A B env s r g e R
  subst e1
  have := absV_ref e2; subst this
  refine el1_2 (g.forced _ R.keep) ?_
  intro us hl hm
  have hs : RDs H (forcedL.map PyData.str) (us.map absV) := by rw [hm]; exact RDs.strs _
  refine SeqAt.in_tupleAt (ansTo H dx) hl (eqAt_items r hr R hs hx ca cx hd) ⟨_, _, H, rfl, R, _, rfl, ?_⟩
  rw [List.any_toArray, any_ans hs]; exact q
theorem SubT.keysG {k : Int} {x : AV} {Q : AV → AH → Prop} (h0 : 0 ≤ k) (hx : (keysL.map AV.str)[k.toNat]? = some x) (q : Q x H) (hfit : k < 2 ^ 63) : SubT ad w sc d (.ref ad.keys) (.int k) loc H Q := by
  intro vo vi value slice h1 h2 hs A B env s r g e R
  refine hideE fun PZ pz => ?_
  refine el1_1 (absV_int h2) ?_
  intro t hE1
  obtain rfl := hE1
  have := absV_ref h1; subst this
  refine el1_2 (g.keys _ R.keep) ?_
  intro vs hl hm
  refine el1_2 (getElem?_map_abs hm hx) ?_
  intro v hv hE1
  obtain rfl := hE1
  have hlt : k.toNat < vs.length := (List.getElem?_eq_some_iff.mp hv).1
  refine tail_any hl.typeIs slot_tuple_getitem.lookup (getItem_tuple (j := k.toNat) hl (by (first | (simp +arith only; done) | lia | omega)) hfit ?_ (by simpa using hv) (pz _ _ _ _ (R) (q))) (hs _ _)
  simp only [seqIndex?, List.size_toArray]
  rw [if_neg (by (first | (simp +arith only; done) | lia | omega) : ¬ k < 0)]
  simp only [Bool.and_eq_true, decide_eq_true_eq]
  rw [if_pos ⟨h0, by (first | (simp +arith only; done) | lia | omega)⟩]
theorem CallV.len_keysG {Q : AV → AH → Prop} (q : Q (.int 5) H) : CallV ad w sc d (.lit (.builtin "len")) [.ref ad.keys] loc H Q := by
  intro vf vs hf hvs A B env s r g e R
  refine hideE fun PZ pz => ?_
  have := absV_lit hf; subst this
  refine el1_2 (args1 hvs) ?_
  intro v hE1 h1
  obtain rfl := hE1
  have := absV_ref h1; subst this
  refine el1_2 (g.keys _ R.keep) ?_
  intro vs hl hm
  have hlen : vs.length = 5 := by have := congrArg List.length hm; simpa [keysL] using this
  refine PyProof.Rows.len_tuple hl (by rw [List.size_toArray]; (first | (simp +arith only; done) | lia | omega)) (pz _ _ _ _ (R) (?_))
  show Q (.int (vs.toArray.size : Int)) H
  rw [List.size_toArray, hlen]; exact q

theorem sp_is_special {Q : AV → AH → Prop} (k : Fin 5) (g : GH ad H) (q : Q (.bool false) H) : CallV ad w sc (d + 2) (.ref (ad.fn 6)) [.str (nmS k)] loc H Q := by
  refine CallV.fn1 (by conv => lhs; whnf) (by decide) rfl (fun _ _ _ _ => rfl) (by decide) (by decide) ?_
  walk_at "go"
  refine Cmp.in_forcedG (dx := .str (nmS k)) (by simp [RD]) ?_ ?_ ?_ ?_ ?_
  rotate_left
  · decide +kernel
  · revert k; decide +kernel
  · simp [PyData.depth]
  · (first | (simp +arith only; done) | lia | omega)
  have e1 : ((forcedL.map PyData.str).any fun e => PyData.eqv e (.str (nmS k))) = false := by
    simp only [List.any_map]
    revert k; decide +kernel
  rw [e1]
  refine Tru.bool ?_
  refine ⟨fun _ => ?_, nofun⟩
  walk_at "go"
  refine Cmp.eq_str ?_
  have e2 : (nmS k == "") = false := by revert k; decide +kernel
  rw [e2]
  refine Tru.bool ?_
  refine ⟨fun _ => ?_, nofun⟩
  walk_at "go"
  refine SubT.str (by decide) (by revert k; decide +kernel) ?_ (by revert k; decide +kernel)
  walk_at "go"
  refine Cmp.notin_str ?_
  have e3 : (!Txt.contains nameSigns (Txt.item (nmS k) 0)) = false := by revert k; decide +kernel
  rw [e3]
  exact q

theorem sp_whole_name {Q : AV → AH → Prop} (k : Fin 5) (g : GH ad H) (q : Q (.str (wholeOf k)) H) : CallV ad w sc (d + 3) (.ref (ad.fn 8)) [.str "P", .str (nmS k)] loc H Q := by
  refine CallV.fn2 (by conv => lhs; whnf) (by decide) rfl (fun _ _ _ _ _ => rfl) (by decide) (by decide) ?_
  walk_at "go"
  refine Cmp.in_str ?_
  have e1 : Txt.contains (nmS k) "::" = false := (by decide +kernel : ∀ k, Txt.contains (nmS k) "::" = false) k
  rw [e1]
  refine pick_f ?_
  walk_at "go"
  refine EV.it_plain ?_
  walk_at "go"
  refine CallV.room (d' := d + 2) (sp_is_special k g ?_) (by (first | (simp +arith only; done) | lia | omega))
  refine Tru.bool ?_
  refine pick_f ?_
  walk_at "go"
  refine Bin.add_str (by decide +kernel) ?_
  walk_at "go"
  refine Bin.add_str ((by decide +kernel : ∀ k, (Str.ofString "P" ++ Str.ofString "::" ++ nmS k).length ≤ sizeLine) k) ?_
  have e2 : (Str.ofString "P" ++ Str.ofString "::" ++ nmS k) = wholeOf k := (by decide +kernel : ∀ k, (Str.ofString "P" ++ Str.ofString "::" ++ nmS k) = wholeOf k) k
  rw [e2]
  exact q
end


noncomputable def tagOf (k : Fin 5) : Option Pl → Str
  | some (.slot _) => "pad" ++ enS k
  | _ => "glob" ++ enS k
noncomputable def valOf (k : Fin 5) : Option Pl → AV
  | some p => p.av
  | none => .str (wholeOf k)

section
variable {ad : Ads} {w : World} {sc : Scope} {loc : Loc} {own : Own} {H : AH}

theorem ends_get : ∀ k, kvGet endsL (sgS k) = some (.str (enS k)) := by
  intro k
  have : ∀ k, (kvGet endsL (sgS k)) = some (.str (enS k)) := by
    intro k
    match k with
    | 0 => rfl
    | 1 => rfl
    | 2 => rfl
    | 3 => rfl
    | 4 => rfl
  exact this k

theorem EV.it_or3 {sc : Scope} {d : Nat} {x a b c s : Str} {p1 p2 p3 p4 p5 p6 p7 p8 p9 p0 : Pos} {k1 k2 k3 : Nat} {Q : Bool → AH → Prop} (hk : sc.names.lookup x = some .local) (hv : loc x = some (.str s)) (hd : (x == ("__debug__" : Str)) = false) (h : s = a ∨ s = b ∨ s = c) (q : Q true H) :
    EV ad w sc d id (IT (.BoolOp .Or [.Compare (.Name x p1) [.Eq] [.Constant (.str a) k1 p2] p3, .Compare (.Name x p4) [.Eq] [.Constant (.str b) k2 p5] p6, .Compare (.Name x p7) [.Eq] [.Constant (.str c) k3 p8] p9] p0)) loc H Q := by
  refine EV.it_or (EV.it_compare (EV.name_local hk hv (EV.const_str (Cmp.eq_str ⟨fun _ => q, fun e1 => ?_⟩)) hd))
  refine EV.it_or (EV.it_compare (EV.name_local hk hv (EV.const_str (Cmp.eq_str ⟨fun _ => q, fun e2 => ?_⟩)) hd))
  refine EV.it_or (EV.it_compare (EV.name_local hk hv (EV.const_str (Cmp.eq_str ⟨fun _ => q, fun e3 => ?_⟩)) hd))
  rw [beq_eq_false_iff_ne] at e1 e2 e3
  rcases h with h | h | h
  · exact absurd h e1
  · exact absurd h e2
  · exact absurd h e3

theorem sp_resolve_name (k : Fin 5) (stk : List PS) (d : Nat) {v : AV} {n : Addr} {Q : AV → AH → Prop} (S : SS ad own H stk v) (hne : stk ≠ []) (hb : ∀ ps ∈ stk, ps.inner.length ≤ 100) (g : GH ad (fz own H))
    (hn : fz own H n = some (.tup [.str "name", .str (sgS k), .str (nmS k)]))
    (q : ∀ H' t, SS ad own H' (findName stk k).2 v → Sub (fz own H) (fz own H') → fz own H t = none → fz own H' t = some (.tup [.str (tagOf k (findName stk k).1), valOf k (findName stk k).1]) → Q (.ref t) H') :
    CallV ad w sc (d + stk.length + 5) (.ref (ad.fn 21)) [v, .ref n] loc H Q := by
  refine CallV.fn2 (by conv => lhs; whnf) (by decide) rfl (fun _ _ _ _ _ => rfl) (by decide) (by decide) ?_
  walk_at "go"
  refine AT.tuple (fz_some hn).1 rfl ?_
  walk_at "go"
  refine Cmp.notin_str ?_
  have e1 : Txt.contains (nmS k) "::" = false := (by decide +kernel : ∀ k, Txt.contains (nmS k) "::" = false) k
  rw [e1]
  refine pick_t ?_
  refine EV.it_and ?_
  refine EV.it_or3 (s := sgS k) rfl rfl (by decide) ((by decide : ∀ k, sgS k = "$" ∨ sgS k = "@" ∨ sgS k = "%") k) ?_
  refine pick_t ?_
  walk_at "go"
  refine pick_t ?_
  walk_at "go"
  refine Bin.add_str ((by decide +kernel : ∀ k, (sgS k ++ nmS k).length ≤ sizeLine) k) ?_
  rw [ky_add]
  walk_at "go"
  refine CallV.room (d' := d + stk.length + 1) (sp_find_name k stk d own H v _ _ _ S hne hb fun H1 S1 sub1 _ => ?_) (by (first | (simp +arith only; done) | lia | omega))
  have g1 := g.mono sub1
  walk_at "go"
  refine EV.it_plain ?_
  walk_at "go"
  have fin : ∀ (u : Addr) (tg : Str) (x : AV), H1 u = none → tg = tagOf k (findName stk k).1 → x = valOf k (findName stk k).1 → Q (.ref u) (AH.put H1 u (.tup [.str tg, x])) := fun u tg x hu h1 h2 => by
    subst h1 h2
    exact q _ u (S1.fresh hu) (sub1.trans (.new hu)) (none_of_sub sub1 (fz_none hu)) (fz_new S1.lab hu)
  cases hf : (findName stk k).1 with
  | none =>
    rw [hf] at fin
    refine CallV.isi_none_int ?_
    refine Tru.bool ?_
    refine pick_f ?_
    walk_at "go"
    refine Cmp.isnot_none ?_
    refine pick_f ?_
    walk_at "go"
    refine Cmp.eq_str ?_
    rw [(by decide : ∀ k, (sgS k == "&") = false) k]
    refine pick_f ?_
    walk_at "go"
    refine SubT.endsG (ends_get k) ?_
    refine Bin.add_str ((by decide +kernel : ∀ k, (Str.ofString "glob" ++ enS k).length ≤ sizeLine) k) ?_
    walk_at "go"
    obtain ⟨la, r, ps, out, hv, L⟩ : ∃ la r ps out, v = .ref la.self ∧ Lev ad own H1 r ps out la := by
      have hl := findName_len k stk
      have hs := S1.stk
      cases hq : (findName stk k).2 with
      | nil => rw [hq] at hl; cases stk with | nil => exact absurd rfl hne | cons a b => simp at hl
      | cons ps r => rw [hq] at hs; obtain ⟨la, out, e, L, _⟩ := hs; exact in4_2 la _ ps out e L
    subst hv
    refine AttrT.inst L.h1 L.h2 (by rfl) ?_
    walk_at "go"
    refine CallV.room (d' := (d + stk.length + 1) + 3) (sp_whole_name k g1.up ?_) (by (first | (simp +arith only; done) | lia | omega))
    walk_at "go"
    refine ⟨Nat.le_of_ble_eq_true rfl, fun u hu => fin u _ _ hu rfl rfl⟩
  | some p =>
    rw [hf] at fin
    cases p with
    | slot m =>
      refine CallV.isi_int_int ?_
      refine Tru.bool ?_
      refine pick_t ?_
      walk_at "go"
      refine SubT.endsG (ends_get k) ?_
      refine Bin.add_str ((by decide +kernel : ∀ k, (Str.ofString "pad" ++ enS k).length ≤ sizeLine) k) ?_
      walk_at "go"
      refine ⟨Nat.le_of_ble_eq_true rfl, fun u hu => fin u _ _ hu rfl rfl⟩
    | whole x =>
      refine CallV.isi_str_int ?_
      refine Tru.bool ?_
      refine pick_f ?_
      walk_at "go"
      refine Cmp.isnot_none ?_
      refine pick_t ?_
      walk_at "go"
      refine SubT.endsG (ends_get k) ?_
      refine Bin.add_str ((by decide +kernel : ∀ k, (Str.ofString "glob" ++ enS k).length ≤ sizeLine) k) ?_
      walk_at "go"
      refine ⟨Nat.le_of_ble_eq_true rfl, fun u hu => fin u _ _ hu rfl rfl⟩
end


noncomputable def PS.top (ps : PS) : Blk := match ps.inner with
  | [] => ps.base
  | b :: _ => b
noncomputable def PS.setTop (ps : PS) (B : Blk) : PS := match ps.inner with
  | [] => { ps with base := B }
  | _ :: r => { ps with inner := B :: r }
theorem pyB_setTop (ps : PS) (B : Blk) : pyB (ps.setTop B) = (pyB ps).set ps.inner.length B := by
  unfold PS.setTop pyB
  cases h : ps.inner with
  | nil => simp [h]
  | cons b r =>
    simp only [List.reverse_cons, List.length_cons, List.set_cons_succ]
    rw [List.set_append_right _ _ (by simp)]
    simp
theorem setTop_inner (ps : PS) (B : Blk) : (ps.setTop B).inner.length = ps.inner.length := by
  unfold PS.setTop
  cases h : ps.inner <;> simp [h]
theorem setTop_same (ps : PS) (B : Blk) : (ps.setTop B).size = ps.size ∧ (ps.setTop B).caps = ps.caps ∧ (ps.setTop B).pend = ps.pend := by
  unfold PS.setTop
  cases h : ps.inner <;> simp
theorem setTop_top (ps : PS) (B : Blk) : (ps.setTop B).top = B := by
  unfold PS.setTop PS.top
  cases h : ps.inner <;> simp [h]
theorem setTop_set (ps : PS) (B C : Blk) : (ps.setTop B).setTop C = ps.setTop C := by
  unfold PS.setTop
  cases h : ps.inner <;> simp [h]
theorem setTop_id (ps : PS) : ps.setTop ps.top = ps := by
  unfold PS.setTop PS.top
  refine hide fun PZ kZ => ?_
  obtain ⟨b, i, p, s, c⟩ := ps
  refine kZ ?_
  clear kZ PZ
  cases i <;> rfl
theorem top_get (ps : PS) : (pyB ps)[ps.inner.length]? = some ps.top := by
  unfold PS.top pyB
  cases h : ps.inner with
  | nil => rfl
  | cons b r =>
    simp only [List.reverse_cons, List.length_cons, List.getElem?_cons_succ]
    rw [List.getElem?_append_right (by simp)]
    simp
theorem intro_eq (ps : PS) : ps.intro = { ps.setTop (putAll ps.top ps.pend) with pend := [] } := by
  unfold PS.intro PS.setTop PS.top
  cases h : ps.inner <;> simp
theorem PS.Ok.setTop {ps : PS} (h : ps.Ok) {B : Blk} (hB : (B.map (·.1)).Nodup) (hl : ps.inner = [] → ps.base.length ≤ B.length) : (ps.setTop B).Ok := by
  refine hide fun PZ kZ => ?_
  obtain ⟨b, i, p, s, c⟩ := ps
  refine kZ ?_
  clear kZ PZ
  unfold PS.setTop
  cases i with
  | nil => exact ⟨hB, h.inner, Nat.le_trans h.caps (hl rfl)⟩
  | cons x r => exact ⟨h.base, fun y hy => (by cases hy with | head => exact hB | tail _ hy => exact h.inner y (.tail _ hy)), h.caps⟩
theorem bput_len (k : Fin 5) (p : Pl) : ∀ b : Blk, b.length ≤ (bput b k p).length
  | [] => Nat.zero_le _
  | (y, u) :: r => by
    have ih := bput_len k p r
    simp only [bput]
    split
    · simp
    · simp only [List.length_cons]; (first | (simp +arith only; done) | lia | omega)
theorem putAll_len : ∀ (l : List (Fin 5 × Nat)) (b : Blk), b.length ≤ (putAll b l).length
  | [], _ => Nat.le_refl _
  | (k, n) :: r, b => Nat.le_trans (bput_len _ _ _) (putAll_len r _)
theorem putAll_snoc (k : Fin 5) (n : Nat) : ∀ (l : List (Fin 5 × Nat)) (b : Blk), putAll b (l ++ [(k, n)]) = bput (putAll b l) k (.slot n)
  | [], _ => rfl
  | (k', n') :: r, b => putAll_snoc k n r _
theorem top_nodup {ps : PS} (h : ps.Ok) : (ps.top.map (·.1)).Nodup := by
  refine hide fun PZ kZ => ?_
  obtain ⟨b, i, p, s, c⟩ := ps
  refine kZ ?_
  clear kZ PZ
  unfold PS.top
  cases i with
  | nil => exact h.base
  | cons x r => exact h.inner x (.head _)
theorem PS.Ok.intro {ps : PS} (h : ps.Ok) : ps.intro.Ok := by
  rw [intro_eq]
  have := h.setTop (B := putAll ps.top ps.pend) (nodup_putAll (top_nodup h)) (fun hi => by
    have : ps.top = ps.base := by unfold PS.top; rw [hi]
    rw [this]; exact putAll_len _ _)
  exact ⟨this.base, this.inner, this.caps⟩
theorem PS.Ok.told {ps : PS} (h : ps.Ok) (k : Fin 5) : (ps.told k).Ok := ⟨h.base, h.inner, h.caps⟩
theorem PS.Ok.push {ps : PS} (h : ps.Ok) : ps.push.Ok := ⟨h.base, fun b hb => (by cases hb with | head => exact List.nodup_nil | tail _ hb => exact h.inner b hb), h.caps⟩
theorem PS.Ok.pop {ps : PS} (h : ps.Ok) : ps.pop.Ok := ⟨h.base, fun b hb => h.inner b (List.mem_of_mem_tail hb), h.caps⟩
theorem PS.Ok.new : PS.new.Ok := ⟨List.nodup_nil, fun b hb => (nomatch hb), Nat.le_refl _⟩

/-- the innermost scope, and those around it -/
structure TS (ad : Ads) (own : Own) (H : AH) (ps : PS) (rest : List PS) (la : LA) (out : AV) : Prop where
  L : Lev ad own H rest.length ps out la
  S : Stk ad own H rest out
  lab : Lab own H
theorem TS.ss {ad : Ads} {own : Own} {H : AH} {ps : PS} {rest : List PS} {la : LA} {out : AV} (T : TS ad own H ps rest la out) (ok : ps.Ok) : SS ad own H (ps :: rest) (.ref la.self) := ⟨⟨la, out, rfl, T.L, ok, T.S⟩, T.lab⟩
theorem SS.ts {ad : Ads} {own : Own} {H : AH} {ps : PS} {rest : List PS} {v : AV} (S : SS ad own H (ps :: rest) v) : ∃ la out, v = .ref la.self ∧ TS ad own H ps rest la out ∧ ps.Ok :=
  let ⟨⟨la, out, e, L, ok, S⟩, lab⟩ := S
  ⟨la, out, e, ⟨L, S, lab⟩, ok⟩

section
variable {ad : Ads} {own : Own} {H : AH} {ps : PS} {rest : List PS} {la : LA} {out : AV} {j : Nat}

theorem TS.fresh {a : Addr} {o : AO} (T : TS ad own H ps rest la out) (ha : H a = none) : TS ad own (AH.put H a o) ps rest la out := ⟨T.L.fresh T.lab ha, T.S.fresh T.lab ha, T.lab.put⟩
theorem TS.attrs (T : TS ad own H ps rest la out) (m : Nat) (ln : Int) : TS ad own (AH.put H la.dd (.attrs (scAttrs out (.str "P") (.ref la.bl) (.ref la.wt) (.int m) (.ref la.cp) (.int ln)))) { ps with size := m } rest { la with line := ln } out :=
  ⟨T.L.attrs m ln, T.S.below T.L.o2, T.lab.put⟩

theorem Lev.pend (L : Lev ad own H j ps out la) {t x : Addr} {k : Fin 5} {n : Nat} (hx : la.was[ps.inner.length]? = some x) (ht : fz own H t = some (.tup [.str (kyS k), .int n])) :
    Lev ad own (AH.put H x (.list (la.pd ++ [.ref t]))) j { ps with pend := ps.pend ++ [(k, n)] } out { la with pd := la.pd ++ [.ref t] } := by
  have ox := L.w _ x hx
  have q : ∀ y ro, own y = some (j, ro) → ro ≠ .wtl ps.inner.length → AH.put H x (.list (la.pd ++ [.ref t])) y = H y := fun y ro hy ne => put_lab hy ox (by intro z; cases z; exact ne rfl)
  exact ⟨L.o1, L.o2, L.o3, L.o4, L.o5, (q _ _ L.o1 (by intro z; cases z)).trans L.h1, (q _ _ L.o2 (by intro z; cases z)).trans L.h2, (q _ _ L.o3 (by intro z; cases z)).trans L.h3, (q _ _ L.o4 (by intro z; cases z)).trans L.h4, (q _ _ L.o5 (by intro z; cases z)).trans L.h5, L.l1, L.l2, L.b,
    fun i y B hy hB => (q _ _ (L.b i y hy) (by intro z; cases z)).trans (L.bh i y B hy hB), L.w, fun i y hy => by
      by_cases e : i = ps.inner.length
      · subst e; rw [hx] at hy; (have hE0 := Option.some.inj hy; subst hE0; clear hy); rw [put_same]; simp
      · have := (q _ _ (L.w i y hy) (by intro z; cases z; exact e rfl)).trans (L.wh i y hy)
        rw [this]; simp [e], L.c.mono (.put ox), (L.p.mono (.put ox)).snoc (Sub.put ox _ _ ht)⟩
theorem TS.pend (T : TS ad own H ps rest la out) {t x : Addr} {k : Fin 5} {n : Nat} (hx : la.was[ps.inner.length]? = some x) (ht : fz own H t = some (.tup [.str (kyS k), .int n])) :
    TS ad own (AH.put H x (.list (la.pd ++ [.ref t]))) { ps with pend := ps.pend ++ [(k, n)] } rest { la with pd := la.pd ++ [.ref t] } out :=
  ⟨T.L.pend hx ht, T.S.below (T.L.w _ x hx), T.lab.put⟩

theorem TS.top (T : TS ad own H ps rest la out) {x : Addr} {B : Blk} (hx : la.bas[ps.inner.length]? = some x) : TS ad own (AH.put H x (.dict (bAV B))) (ps.setTop B) rest la out :=
  ⟨T.L.blk hx (pyB_setTop ps B) (setTop_same ps B).1 (setTop_same ps B).2.1 (setTop_same ps B).2.2, T.S.below (T.L.b _ x hx), T.lab.put⟩

/-- the last waiting list is made anew -/
theorem TS.wnew (T : TS ad own H ps rest la out) {e : Addr} (he : H e = none) :
    TS ad (own.put e (rest.length, .wtl ps.inner.length)) (AH.put (AH.put H e (.list [])) la.wt (.list ((la.was.set ps.inner.length e).map .ref))) { ps with pend := [] } rest { la with was := la.was.set ps.inner.length e, pd := [] } out ∧
      Sub (fz own H) (fz (own.put e (rest.length, .wtl ps.inner.length)) (AH.put (AH.put H e (.list [])) la.wt (.list ((la.was.set ps.inner.length e).map .ref)))) := by
  refine hide fun PZ kZ => ?_
  obtain ⟨L, S, lab⟩ := T
  refine kZ ?_
  clear kZ PZ
  have ne : ∀ y l, own y = some l → y ≠ e := fun y l hy z => by subst z; rw [lab _ he] at hy; exact nsE hy
  have ow : ∀ y l, own y = some l → own.put e (rest.length, .wtl ps.inner.length) y = some l := fun y l hy => (oput_ne (ne y l hy)).trans hy
  have hw : own.put e (rest.length, .wtl ps.inner.length) la.wt = some (rest.length, .wt) := ow _ _ L.o4
  have q : ∀ y ro, own y = some (rest.length, ro) → ro ≠ .wt → AH.put (AH.put H e (.list [])) la.wt (.list ((la.was.set ps.inner.length e).map .ref)) y = H y := fun y ro hy n => by
    rw [put_lab (ow _ _ hy) hw (by intro z; cases z; exact n rfl), put_ne (ne _ _ hy)]
  have sub : Sub (fz own H) (fz (own.put e (rest.length, .wtl ps.inner.length)) (AH.put (AH.put H e (.list [])) la.wt (.list ((la.was.set ps.inner.length e).map .ref)))) := (Sub.newl he).trans (.put hw)
  refine ⟨⟨⟨ow _ _ L.o1, ow _ _ L.o2, ow _ _ L.o3, hw, ow _ _ L.o5, (q _ _ L.o1 nofun).trans L.h1, (q _ _ L.o2 nofun).trans L.h2, (q _ _ L.o3 nofun).trans L.h3, put_same, (q _ _ L.o5 nofun).trans L.h5, L.l1, by simp [L.l2],
    fun i y hy => ow _ _ (L.b i y hy), fun i y B hy hB => (q _ _ (L.b i y hy) (by intro z; cases z)).trans (L.bh i y B hy hB), fun i y hy => ?_, fun i y hy => ?_, L.c.mono sub, rfl⟩, ?_, lab.newl.put⟩, sub⟩
  · by_cases z : i = ps.inner.length
    · subst z
      simp only [List.getElem?_set_self (show ps.inner.length < la.was.length by rw [L.l2]; (first | (simp +arith only; done) | lia | omega))] at hy
      (have hE0 := Option.some.inj hy; subst hE0; clear hy); exact oput_same
    · simp only [List.getElem?_set_ne (Ne.symm z)] at hy
      exact ow _ _ (L.w i y hy)
  · by_cases z : i = ps.inner.length
    · subst z
      simp only [List.getElem?_set_self (show ps.inner.length < la.was.length by rw [L.l2]; (first | (simp +arith only; done) | lia | omega))] at hy
      (have hE0 := Option.some.inj hy; subst hE0; clear hy)
      rw [put_ne (by intro z; have := L.o4; rw [← z, lab _ he] at this; exact nsE this), put_same]; simp
    · simp only [List.getElem?_set_ne (Ne.symm z)] at hy
      rw [(q _ _ (L.w i y hy) (by intro z; cases z)), L.wh i y hy, if_neg z]
      simp
  · exact (S.freshl lab he).below hw
end


section
variable {ad : Ads} {w : World} {sc : Scope} {loc : Loc} {own : Own} {H : AH} {ps : PS} {rest : List PS} {la : LA} {out : AV} {d : Nat}

theorem sp_check_told {Q : AV → AH → Prop} {v : AV} (k : Fin 5) (g : GH ad H) (q : Q .none H) : CallV ad w sc (d + 3) (.ref (ad.fn 22)) [v, .str "my", .str (nmS k)] loc H Q := by
  refine CallV.fn3 (by conv => lhs; whnf) (by decide) rfl (fun _ _ _ _ _ _ => rfl) (by decide) (by decide) ?_
  walk_at "go"
  refine Cmp.in_str ?_
  rw [(by decide +kernel : ∀ k, Txt.contains (nmS k) "::" = false) k]
  refine pick_f ?_
  walk_at "go"
  refine Cmp.eq_str ?_
  refine pick_t ?_
  refine EV.it_and ?_
  refine EV.it_plain ?_
  walk_at "go"
  refine CallV.room (d' := d + 2) (sp_is_special k g ?_) (by (first | (simp +arith only; done) | lia | omega))
  refine Tru.bool ?_
  refine ⟨fun z => (by exact ftE z), fun _ => ⟨fun z => (by exact ftE z), fun _ => ?_⟩⟩
  walk_at "go"
  exact q

theorem last_was (T : TS ad own H ps rest la out) : ∃ x, la.was[ps.inner.length]? = some x ∧ (la.was.map AV.ref)[((-1 : Int) + ((la.was.map AV.ref).length : Nat)).toNat]? = some (.ref x) ∧ H x = some (.list la.pd) := by
  obtain ⟨x, hx⟩ : ∃ x, la.was[ps.inner.length]? = some x := ⟨_, List.getElem?_eq_getElem (by rw [T.L.l2]; (first | (simp +arith only; done) | lia | omega))⟩
  refine in1_3 x hx ?_ (by have := T.L.wh _ x hx; rwa [if_pos rfl] at this)
  have : ((-1 : Int) + ((la.was.map AV.ref).length : Nat)).toNat = ps.inner.length := by rw [List.length_map, T.L.l2]; (first | (simp +arith only; done) | lia | omega)
  rw [this, List.getElem?_map, hx]; rfl
theorem last_bas (T : TS ad own H ps rest la out) : ∃ x, la.bas[ps.inner.length]? = some x ∧ (la.bas.map AV.ref)[((-1 : Int) + ((la.bas.map AV.ref).length : Nat)).toNat]? = some (.ref x) ∧ H x = some (.dict (bAV ps.top)) := by
  obtain ⟨x, hx⟩ : ∃ x, la.bas[ps.inner.length]? = some x := ⟨_, List.getElem?_eq_getElem (by rw [T.L.l1]; (first | (simp +arith only; done) | lia | omega))⟩
  refine in1_3 x hx ?_ (T.L.bh _ x _ hx (top_get ps))
  have : ((-1 : Int) + ((la.bas.map AV.ref).length : Nat)).toNat = ps.inner.length := by rw [List.length_map, T.L.l1]; (first | (simp +arith only; done) | lia | omega)
  rw [this, List.getElem?_map, hx]; rfl

theorem my_tag : ∀ k, (Str.ofString "my" ++ enS k).length ≤ sizeLine := by decide +kernel

theorem sp_resolve_my (k : Fin 5) {n : Addr} {Q : AV → AH → Prop} (T : TS ad own H ps rest la out) (g : GH ad (fz own H)) (hp : ps.pend = [])
    (hn : fz own H n = some (.tup [.str "my", .str (sgS k), .str (nmS k)]))
    (q : ∀ H' la' t, la'.self = la.self → TS ad own H' (ps.told k) rest la' out → Sub (fz own H) (fz own H') → fz own H t = none → fz own H' t = some (.tup [.str ("my" ++ enS k), .int ps.size]) → Q (.ref t) H') :
    CallV ad w sc (d + 4) (.ref (ad.fn 23)) [.ref la.self, .ref n] loc H Q := by
  refine CallV.fn2 (by conv => lhs; whnf) (by decide) rfl (fun _ _ _ _ _ => rfl) (by decide) (by decide) ?_
  walk_at "go"
  refine AT.tuple (fz_some hn).1 rfl ?_
  walk_at "go"
  refine CallV.room (d' := d + 3) (sp_check_told k g.up ?_) (by (first | (simp +arith only; done) | lia | omega))
  walk_at "go"
  refine CallV.room (d' := d + 1) (sp_new_slot T.L ?_) (by (first | (simp +arith only; done) | lia | omega))
  have T1 := T.attrs (ps.size + 1) la.line
  have sub1 : Sub (fz own H) (fz own (AH.put H la.dd (.attrs (scAttrs out (.str "P") (.ref la.bl) (.ref la.wt) (.int ((ps.size + 1 : Nat) : Int)) (.ref la.cp) (.int la.line))))) := .put T.L.o2
  generalize AH.put H la.dd (.attrs (scAttrs out (.str "P") (.ref la.bl) (.ref la.wt) (.int ((ps.size + 1 : Nat) : Int)) (.ref la.cp) (.int la.line))) = H1 at T1 sub1
  have g1 := g.mono sub1
  walk_at "go"
  refine AttrT.inst T1.L.h1 T1.L.h2 (by rfl) ?_
  walk_at "go"
  refine el1_3 (last_was T1) ?_
  intro x hx hx2 hx3
  refine SubT.list_neg T1.L.h4 (by decide) (by rw [List.length_map, show la.was.length = ps.inner.length + 1 from T1.L.l2]; (first | (simp +arith only; done) | lia | omega)) hx2 ?_ (by decide)
  refine in1_2 _ (GetM.append hx3) ?_
  walk_at "go"
  refine Bin.add_str ((by decide +kernel : ∀ k, (sgS k ++ nmS k).length ≤ sizeLine) k) ?_
  rw [ky_add]
  walk_at "go"
  refine ⟨Nat.le_of_ble_eq_true rfl, fun t ht => ?_⟩
  walk_at "go"
  have T2 := T1.fresh (o := .tup [.str (kyS k), .int ps.size]) ht
  have f2 := fz_new (o := .tup [.str (kyS k), .int ps.size]) T1.lab ht
  have sub2 : Sub (fz own H1) (fz own (AH.put H1 t (.tup [.str (kyS k), .int ps.size]))) := .new ht
  have hx4 : AH.put H1 t (.tup [.str (kyS k), .int ps.size]) x = some (.list la.pd) := by rw [put_ne]; exact hx3; intro z; subst z; rw [ht] at hx3; exact nsE hx3
  have hpd : la.pd = [] := by have := T.L.p; rw [hp] at this; exact this
  refine CallV.append hx4 (by rw [hpd]; decide) ?_
  have T3 := T2.pend hx f2
  have sub3 : Sub (fz own (AH.put H1 t (.tup [.str (kyS k), .int ps.size]))) (fz own (AH.put (AH.put H1 t (.tup [.str (kyS k), .int ps.size])) x (.list (la.pd ++ [.ref t])))) := .put (T2.L.w _ x hx)
  have subA := (sub1.trans sub2).trans sub3
  try with_reducible refine Nx.next ?_
  show SX ad w (fnScope 23) _ _ _ (AH.put (AH.put H1 t (.tup [.str (kyS k), .int ps.size])) x (.list (la.pd ++ [.ref t]))) _
  generalize (AH.put (AH.put H1 t (.tup [.str (kyS k), .int ps.size])) x (.list (la.pd ++ [.ref t]))) = H3 at T3 subA
  clear sub3 T2 f2 sub2 hx4
  have g3 := g.mono subA
  walk_at "go"
  refine SubT.endsG (ends_get k) ?_
  refine Bin.add_str (my_tag k) ?_
  walk_at "go"
  refine ⟨Nat.le_of_ble_eq_true rfl, fun u hu => ?_⟩
  walk_at "go"
  exact q _ { la with pd := la.pd ++ [.ref t] } u rfl (T3.fresh hu) (subA.trans (.new hu)) (none_of_sub subA (fz_none hu)) (fz_new T3.lab hu)

theorem PendR.get {F : AH} : ∀ {l : List (Fin 5 × Nat)} {vs : List AV} {i : Nat} {x : AV}, PendR F l vs → vs[i]? = some x → ∃ k n t, l[i]? = some (k, n) ∧ x = .ref t ∧ F t = some (.tup [.str (kyS k), .int n])
  | [], vs, i, x, h, hx => by simp only [PendR] at h; subst h; simp at hx
  | (k, n) :: r, vs, i, x, h, hx => by
    refine el2_3 h ?_
    try clear h
    intro t us hE1 h1 h2
    obtain rfl := hE1
    cases i with
    | zero => simp at hx; exact in3_3 k n t rfl hx.symm h1
    | succ i =>
      refine el3_3 (h2.get (i := i) (x := x) (by simpa using hx)) ?_
      intro k' n' t' a b c
      exact in3_3 k' n' t' (by simpa using a) b c

theorem sp_introduce {Q : AV → AH → Prop} (T : TS ad own H ps rest la out) (ok : ps.Ok)
    (q : ∀ own' H' la', la'.self = la.self → TS ad own' H' ps.intro rest la' out → Sub (fz own H) (fz own' H') → Ext own own' → Q .none H') :
    CallV ad w sc (d + 2) (.ref (ad.fn 16)) [.ref la.self] loc H Q := by
  refine CallV.fn1 (by conv => lhs; whnf) (by decide) rfl (fun _ _ _ _ => rfl) (by decide) (by decide) ?_
  refine SX.cons ?_
  refine SX.for_list ?_
  walk_at "go"
  refine AttrT.inst T.L.h1 T.L.h2 (by rfl) ?_
  walk_at "go"
  refine el1_3 (last_was T) ?_
  intro x hx hx2 hx3
  refine SubT.list_neg T.L.h4 (by decide) (by have := T.L.l2; simp only [List.length_map]; (first | (simp +arith only; done) | lia | omega)) hx2 ?_ (by decide)
  have hplen := T.L.p.len
  refine in3_5 x la.pd (fun i l H1 => l "scope" = some (.ref la.self) ∧ TS ad own H1 (ps.setTop (putAll ps.top (ps.pend.take i))) rest la out ∧ Sub (fz own H) (fz own H1)) rfl (⟨rfl, ?_, .refl⟩) ?_ ?_ ?_
  · simp only [List.take_zero, putAll, setTop_id]; exact T
  · rintro i l H1 hI0 
    refine el0_3 hI0 ?_
    try clear hI0
    intro _ T1 _
    have hx' := T1.L.wh ps.inner.length x hx
    rw [setTop_inner, if_pos rfl] at hx'
    exact hx'
  · rintro i y l H1 hy hI0 
    refine el0_3 hI0 ?_
    try clear hI0
    intro hl T1 sub1
    refine el3_3 ((T.L.p.mono sub1).get hy) ?_
    intro k n t hk hE1 ht
    obtain rfl := hE1
    refine AT.tuple (fz_some ht).1 rfl ?_
    walk_at "go"
    refine AttrT.inst T1.L.h1 T1.L.h2 (by rfl) ?_
    walk_at "go"
    refine el1_3 (last_bas T1) ?_
    intro b hb hb2 hb3
    refine SubT.list_neg T1.L.h3 (by decide) (by have := T1.L.l1; simp only [List.length_map]; (first | (simp +arith only; done) | lia | omega)) hb2 ?_ (by decide)
    walk_at "go"
    have okT := (ok.setTop (B := putAll ps.top (ps.pend.take i)) (nodup_putAll (top_nodup ok)) (fun hi => by
      have : ps.top = ps.base := by unfold PS.top; rw [hi]
      rw [this]; exact putAll_len _ _))
    refine SetT.dict hb3 (by
      have := five (top_nodup okT)
      simp only [bAV, List.length_map] at this ⊢; (first | (simp +arith only; done) | lia | omega)) ?_
    rw [show AV.int (n : Int) = (Pl.slot n).av from rfl, bAV_put]
    have T2 := T1.top (B := bput (ps.setTop (putAll ps.top (ps.pend.take i))).top k (.slot n)) hb
    rw [setTop_top, setTop_set] at T2
    rw [setTop_top]
    have e : putAll ps.top (ps.pend.take (i + 1)) = bput (putAll ps.top (ps.pend.take i)) k (.slot n) := by
      rw [List.take_add_one, hk]; exact putAll_snoc _ _ _ _
    rw [← e] at T2 ⊢
    walk_at "go"
    exact in0_3 hl T2 (sub1.trans (.put (T1.L.b _ b hb)))
  · rintro l H1 hI0 
    refine el0_3 hI0 ?_
    try clear hI0
    intro hl T1 sub1
    have e : ps.pend.take la.pd.length = ps.pend := by rw [hplen]; exact List.take_length
    rw [e] at T1
    walk_at "go"
    refine ⟨Nat.le_of_ble_eq_true rfl, fun a ha => ?_⟩
    walk_at "go"
    have T2 := T1.fresh (o := .list []) ha
    refine AttrT.inst T2.L.h1 T2.L.h2 (by rfl) ?_
    walk_at "go"
    refine SetT.list_neg T2.L.h4 (by decide) (by have := T2.L.l2; simp only [List.length_map]; (first | (simp +arith only; done) | lia | omega)) ?_ (by decide)
    walk_at "go"
    refine el0_2 (T1.wnew ha) ?_
    intro W subW
    have e1 : ((-1 : Int) + ((la.was.map AV.ref).length : Nat)).toNat = (ps.setTop (putAll ps.top ps.pend)).inner.length := by rw [List.length_map, T1.L.l2]; (first | (simp +arith only; done) | lia | omega)
    rw [e1, ← List.map_set]
    have e2 : { ps.setTop (putAll ps.top ps.pend) with pend := [] } = ps.intro := (intro_eq ps).symm
    rw [e2] at W
    exact q _ _ { la with was := la.was.set (ps.setTop (putAll ps.top ps.pend)).inner.length a, pd := [] } rfl W (sub1.trans subW) fun y j o hy => (oput_ne (by intro z; subst z; rw [T1.lab _ ha] at hy; exact nsE hy)).trans hy
end


theorem pyB_push (ps : PS) : pyB ps.push = pyB ps ++ [[]] := by simp [pyB, PS.push]
theorem pyB_pop (ps : PS) (h : ps.inner ≠ []) : pyB ps = pyB ps.pop ++ [ps.top] := by
  unfold pyB PS.pop PS.top
  cases q : ps.inner with
  | nil => exact absurd q h
  | cons b r => simp

section
variable {ad : Ads} {w : World} {sc : Scope} {loc : Loc} {own : Own} {H : AH} {ps : PS} {rest : List PS} {la : LA} {out : AV} {d : Nat}

theorem get_snoc {α : Type} {l : List α} {x y : α} {i : Nat} (h : (l ++ [x])[i]? = some y) : (l[i]? = some y ∧ i < l.length) ∨ (i = l.length ∧ y = x) := by
  by_cases hi : i < l.length
  · rw [List.getElem?_append_left hi] at h; exact .inl ⟨h, hi⟩
  · rw [List.getElem?_append_right (by (first | (simp +arith only; done) | lia | omega))] at h
    have : i - l.length = 0 := by
      by_cases z : i - l.length = 0
      · exact z
      · rw [List.getElem?_eq_none (by simp; (first | (simp +arith only; done) | lia | omega))] at h; exact nsE h
    rw [this] at h; simp at h
    exact .inr ⟨by (first | (simp +arith only; done) | lia | omega), h.symm⟩

theorem TS.push (T : TS ad own H ps rest la out) (hp : ps.pend = []) {b e : Addr} (hb : H b = none) (he : (AH.put (AH.put H b (.dict [])) la.bl (.list (la.bas.map .ref ++ [.ref b]))) e = none) :
    let own' := (own.put b (rest.length, .blk (ps.inner.length + 1))).put e (rest.length, .wtl (ps.inner.length + 1))
    let H4 := AH.put (AH.put (AH.put (AH.put H b (.dict [])) la.bl (.list (la.bas.map .ref ++ [.ref b]))) e (.list [])) la.wt (.list (la.was.map .ref ++ [.ref e]))
    TS ad own' H4 ps.push rest { la with bas := la.bas ++ [b], was := la.was ++ [e] } out ∧ Sub (fz own H) (fz own' H4) ∧ Ext own own' := by
  intro own' H4
  refine hide fun PZ kZ => ?_
  obtain ⟨L, S, lab⟩ := T
  refine kZ ?_
  clear kZ PZ
  have hpd : la.pd = [] := by have := L.p; rw [hp] at this; exact this
  have neb : ∀ y l, own y = some l → y ≠ b := fun y l hy z => by subst z; rw [lab _ hb] at hy; exact nsE hy
  have hbl : la.bl ≠ b := neb _ _ L.o3
  have heb : e ≠ b := fun z => by subst z; rw [put_ne (Ne.symm hbl), put_same] at he; exact snE he
  have hel : e ≠ la.bl := fun z => by subst z; rw [put_same] at he; exact snE he
  have heH : H e = none := by rw [put_ne hel, put_ne heb] at he; exact he
  have nee : ∀ y l, own y = some l → y ≠ e := fun y l hy z => by subst z; rw [lab _ heH] at hy; exact nsE hy
  have ow : ∀ y l, own y = some l → own' y = some l := fun y l hy => (oput_ne (nee y l hy)).trans ((oput_ne (neb y l hy)).trans hy)
  have q : ∀ y ro, own y = some (rest.length, ro) → ro ≠ .bl → ro ≠ .wt → H4 y = H y := fun y ro hy n1 n2 => by
    show AH.put (AH.put (AH.put (AH.put H b (.dict [])) la.bl _) e (.list [])) la.wt _ y = H y
    rw [put_lab (ow _ _ hy) (ow _ _ L.o4) (by intro z; cases z; exact n2 rfl), put_ne (nee _ _ hy), put_lab (ow _ _ hy) (ow _ _ L.o3) (by intro z; cases z; exact n1 rfl), put_ne (neb _ _ hy)]
  have ob : own' b = some (rest.length, .blk (ps.inner.length + 1)) := (oput_ne (Ne.symm heb)).trans oput_same
  have oe : own' e = some (rest.length, .wtl (ps.inner.length + 1)) := oput_same
  have hB4 : H4 b = some (.dict []) := by
    show AH.put (AH.put (AH.put (AH.put H b (.dict [])) la.bl _) e (.list [])) la.wt _ b = _
    rw [put_lab ob (ow _ _ L.o4) (by intro z; cases z), put_ne (Ne.symm heb), put_ne (Ne.symm hbl), put_same]
  have hE4 : H4 e = some (.list []) := by
    show AH.put (AH.put (AH.put (AH.put H b (.dict [])) la.bl _) e (.list [])) la.wt _ e = _
    rw [put_lab oe (ow _ _ L.o4) (by intro z; cases z), put_same]
  have sub : Sub (fz own H) (fz own' H4) := fun y o hy => by
    refine el0_2 (fz_some hy) ?_
    intro h1 h2
    have y1 : y ≠ b := fun z => by subst z; rw [hb] at h1; exact nsE h1
    have y2 : y ≠ e := fun z => by subst z; rw [heH] at h1; exact nsE h1
    have y3 : y ≠ la.bl := fun z => by subst z; rw [L.o3] at h2; exact snE h2
    have y4 : y ≠ la.wt := fun z => by subst z; rw [L.o4] at h2; exact snE h2
    refine fz_of ?_ ((oput_ne y2).trans ((oput_ne y1).trans h2))
    show AH.put (AH.put (AH.put (AH.put H b (.dict [])) la.bl _) e (.list [])) la.wt _ y = _
    rw [put_ne y4, put_ne y2, put_ne y3, put_ne y1]; exact h1
  refine ⟨⟨⟨ow _ _ L.o1, ow _ _ L.o2, ow _ _ L.o3, ow _ _ L.o4, ow _ _ L.o5, (q _ _ L.o1 nofun nofun).trans L.h1, (q _ _ L.o2 nofun nofun).trans L.h2, ?_, ?_, (q _ _ L.o5 nofun nofun).trans L.h5, by simp [L.l1, PS.push], by simp [L.l2, PS.push],
    fun i y hy => ?_, fun i y B hy hB => ?_, fun i y hy => ?_, fun i y hy => ?_, L.c.mono sub, L.p.mono sub⟩, ?_, lab.newl.put.newl.put⟩, sub, fun y j o hy => ow y _ hy⟩
  · show AH.put (AH.put (AH.put (AH.put H b (.dict [])) la.bl _) e (.list [])) la.wt _ la.bl = _
    rw [put_lab (ow _ _ L.o3) (ow _ _ L.o4) (by intro z; cases z), put_ne (Ne.symm hel), put_same]; simp
  · show AH.put _ la.wt _ la.wt = _
    rw [put_same]; simp
  · rcases get_snoc hy with ⟨h1, _⟩ | ⟨h1, rfl⟩
    · exact ow _ _ (L.b i y h1)
    · rw [h1, L.l1]; exact ob
  · rw [pyB_push] at hB
    rcases get_snoc hy with ⟨h1, h3⟩ | ⟨h1, rfl⟩
    · rw [List.getElem?_append_left (by rw [pyB_len]; rw [L.l1] at h3; exact h3)] at hB
      exact (q _ _ (L.b i y h1) (by intro z; cases z) (by intro z; cases z)).trans (L.bh i y B h1 hB)
    · have : (pyB ps).length = i := by rw [pyB_len, h1, L.l1]
      rw [← this] at hB; simp at hB; subst hB; exact hB4
  · rcases get_snoc hy with ⟨h1, _⟩ | ⟨h1, rfl⟩
    · exact ow _ _ (L.w i y h1)
    · rw [h1, L.l2]; exact oe
  · rcases get_snoc hy with ⟨h1, h3⟩ | ⟨h1, rfl⟩
    · rw [(q _ _ (L.w i y h1) (by intro z; cases z) (by intro z; cases z)), L.wh i y h1, hpd]; simp
    · rw [hE4, hpd]; simp
  · exact S.move (fun y j ro hy hj => ⟨ow _ _ hy, by
      show AH.put (AH.put (AH.put (AH.put H b (.dict [])) la.bl _) e (.list [])) la.wt _ y = H y
      rw [put_lab (ow _ _ hy) (ow _ _ L.o4) (by intro z; (have hE0 := prE z; clear z; refine el0_2 hE0 ?_; clear hE0; intro hE1 hE2; subst hE1; subst hE2); exact Nat.lt_irrefl _ hj), put_ne (nee _ _ hy), put_lab (ow _ _ hy) (ow _ _ L.o3) (by intro z; (have hE0 := prE z; clear z; refine el0_2 hE0 ?_; clear hE0; intro hE1 hE2; subst hE1; subst hE2); exact Nat.lt_irrefl _ hj), put_ne (neb _ _ hy)]⟩) sub

theorem sp_enter {Q : AV → AH → Prop} (T : TS ad own H ps rest la out) (hp : ps.pend = []) (hz : ps.inner.length ≤ 100)
    (q : ∀ own' H' la', la'.self = la.self → TS ad own' H' ps.push rest la' out → Sub (fz own H) (fz own' H') → Ext own own' → Q .none H') :
    CallV ad w sc (d + 2) (.ref (ad.fn 14)) [.ref la.self] loc H Q := by
  refine CallV.fn1 (by conv => lhs; whnf) (by decide) rfl (fun _ _ _ _ => rfl) (by decide) (by decide) ?_
  walk_at "go"
  refine AttrT.inst T.L.h1 T.L.h2 (by rfl) ?_
  refine in1_2 _ (GetM.append T.L.h3) ?_
  walk_at "go"
  intro b hb
  walk_at "go"
  have neb : ∀ y l, own y = some l → y ≠ b := fun y l hy z => by subst z; rw [T.lab _ hb] at hy; exact nsE hy
  refine CallV.append ((put_ne (neb _ _ T.L.o3)).trans T.L.h3) (by have := T.L.l1; simp only [List.length_map]; (first | (simp +arith only; done) | lia | omega)) ?_
  walk_at "go"
  have q2 : ∀ y ro, own y = some (rest.length, ro) → ro ≠ .bl → AH.put (AH.put H b (.dict [])) la.bl (.list (la.bas.map .ref ++ [.ref b])) y = H y := fun y ro hy n => by
    rw [put_lab hy T.L.o3 (by intro z; cases z; exact n rfl), put_ne (neb _ _ hy)]
  refine AttrT.inst ((q2 _ _ T.L.o1 nofun).trans T.L.h1) ((q2 _ _ T.L.o2 nofun).trans T.L.h2) (by rfl) ?_
  refine in1_2 _ (GetM.append ((q2 _ _ T.L.o4 nofun).trans T.L.h4)) ?_
  walk_at "go"
  refine ⟨Nat.le_of_ble_eq_true rfl, fun e he => ?_⟩
  walk_at "go"
  have hew : la.wt ≠ e := fun z => by
    have := (q2 _ _ T.L.o4 nofun).trans T.L.h4
    rw [z, he] at this; exact nsE this
  refine CallV.append ((put_ne hew).trans ((q2 _ _ T.L.o4 nofun).trans T.L.h4)) (by have := T.L.l2; simp only [List.length_map]; (first | (simp +arith only; done) | lia | omega)) ?_
  walk_at "go"
  refine el0_3 (T.push hp hb he) ?_
  intro T' sub ext
  exact q _ _ { la with bas := la.bas ++ [b], was := la.was ++ [e] } rfl T' sub ext

theorem snoc_of {α : Type} {l : List α} {n : Nat} (h : l.length = n + 1) : ∃ l0 x, l = l0 ++ [x] ∧ l0.length = n := by
  refine in2_2 l.dropLast (l.getLast (by intro z; subst z; simp at h)) ((List.dropLast_concat_getLast _).symm) (by simp [h])

theorem sp_leave {Q : AV → AH → Prop} (T : TS ad own H ps rest la out) (hp : ps.pend = []) (hz : ps.inner.length ≤ 100) (hi : ps.inner ≠ [])
    (q : ∀ H' la', la'.self = la.self → TS ad own H' ps.pop rest la' out → Sub (fz own H) (fz own H') → Q .none H') :
    CallV ad w sc (d + 2) (.ref (ad.fn 15)) [.ref la.self] loc H Q := by
  refine CallV.fn1 (by conv => lhs; whnf) (by decide) rfl (fun _ _ _ _ => rfl) (by decide) (by decide) ?_
  refine hide fun PZ kZ => ?_
  obtain ⟨L, S, lab⟩ := T
  refine kZ ?_
  clear kZ PZ
  have hpd : la.pd = [] := by have := L.p; rw [hp] at this; exact this
  have hil : ps.inner.length = ps.pop.inner.length + 1 := by unfold PS.pop; cases h : ps.inner with | nil => exact absurd h hi | cons a b => simp
  refine el2_2 (snoc_of L.l1) ?_
  intro bas b eb lb
  refine el2_2 (snoc_of L.l2) ?_
  intro was e ee le
  walk_at "go"
  refine AttrT.inst L.h1 L.h2 (by rfl) ?_
  have h3 := L.h3
  rw [eb, List.map_append] at h3
  refine in1_2 _ (GetM.list PySem.F.slot_list_pop PySem.F.type_list_pop h3) ?_
  walk_at "go"
  refine CallV.pop h3 (by simp only [List.length_map]; (first | (simp +arith only; done) | lia | omega)) ?_
  walk_at "go"
  have q2 : ∀ y ro, own y = some (rest.length, ro) → ro ≠ .bl → AH.put H la.bl (.list (bas.map .ref)) y = H y := fun y ro hy n => by
    rw [put_lab hy L.o3 (by intro z; cases z; exact n rfl)]
  refine AttrT.inst ((q2 _ _ L.o1 nofun).trans L.h1) ((q2 _ _ L.o2 nofun).trans L.h2) (by rfl) ?_
  have h4 := (q2 _ _ L.o4 nofun).trans L.h4
  rw [ee, List.map_append] at h4
  refine in1_2 _ (GetM.list PySem.F.slot_list_pop PySem.F.type_list_pop h4) ?_
  walk_at "go"
  refine CallV.pop h4 (by simp only [List.length_map]; (first | (simp +arith only; done) | lia | omega)) ?_
  walk_at "go"
  have sub : Sub (fz own H) (fz own (AH.put (AH.put H la.bl (.list (bas.map .ref))) la.wt (.list (was.map .ref)))) := (Sub.put L.o3).trans (.put L.o4)
  have qq : ∀ y ro, own y = some (rest.length, ro) → ro ≠ .bl → ro ≠ .wt → AH.put (AH.put H la.bl (.list (bas.map .ref))) la.wt (.list (was.map .ref)) y = H y := fun y ro hy n1 n2 => by
    rw [put_lab hy L.o4 (by intro z; cases z; exact n2 rfl), q2 _ _ hy n1]
  have gb : ∀ (i : Nat) (x : Addr), bas[i]? = some x → la.bas[i]? = some x := fun i x h => by rw [eb, List.getElem?_append_left (List.getElem?_eq_some_iff.mp h).1]; exact h
  have gw : ∀ (i : Nat) (x : Addr), was[i]? = some x → la.was[i]? = some x := fun i x h => by rw [ee, List.getElem?_append_left (List.getElem?_eq_some_iff.mp h).1]; exact h
  refine q _ { la with bas := bas, was := was } rfl ⟨⟨L.o1, L.o2, L.o3, L.o4, L.o5, (qq _ _ L.o1 nofun nofun).trans L.h1, (qq _ _ L.o2 nofun nofun).trans L.h2, ?_, put_same, (qq _ _ L.o5 nofun nofun).trans L.h5, by rw [← hil]; exact lb, by rw [← hil]; exact le,
    fun i y hy => L.b i y (gb i y hy), fun i y B hy hB => ?_, fun i y hy => L.w i y (gw i y hy), fun i y hy => ?_, L.c.mono sub, L.p.mono sub⟩, (S.below L.o3).below L.o4, lab.put.put⟩ sub
  · rw [put_lab L.o3 L.o4 (by intro z; cases z), put_same]
  · rw [(qq _ _ (L.b i y (gb i y hy)) (by intro z; cases z) (by intro z; cases z))]
    refine L.bh i y B (gb i y hy) ?_
    rw [pyB_pop ps hi, List.getElem?_append_left (List.getElem?_eq_some_iff.mp hB).1]; exact hB
  · rw [(qq _ _ (L.w i y (gw i y hy)) (by intro z; cases z) (by intro z; cases z)), L.wh i y (gw i y hy), hpd]; simp
end


theorem len3 {vs : List Value} (h : vs.length = 3) : ∃ a b c, vs = [a, b, c] := by
  rcases vs with _ | ⟨a, _ | ⟨b, _ | ⟨c, _ | ⟨d, r⟩⟩⟩⟩ <;> simp at h
  exact in3_1 _ _ _ rfl
theorem put_none {H : AH} {p a : Addr} {o : AO} (h : AH.put H p o a = none) : a ≠ p ∧ H a = none := by
  by_cases z : a = p
  · subst z; rw [put_same] at h; exact snE h
  · exact ⟨z, by rw [put_ne z] at h; exact h⟩

section
variable {ad : Ads} {w : World} {sc : Scope} {loc : Loc} {own : Own} {H : AH} {stk : List PS} {out : AV} {d : Nat}

theorem sp_new_scope {Q : AV → AH → Prop} (S : Stk ad own H stk out) (lab : Lab own H)
    (q : ∀ own' H' la, TS ad own' H' PS.new stk la out → Sub (fz own H) (fz own' H') → Ext own own' → Q (.ref la.self) H') :
    CallV ad w sc (d + 2) (.ref ad.cls) [out, .str "P"] loc H Q := by
  refine CallV.cls rfl (fun pm cd doc vs hv => by obtain ⟨a, b, c, rfl⟩ := len3 hv; rfl) (by decide) (by decide) fun x dx hx hdx hne => ?_
  refine SX.run (b := _) (by conv => lhs; whnf) ?_
  have hI : AH.put (AH.put H dx (.attrs [])) x (.inst ad.cls dx) x = some (.inst ad.cls dx) := put_same
  have hD : AH.put (AH.put H dx (.attrs [])) x (.inst ad.cls dx) dx = some (.attrs []) := by rw [put_ne (Ne.symm hne), put_same]
  have n1 := hne
  have n1' := Ne.symm hne
  walk_at "go"
  refine SetA.inst hI hD (by decide) ?_
  walk_at "go"
  refine SetA.inst (by simp [AH.put, n1, n1']) put_same (Nat.le_of_ble_eq_true rfl) ?_
  walk_at "go"
  intro b hb
  walk_at "go"
  refine ⟨Nat.le_of_ble_eq_true rfl, fun bl hbl => ?_⟩
  walk_at "go"
  refine el0_2 (put_none hb) ?_
  intro b1 hb
  refine el0_2 (put_none hb) ?_
  intro _ hb
  refine el0_2 (put_none hb) ?_
  intro b2 hb
  refine el0_2 (put_none hb) ?_
  intro _ hb
  refine el0_2 (put_none hbl) ?_
  intro l1 hbl
  refine el0_2 (put_none hbl) ?_
  intro l2 hbl
  refine el0_2 (put_none hbl) ?_
  intro _ hbl
  refine el0_2 (put_none hbl) ?_
  intro l3 hbl
  refine el0_2 (put_none hbl) ?_
  intro _ hbl
  have b1' := Ne.symm b1
  have b2' := Ne.symm b2
  have l1' := Ne.symm l1
  have l2' := Ne.symm l2
  have l3' := Ne.symm l3
  refine SetA.inst (dd := dx) (by simp [AH.put, n1, n1', b1', b2', l2', l3']) (by rw [put_ne l2', put_ne b1']; exact put_same) (Nat.le_of_ble_eq_true rfl) ?_
  walk_at "go"
  refine ⟨Nat.le_of_ble_eq_true rfl, fun e he => ?_⟩
  walk_at "go"
  refine ⟨Nat.le_of_ble_eq_true rfl, fun wt hwt => ?_⟩
  walk_at "go"
  refine el0_2 (put_none he) ?_
  intro e1 he
  refine el0_2 (put_none he) ?_
  intro e2 he
  refine el0_2 (put_none he) ?_
  intro e3 he
  refine el0_2 (put_none he) ?_
  intro _ he
  refine el0_2 (put_none he) ?_
  intro _ he
  refine el0_2 (put_none he) ?_
  intro e4 he
  refine el0_2 (put_none he) ?_
  intro _ he
  refine el0_2 (put_none hwt) ?_
  intro t1 hwt
  refine el0_2 (put_none hwt) ?_
  intro t2 hwt
  refine el0_2 (put_none hwt) ?_
  intro t3 hwt
  refine el0_2 (put_none hwt) ?_
  intro t4 hwt
  refine el0_2 (put_none hwt) ?_
  intro _ hwt
  refine el0_2 (put_none hwt) ?_
  intro _ hwt
  refine el0_2 (put_none hwt) ?_
  intro t5 hwt
  refine el0_2 (put_none hwt) ?_
  intro _ hwt
  have e1' := Ne.symm e1
  have e2' := Ne.symm e2
  have e3' := Ne.symm e3
  have e4' := Ne.symm e4
  have t1' := Ne.symm t1
  have t2' := Ne.symm t2
  have t3' := Ne.symm t3
  have t4' := Ne.symm t4
  have t5' := Ne.symm t5
  refine SetA.inst (dd := dx) (by simp [AH.put, n1, n1', b1', b2', l2', l3', e1', e4', t2', t5']) (by rw [put_ne t2', put_ne e1']; exact put_same) (Nat.le_of_ble_eq_true rfl) ?_
  walk_at "go"
  refine SetA.inst (dd := dx) (by simp [AH.put, n1, n1', b1', b2', l2', l3', e1', e4', t2', t5']) put_same (Nat.le_of_ble_eq_true rfl) ?_
  walk_at "go"
  refine ⟨Nat.le_of_ble_eq_true rfl, fun cp hcp => ?_⟩
  walk_at "go"
  refine el0_2 (put_none hcp) ?_
  intro c1 hcp
  refine el0_2 (put_none hcp) ?_
  intro _ hcp
  refine el0_2 (put_none hcp) ?_
  intro c2 hcp
  refine el0_2 (put_none hcp) ?_
  intro c3 hcp
  refine el0_2 (put_none hcp) ?_
  intro _ hcp
  refine el0_2 (put_none hcp) ?_
  intro c4 hcp
  refine el0_2 (put_none hcp) ?_
  intro c5 hcp
  refine el0_2 (put_none hcp) ?_
  intro _ hcp
  refine el0_2 (put_none hcp) ?_
  intro _ hcp
  refine el0_2 (put_none hcp) ?_
  intro c6 hcp
  refine el0_2 (put_none hcp) ?_
  intro _ hcp
  have c1' := Ne.symm c1
  have c2' := Ne.symm c2
  have c3' := Ne.symm c3
  have c4' := Ne.symm c4
  have c5' := Ne.symm c5
  have c6' := Ne.symm c6
  refine SetA.inst (dd := dx) (by simp [AH.put, n1, n1', b1', b2', l2', l3', e1', e4', t2', t5', c1', c6']) (by rw [put_ne c1']; exact put_same) (Nat.le_of_ble_eq_true rfl) ?_
  walk_at "go"
  refine SetA.inst (dd := dx) (by simp [AH.put, n1, n1', b1', b2', l2', l3', e1', e4', t2', t5', c1', c6']) put_same (Nat.le_of_ble_eq_true rfl) ?_
  walk_at "go"
  refine ⟨rfl, ?_⟩
  let j := stk.length
  let own' : Own := ((((((own.put x (j, .self out)).put dx (j, .dd)).put b (j, .blk 0)).put bl (j, .bl)).put e (j, .wtl 0)).put wt (j, .wt)).put cp (j, .cp)
  have ox : own' x = some (j, .self out) := by simp [own', Own.put, n1, b2', l3', e4', t5', c6']
  have od : own' dx = some (j, .dd) := by simp [own', Own.put, n1', b1', l2', e1', t2', c1']
  have ob : own' b = some (j, .blk 0) := by simp [own', Own.put, l1', e3', t4', c5']
  have obl : own' bl = some (j, .bl) := by simp [own', Own.put, e2', t3', c4']
  have oe : own' e = some (j, .wtl 0) := by simp [own', Own.put, t1', c3']
  have owt : own' wt = some (j, .wt) := by simp [own', Own.put, c2']
  have ocp : own' cp = some (j, .cp) := by simp [own', Own.put]
  have up : ∀ y, H y ≠ none → own' y = own y ∧ y ≠ x ∧ y ≠ dx ∧ y ≠ b ∧ y ≠ bl ∧ y ≠ e ∧ y ≠ wt ∧ y ≠ cp := fun y hy => by
    have y1 : y ≠ x := fun z => by subst z; exact hy hx
    have y2 : y ≠ dx := fun z => by subst z; exact hy hdx
    have y3 : y ≠ b := fun z => by subst z; exact hy hb
    have y4 : y ≠ bl := fun z => by subst z; exact hy hbl
    have y5 : y ≠ e := fun z => by subst z; exact hy he
    have y6 : y ≠ wt := fun z => by subst z; exact hy hwt
    have y7 : y ≠ cp := fun z => by subst z; exact hy hcp
    exact in0_8 (by simp [own', Own.put, y1, y2, y3, y4, y5, y6, y7]) y1 y2 y3 y4 y5 y6 y7
  refine (fun (subs : Sub (fz own H) (fz own' _)) => q own' _ ⟨x, dx, bl, wt, cp, 0, [b], [e], [], []⟩ ⟨?_, ?_, ?_⟩ subs fun a j o ha => ((up a fun z => by rw [lab a z] at ha; exact nsE ha).1).trans ha) ?_
  · refine ⟨ox, od, obl, owt, ocp, ?_, put_same, ?_, ?_, ?_, rfl, rfl, fun i y hy => ?_, fun i y B hy hB => ?_, fun i y hy => ?_, fun i y hy => ?_, rfl, rfl⟩
    · simp [AH.put, n1, n1', b1', b2', l2', l3', e1', e4', t2', t5', c1', c6']
    · simp [AH.put, l2, e2', t3', c4']
    · simp [AH.put, t2, c2']
    · simp [AH.put, c1]
    · match i, hy with | 0, hy => simp at hy; subst hy; exact ob
    · match i, hy, hB with
      | 0, hy, hB =>
        simp at hy; subst hy
        simp [pyB, PS.new] at hB; subst hB
        simp [AH.put, b1, l1', e3', t4', c5', bAV]
    · match i, hy with | 0, hy => simp at hy; subst hy; exact oe
    · match i, hy with
      | 0, hy =>
        simp at hy; subst hy
        simp [AH.put, e1, t1', c3']
  · refine S.move (fun a i r ha _ => ?_) subs
    refine el0_8 (up a fun z => by rw [lab a z] at ha; exact nsE ha) ?_
    intro u y1 y2 y3 y4 y5 y6 y7
    exact ⟨u.trans ha, by simp [AH.put, y1, y2, y3, y4, y5, y6, y7]⟩
  · intro y hy
    refine el0_2 (put_none hy) ?_
    intro y2 hy
    refine el0_2 (put_none hy) ?_
    intro _ hy
    refine el0_2 (put_none hy) ?_
    intro y7 hy
    refine el0_2 (put_none hy) ?_
    intro _ hy
    refine el0_2 (put_none hy) ?_
    intro _ hy
    refine el0_2 (put_none hy) ?_
    intro y6 hy
    refine el0_2 (put_none hy) ?_
    intro y5 hy
    refine el0_2 (put_none hy) ?_
    intro _ hy
    refine el0_2 (put_none hy) ?_
    intro y4 hy
    refine el0_2 (put_none hy) ?_
    intro y3 hy
    refine el0_2 (put_none hy) ?_
    intro _ hy
    refine el0_2 (put_none hy) ?_
    intro _ hy
    refine el0_2 (put_none hy) ?_
    intro y1 hy
    refine el0_2 (put_none hy) ?_
    intro _ hy
    simp [own', Own.put, y1, y2, y3, y4, y5, y6, y7, lab y hy]
  · intro y o hy
    refine el0_2 (fz_some hy) ?_
    intro h1 h2
    refine el0_8 (up y fun z => by rw [z] at h1; exact nsE h1) ?_
    intro u y1 y2 y3 y4 y5 y6 y7
    refine fz_of ?_ (u.trans h2)
    rw [put_ne y2, put_ne y2, put_ne y7, put_ne y2, put_ne y2, put_ne y6, put_ne y5, put_ne y2, put_ne y4, put_ne y3, put_ne y2, put_ne y2, put_ne y1, put_ne y2]
    exact h1
end


/-- a resolver's contract: node x, scopes stk -> stk', the result is in D -/
noncomputable def Spec (ad : Ads) (w : World) (f d : Nat) (stk stk' : List PS) (x : AV) (RX : AH → Prop) (D : AH → AH → AV → Prop) : Prop :=
  ∀ (own : Own) (H : AH) (v : AV) (sc : Scope) (loc : Loc) (Q : AV → AH → Prop), SS ad own H stk v → GH ad (fz own H) → RX (fz own H) →
    (∀ own' H' y, SS ad own' H' stk' v → Sub (fz own H) (fz own' H') → Ext own own' → D (dif (fz own' H') (fz own H)) (fz own' H') y → Q y H') → CallV ad w sc d (.ref (ad.fn f)) [v, x] loc H Q
noncomputable def Mono (RX : AH → Prop) : Prop := ∀ F F', Sub F F' → RX F → RX F'
noncomputable def MonoD (D : AH → AH → AV → Prop) : Prop := ∀ F F' G G' y, Sub F F' → TSub G G' → D F G y → D F' G' y

section
variable {ad : Ads} {w : World} {d : Nat} {stk stk' : List PS} {x : AV} {RX : AH → Prop} {D : AH → AH → AV → Prop}

theorem Spec.room {f d' : Nat} (h : Spec ad w f d stk stk' x RX D) (l : d ≤ d') : Spec ad w f d' stk stk' x RX D := fun own H v sc loc Q a b c q => (h own H v sc loc Q a b c q).room l
theorem Spec.imp {f : Nat} {RX' : AH → Prop} {D' : AH → AH → AV → Prop} (h : Spec ad w f d stk stk' x RX D) (r : ∀ F, RX' F → RX F) (k : ∀ F G y, D F G y → D' F G y) : Spec ad w f d stk stk' x RX' D' := fun own H v sc loc Q a b c q =>
  h own H v sc loc Q a b (r _ c) fun own' H' y s1 s2 s4 s3 => q own' H' y s1 s2 s4 (k _ _ _ s3)

theorem node_of {f : Nat} {s : Str} (h : Spec ad w f d stk stk' x RX D) (hr : ∀ F, RX F → ∃ n xs, x = .ref n ∧ F n = some (.tup (.str s :: xs))) (hs : kvGet (resL ad) s = some (.ref (ad.fn f))) (hf : f ∈ fnList) : Spec ad w 39 (d + 1) stk stk' x RX D := by
  intro own H v sc loc Q S g rx q
  refine el2_2 (hr _ rx) ?_
  intro n xs hE1 hn
  obtain rfl := hE1
  refine CallV.fn2 (by conv => lhs; whnf) (by decide) rfl (fun _ _ _ _ _ => rfl) (by decide) (by decide) ?_
  walk_at "go"
  refine SubT.tup (fz_some hn).1 (by decide) (x := .str s) rfl ?_ (by decide)
  walk_at "go"
  refine Cmp.in_resG (.inl ⟨_, hs, rfl⟩) ?_
  refine pick_t ?_
  walk_at "go"
  refine SubT.tup (fz_some hn).1 (by decide) (x := .str s) rfl ?_ (by decide)
  refine SubT.resG hs ?_
  refine ⟨CalleeOK.fn hf, ?_⟩
  walk_at "go"
  exact h own H v _ _ _ S g rx q

theorem part_of {s : Str} (h : Spec ad w 39 d stk stk' x RX D) (hr : ∀ F, RX F → ∃ n xs, x = .ref n ∧ F n = some (.tup (.str s :: xs)) ∧ xs.length ≤ 100) : Spec ad w 40 (d + 1) stk stk' x RX D := by
  intro own H v sc loc Q S g rx q
  refine el2_3 (hr _ rx) ?_
  intro n xs hE1 hn hl
  obtain rfl := hE1
  refine CallV.fn2 (by conv => lhs; whnf) (by decide) rfl (fun _ _ _ _ _ => rfl) (by decide) (by decide) ?_
  walk_at "go"
  refine EV.it_plain ?_
  walk_at "go"
  refine CallV.isi_tup_list (fz_some hn).1 ?_
  refine Tru.bool ?_
  refine pick_f ?_
  walk_at "go"
  refine EV.it_plain ?_
  walk_at "go"
  refine CallV.isi_tup_tup (fz_some hn).1 ?_
  refine Tru.bool ?_
  refine pick_t ?_
  walk_at "go"
  refine CallV.len_tup (fz_some hn).1 ?_ (by simp; (first | (simp +arith only; done) | lia | omega))
  walk_at "go"
  refine Cmp.gt_int ?_
  rw [decide_eq_true (by simp)]
  refine pick_t ?_
  walk_at "go"
  refine pick_t ?_
  walk_at "go"
  refine EV.it_plain ?_
  walk_at "go"
  refine SubT.tup (fz_some hn).1 (by decide) (x := .str s) rfl ?_ (by decide)
  walk_at "go"
  refine CallV.isi_str_str ?_
  refine Tru.bool ?_
  refine pick_t ?_
  walk_at "go"
  exact h own H v _ _ _ S g rx q

theorem part_str {s : Str} : Spec ad w 40 1 stk stk (.str s) (fun _ => True) (fun _ _ y => y = .str s) := by
  intro own H v sc loc Q S g rx q
  refine CallV.fn2 (by conv => lhs; whnf) (by decide) rfl (fun _ _ _ _ _ => rfl) (by decide) (by decide) ?_
  walk_at "go"
  refine EV.it_plain ?_
  walk_at "go"
  refine CallV.isi_str_list ?_
  refine Tru.bool ?_
  refine pick_f ?_
  walk_at "go"
  refine EV.it_plain ?_
  walk_at "go"
  refine CallV.isi_str_tuple ?_
  refine Tru.bool ?_
  refine pick_f ?_
  walk_at "go"
  refine pick_f ?_
  walk_at "go"
  exact q own H _ S .refl .refl rfl

theorem expr_of {y : AV} (h : Spec ad w 40 d stk stk' y RX D) (hne : stk ≠ []) (hm : Mono RX) (hd : MonoD D) : Spec ad w 31 (d + 1) stk stk' x (fun F => (∃ n, x = .ref n ∧ F n = some (.tup [.str "expr", .int 1, y])) ∧ RX F) (fun F G z => ∃ a b, z = .ref a ∧ F a = some (.tup [.str "expr", .int 1, b]) ∧ D F G b) := by
  intro own H v sc loc Q S g rx q
  refine el0_2 rx ?_
  try clear rx
  intro hE1 rx
  refine el1_2 hE1 ?_
  try clear hE1
  intro n hE2 hn
  obtain rfl := hE2
  cases stk with
  | nil => exact absurd rfl hne
  | cons ps rest =>
  refine el2_3 S.ts ?_
  intro la out hE1 T ok
  obtain rfl := hE1
  refine CallV.fn2 (by conv => lhs; whnf) (by decide) rfl (fun _ _ _ _ _ => rfl) (by decide) (by decide) ?_
  walk_at "go"
  refine SubT.tup (fz_some hn).1 (by decide) (x := .int 1) rfl ?_ (by decide)
  walk_at "go"
  refine SetA.inst T.L.h1 T.L.h2 (by simp [scAttrs]) ?_
  have T1 := T.attrs ps.size 1
  have sub1 : Sub (fz own H) (fz own (AH.put H la.dd (.attrs (scAttrs out (.str "P") (.ref la.bl) (.ref la.wt) (.int ps.size) (.ref la.cp) (.int 1))))) := .put T.L.o2
  have e : kvPut (scAttrs out (.str "P") (.ref la.bl) (.ref la.wt) (.int ps.size) (.ref la.cp) (.int la.line)) "line" (.int 1) = scAttrs out (.str "P") (.ref la.bl) (.ref la.wt) (.int ps.size) (.ref la.cp) (.int 1) := rfl
  rw [e]
  generalize AH.put H la.dd (.attrs (scAttrs out (.str "P") (.ref la.bl) (.ref la.wt) (.int ps.size) (.ref la.cp) (.int 1))) = H1 at T1 sub1
  walk_at "go"
  refine SubT.tup (fz_some (sub1 _ _ hn)).1 (by decide) (x := .int 1) rfl ?_ (by decide)
  walk_at "go"
  refine SubT.tup (fz_some (sub1 _ _ hn)).1 (by decide) (x := y) rfl ?_ (by decide)
  walk_at "go"
  refine h own H1 _ _ _ _ (T1.ss ⟨ok.base, ok.inner, ok.caps⟩) (g.mono sub1) (hm _ _ sub1 rx) fun own' H' b S' sub' ext' hD => ?_
  walk_at "go"
  refine ⟨Nat.le_of_ble_eq_true rfl, fun a ha => ?_⟩
  walk_at "go"
  exact q own' _ (.ref a) (S'.fresh ha) ((sub1.trans sub').trans (.new ha)) ext' ⟨a, b, rfl, dif_new (sub1.trans sub') S'.lab ha, hd _ _ _ _ _ (dif_mono sub1 (.new ha)) (Sub.new ha).t hD⟩

/-- a node that no resolver takes: its last part is resolved -/
theorem walk_of {y : AV} {s : Str} {pre : List Str} (h : Spec ad w 40 d stk stk' y RX D) (hp : pre.length ≤ 1) (hs : s ∈ (["list", "anonsub", "bare"] : List Str)) (hm : Mono RX) (hd : MonoD D) :
    Spec ad w 39 (d + 2) stk stk' x (fun F => (∃ n, x = .ref n ∧ F n = some (.tup (.str s :: (pre.map .str ++ [y])))) ∧ RX F) (fun F G z => ∃ a b, z = .ref a ∧ F a = some (.tup (.str s :: (pre.map .str ++ [b]))) ∧ D F G b) := by
  intro own H v sc loc Q S g rx q
  refine el0_2 rx ?_
  try clear rx
  intro hE1 rx
  refine el1_2 hE1 ?_
  try clear hE1
  intro n hE2 hn
  obtain rfl := hE2
  refine CallV.fn2 (by conv => lhs; whnf) (by decide) rfl (fun _ _ _ _ _ => rfl) (by decide) (by decide) ?_
  walk_at "go"
  refine SubT.tup (fz_some hn).1 (by decide) (x := .str s) rfl ?_ (by decide)
  walk_at "go"
  refine Cmp.in_resG (.inr ⟨hs, rfl⟩) ?_
  refine pick_f ?_
  walk_at "go"
  refine SubT.tup (fz_some hn).1 (by decide) (x := .str s) rfl ?_ (by decide)
  walk_at "go"
  refine ⟨Nat.le_of_ble_eq_true rfl, fun l0 hl0 => ?_⟩
  have S1 := S.fresh (o := .list [.str s]) hl0
  have sub1 : Sub (fz own H) (fz own (AH.put H l0 (.list [.str s]))) := .new hl0
  have f0 := fz_new (o := .list [.str s]) S.lab hl0
  generalize AH.put H l0 (.list [.str s]) = H1 at S1 sub1 f0
  refine EV.listcomp true (by decide) ?_
  walk_at "go"
  refine SliceT.tup_from (c := 1) (fz_some (sub1 _ _ hn)).1 (by decide) (by simp) (by simp; (first | (simp +arith only; done) | lia | omega)) fun m hm1 => ?_
  have S2 := S1.fresh (o := .tup ((.str s :: (pre.map .str ++ [y])).drop 1)) hm1
  have sub2 : Sub (fz own H1) (fz own (AH.put H1 m (.tup ((.str s :: (pre.map .str ++ [y])).drop 1)))) := .new hm1
  have f2 := fz_new (o := .tup ((.str s :: (pre.map .str ++ [y])).drop 1)) S1.lab hm1
  have f0' := sub2 _ _ f0
  generalize AH.put H1 m (.tup ((.str s :: (pre.map .str ++ [y])).drop 1)) = H2 at S2 sub2 f2 f0'
  have sub02 := sub1.trans sub2
  have g2 := g.mono sub02
  have rx2 := hm _ _ sub02 rx
  refine ⟨m, pre.map .str ++ [y], fun i acc H3 => (i ≤ pre.length ∧ acc = (pre.map AV.str).take i ∧ ∃ own3, SS ad own3 H3 stk v ∧ Sub (fz own H2) (fz own3 H3) ∧ Ext own own3) ∨ (i = pre.length + 1 ∧ ∃ own' b, acc = pre.map .str ++ [b] ∧ SS ad own' H3 stk' v ∧ Sub (fz own H2) (fz own' H3) ∧ Ext own own' ∧ D (dif (fz own' H3) (fz own H2)) (fz own' H3) b), rfl, by simp; (first | (simp +arith only; done) | lia | omega), .inl ⟨Nat.zero_le _, rfl, own, S2, .refl, .refl⟩, ?_, ?_, ?_⟩
  · rintro i acc H3 (⟨_, _, own3, _, s3, _⟩ | ⟨_, own', b, _, _, s3, _⟩)
    · exact (fz_some (s3 _ _ f2)).1
    · exact (fz_some (s3 _ _ f2)).1
  · rintro i acc z lc H3 hz hI hcell
    have hsc : lc "scope" = some v := (hcell "scope" rfl).trans rfl
    refine AT.name (by rfl) ?_
    refine TE.nil ⟨fun _ => ?_, fun z => by exact tfE z⟩
    rcases hI with ⟨hi, rfl, own3, S3, s3, e3⟩ | ⟨hi, _⟩
    · walk_at "go"
      by_cases hlt : i < pre.length
      · have hz' : z = .str (pre[i]) := by
          rw [List.getElem?_append_left (by simpa using hlt)] at hz
          simp [hlt] at hz; exact hz.symm
        subst hz'
        refine CallV.room (part_str own3 H3 v _ _ _ S3 (g2.mono s3) trivial fun own' H' y' S' sub' ext' hy' => ?_) (by (first | (simp +arith only; done) | lia | omega))
        subst hy'
        refine .inl ⟨hlt, ?_, own', S', s3.trans sub', e3.trans ext'⟩
        rw [List.take_add_one]; simp [hlt]
      · have hie : i = pre.length := by (first | (simp +arith only; done) | lia | omega)
        have hz' : z = y := by
          rw [hie, List.getElem?_append_right (by simp)] at hz
          simp at hz; exact hz.symm
        subst hz'
        refine CallV.room (h own3 H3 v _ _ _ S3 (g2.mono s3) (hm _ _ s3 rx2) fun own' H' y' S' sub' ext' hy' => ?_) (by (first | (simp +arith only; done) | lia | omega))
        refine .inr ⟨by (first | (simp +arith only; done) | lia | omega), own', y', ?_, S', s3.trans sub', e3.trans ext', hd _ _ _ _ _ (dif_mono s3 .refl) Sub.refl.t hy'⟩
        rw [hie, List.take_of_length_le (by simp)]
    · rw [hi] at hz; simp at hz
  · rintro acc H3 n3 hI _ hn3
    have hI2 : ∃ own' b, acc = pre.map .str ++ [b] ∧ SS ad own' H3 stk' v ∧ Sub (fz own H2) (fz own' H3) ∧ Ext own own' ∧ D (dif (fz own' H3) (fz own H2)) (fz own' H3) b := by
      rcases hI with ⟨hi, _⟩ | ⟨_, h⟩
      · simp at hi; (first | (simp +arith only; done) | lia | omega)
      · exact h
    refine el2_5 hI2 ?_
    try clear hI2
    intro own' b hE1 S3 s3 e3 hD
    obtain rfl := hE1
    have S4 := S3.fresh (o := .list (pre.map .str ++ [b])) hn3
    have s4 : Sub (fz own' H3) (fz own' (AH.put H3 n3 (.list (pre.map .str ++ [b])))) := .new hn3
    refine Bin.add_list (fz_some (s4 _ _ (s3 _ _ f0'))).1 put_same (by simp; (first | (simp +arith only; done) | lia | omega)) fun n4 hn4 => ?_
    have S5 := S4.fresh (o := .list ([.str s] ++ (pre.map .str ++ [b]))) hn4
    have s5 : Sub (fz own' (AH.put H3 n3 (.list (pre.map .str ++ [b])))) (fz own' (AH.put (AH.put H3 n3 (.list (pre.map .str ++ [b]))) n4 (.list ([.str s] ++ (pre.map .str ++ [b]))))) := .new hn4
    walk_at "go"
    refine CallV.tuple_list put_same (by simp; (first | (simp +arith only; done) | lia | omega)) fun n5 hn5 => ?_
    have subA := ((sub02.trans s3).trans s4).trans s5
    exact q own' _ (.ref n5) (S5.fresh hn5) (subA.trans (.new hn5)) e3 ⟨n5, b, rfl, dif_new subA S5.lab hn5, hd _ _ _ _ _ (dif_mono sub02 ((s4.trans s5).trans (.new hn5))) ((s4.trans s5).trans (.new hn5)).t hD⟩

/-- a list of two -/
theorem list2_of {s1 : List PS} {y1 y2 : AV} {R1 R2 : AH → Prop} {D1 D2 : AH → AH → AV → Prop} (hA : Spec ad w 40 d stk s1 y1 R1 D1) (hB : Spec ad w 40 d s1 stk' y2 R2 D2) (m1 : Mono R1) (m2 : Mono R2) (d1 : MonoD D1) (d2 : MonoD D2) :
    Spec ad w 40 (d + 2) stk stk' x (fun F => (∃ n, x = .ref n ∧ F n = some (.list [y1, y2])) ∧ R1 F ∧ R2 F) (fun F G z => ∃ a b1 b2, z = .ref a ∧ F a = some (.list [b1, b2]) ∧ D1 F G b1 ∧ D2 F G b2) := by
  intro own H v sc loc Q S g rx q
  refine el0_3 rx ?_
  try clear rx
  intro hE1 r1 r2
  refine el1_2 hE1 ?_
  try clear hE1
  intro n hE2 hn
  obtain rfl := hE2
  refine CallV.fn2 (by conv => lhs; whnf) (by decide) rfl (fun _ _ _ _ _ => rfl) (by decide) (by decide) ?_
  walk_at "go"
  refine EV.it_plain ?_
  walk_at "go"
  refine CallV.isi_list_list (fz_some hn).1 ?_
  refine Tru.bool ?_
  refine pick_t ?_
  walk_at "go"
  refine EV.listcomp false (by decide) ?_
  walk_at "go"
  refine ⟨n, [y1, y2], fun i acc H3 => (i = 0 ∧ acc = [] ∧ H3 = H) ∨ (i = 1 ∧ ∃ own3 b1, acc = [b1] ∧ SS ad own3 H3 s1 v ∧ Sub (fz own H) (fz own3 H3) ∧ Ext own own3 ∧ D1 (dif (fz own3 H3) (fz own H)) (fz own3 H3) b1) ∨
    (i = 2 ∧ ∃ own3 b1 b2, acc = [b1, b2] ∧ SS ad own3 H3 stk' v ∧ Sub (fz own H) (fz own3 H3) ∧ Ext own own3 ∧ D1 (dif (fz own3 H3) (fz own H)) (fz own3 H3) b1 ∧ D2 (dif (fz own3 H3) (fz own H)) (fz own3 H3) b2), rfl, by simp, .inl ⟨rfl, rfl, rfl⟩, ?_, ?_, ?_⟩
  · rintro i acc H3 (⟨_, _, rfl⟩ | ⟨_, own3, b1, _, _, s3, _⟩ | ⟨_, own3, b1, b2, _, _, s3, _⟩)
    · exact (fz_some hn).1
    · exact (fz_some (s3 _ _ hn)).1
    · exact (fz_some (s3 _ _ hn)).1
  · rintro i acc z lc H3 hz hI hcell
    have hsc : lc "scope" = some v := (hcell "scope" rfl).trans rfl
    refine AT.name (by rfl) ?_
    refine TE.nil ⟨fun _ => ?_, fun z => by exact tfE z⟩
    rcases hI with ⟨rfl, rfl, rfl⟩ | ⟨rfl, own3, b1, rfl, S3, s3, e3, h1⟩ | ⟨rfl, _⟩
    · walk_at "go"
      have hz' : z = y1 := by simpa using hz.symm
      subst hz'
      refine CallV.room (hA own _ v _ _ _ S g r1 fun own' H' y' S' sub' ext' hy' => ?_) (by (first | (simp +arith only; done) | lia | omega))
      exact .inr (.inl ⟨rfl, own', y', rfl, S', sub', ext', hy'⟩)
    · walk_at "go"
      have hz' : z = y2 := by simpa using hz.symm
      subst hz'
      refine CallV.room (hB own3 H3 v _ _ _ S3 (g.mono s3) (m2 _ _ s3 r2) fun own' H' y' S' sub' ext' hy' => ?_) (by (first | (simp +arith only; done) | lia | omega))
      exact .inr (.inr ⟨rfl, own', b1, y', rfl, S', s3.trans sub', e3.trans ext', d1 _ _ _ _ _ (dif_mono .refl sub') sub'.t h1, d2 _ _ _ _ _ (dif_mono s3 .refl) Sub.refl.t hy'⟩)
    · simp at hz
  · rintro acc H3 n3 hI _ hn3
    rcases hI with ⟨hi, _⟩ | ⟨hi, _⟩ | ⟨_, own3, b1, b2, rfl, S3, s3, e3, h1, h2⟩
    · simp at hi
    · simp at hi
    · exact q own3 _ (.ref n3) (S3.fresh hn3) (s3.trans (.new hn3)) e3 ⟨n3, b1, b2, rfl, dif_new s3 S3.lab hn3, d1 _ _ _ _ _ (dif_mono .refl (.new hn3)) (Sub.new hn3).t h1, d2 _ _ _ _ _ (dif_mono .refl (.new hn3)) (Sub.new hn3).t h2⟩
end


section
variable {ad : Ads} {w : World} {d : Nat} {stk stk' : List PS} {x : AV} {RX : AH → Prop} {D : AH → AH → AV → Prop}

noncomputable def SubD (ps' : PS) (D : AH → AH → AV → Prop) (F G : AH) (z : AV) : Prop := ∃ a b cp cs, z = .ref a ∧ F a = some (.tup [.str "subdef", .str "", b, .int ps'.size, .ref cp]) ∧ D F G b ∧ F cp = some (.list cs) ∧ CapsR G ps'.caps cs

theorem subdef_of {bl : AV} {ps' : PS} (h : Spec ad w 30 d (PS.new :: stk) (ps' :: stk') bl RX D) (hne : stk ≠ []) (hlen : stk'.length = stk.length) (hm : Mono RX) (hd : MonoD D) :
    Spec ad w 29 (d + 3) stk stk' x (fun F => (∃ n z e, x = .ref n ∧ F n = some (.tup [.str "subdef", .str "", bl, z, e])) ∧ RX F) (SubD ps' D) := by
  intro own H v sc loc Q S g rx q
  refine el0_2 rx ?_
  try clear rx
  intro hE1 rx
  refine el3_2 hE1 ?_
  try clear hE1
  intro n z e hE2 hn
  obtain rfl := hE2
  cases stk with
  | nil => exact absurd rfl hne
  | cons ps0 rest =>
  refine el2_3 S.ts ?_
  intro la0 out0 hE1 T0 ok0
  obtain rfl := hE1
  refine CallV.fn2 (by conv => lhs; whnf) (by decide) rfl (fun _ _ _ _ _ => rfl) (by decide) (by decide) ?_
  walk_at "go"
  refine SubT.tup (fz_some hn).1 (by decide) (x := .str "") rfl ?_ (by decide)
  walk_at "go"
  refine Cmp.ne_str ?_
  refine pick_f ?_
  walk_at "go"
  refine AttrT.inst T0.L.h1 T0.L.h2 (by rfl) ?_
  walk_at "go"
  refine CallV.room (sp_new_scope (d := 0) S.stk S.lab fun own1 H1 la1 T1 sub1 ext1 => ?_) (by (first | (simp +arith only; done) | lia | omega))
  walk_at "go"
  refine el2_4 T1.S ?_
  intro la2 out2 e2 L2 ok2 S2
  have e2' : la0.self = la2.self := AV.ref.inj e2
  refine AttrT.inst (by rw [e2']; exact L2.h1) L2.h2 (by rfl) ?_
  walk_at "go"
  refine SetA.inst T1.L.h1 T1.L.h2 (by simp [scAttrs]) ?_
  have T3 := T1.attrs 0 la2.line
  have sub3 : Sub (fz own1 H1) (fz own1 (AH.put H1 la1.dd (.attrs (scAttrs (.ref la0.self) (.str "P") (.ref la1.bl) (.ref la1.wt) (.int ((0 : Nat) : Int)) (.ref la1.cp) (.int la2.line))))) := .put T1.L.o2
  have ek : kvPut (scAttrs (.ref la0.self) (.str "P") (.ref la1.bl) (.ref la1.wt) (.int PS.new.size) (.ref la1.cp) (.int la1.line)) "line" (.int la2.line) = scAttrs (.ref la0.self) (.str "P") (.ref la1.bl) (.ref la1.wt) (.int ((0 : Nat) : Int)) (.ref la1.cp) (.int la2.line) := rfl
  rw [ek]
  generalize AH.put H1 la1.dd (.attrs (scAttrs (.ref la0.self) (.str "P") (.ref la1.bl) (.ref la1.wt) (.int ((0 : Nat) : Int)) (.ref la1.cp) (.int la2.line))) = H3 at T3 sub3
  have sub13 := sub1.trans sub3
  walk_at "go"
  refine SubT.tup (fz_some (sub13 _ _ hn)).1 (by decide) (x := bl) rfl ?_ (by decide)
  walk_at "go"
  refine CallV.room (h own1 H3 (.ref la1.self) _ _ _ (T3.ss PS.Ok.new) (g.mono sub13) (hm _ _ sub13 rx) fun own4 H4 b S4 sub4 ext4 hD => ?_) (by (first | (simp +arith only; done) | lia | omega))
  refine el2_3 S4.ts ?_
  intro la5 out5 e5 T5 ok5
  have e5' : la1.self = la5.self := AV.ref.inj e5
  have eo : out5 = .ref la0.self := by
    have h1 := T5.L.o1
    have h2 := ext4 _ _ _ T1.L.o1
    rw [← e5', h2] at h1
    exact (Role.self.inj (Prod.mk.inj (Option.some.inj h1)).2).symm
  subst eo
  walk_at "go"
  refine AttrT.inst (by rw [e5']; exact T5.L.h1) T5.L.h2 (by rfl) ?_
  walk_at "go"
  refine AttrT.inst (by rw [e5']; exact T5.L.h1) T5.L.h2 (by rfl) ?_
  walk_at "go"
  refine ⟨Nat.le_of_ble_eq_true rfl, fun a ha => ?_⟩
  walk_at "go"
  have T6 := T5.fresh (o := .tup [.str "subdef", .str "", b, .int ps'.size, .ref la5.cp]) ha
  have sub6 : Sub (fz own4 H4) (fz own4 (AH.put H4 a (.tup [.str "subdef", .str "", b, .int ps'.size, .ref la5.cp]))) := .new ha
  have f6 := fz_new (o := .tup [.str "subdef", .str "", b, .int ps'.size, .ref la5.cp]) T5.lab ha
  show Q _ (AH.put H4 a (.tup [.str "subdef", .str "", b, .int ps'.size, .ref la5.cp]))
  generalize AH.put H4 a (.tup [.str "subdef", .str "", b, .int ps'.size, .ref la5.cp]) = H6 at T6 sub6 f6
  let own7 : Own := fun y => if y = la5.cp then none else own4 y
  have k7 : ∀ y l, own4 y = some l → l ≠ (stk'.length, .cp) → own7 y = some l := fun y l hy hl => by
    show (if y = la5.cp then none else own4 y) = _
    rw [if_neg (by intro z; subst z; rw [T6.L.o5] at hy; (have hE0 := Option.some.inj hy; subst hE0; clear hy); exact hl rfl)]; exact hy
  have sub7 : Sub (fz own4 H6) (fz own7 H6) := fun y o hy => by
    refine el0_2 (fz_some hy) ?_
    intro h1 h2
    refine fz_of h1 ?_
    show (if y = la5.cp then none else own4 y) = _
    split
    · rfl
    · exact h2
  have sub46 := (sub4.trans sub6).trans sub7
  have cpf : fz own7 H6 la5.cp = some (.list la5.cs) := fz_of T6.L.h5 (by show (if la5.cp = la5.cp then none else own4 la5.cp) = _; rw [if_pos rfl])
  refine q own7 H6 (.ref a) ⟨T6.S.move (fun y j r hy hj => ⟨k7 _ _ hy (by intro z; (have hE0 := prE z; clear z; refine el0_2 hE0 ?_; clear hE0; intro hE1 hE2; subst hE1; subst hE2); exact Nat.lt_irrefl _ hj), rfl⟩) sub7, fun y hy => ?_⟩ (sub13.trans sub46) (fun y j o hy => k7 _ _ (ext4 _ _ _ (ext1 _ _ _ hy)) nofun) ⟨a, b, la5.cp, la5.cs, rfl, dif_of (sub7 _ _ f6) (none_of_sub (sub13.trans sub4) (fz_none ha)), hd _ _ _ _ _ (dif_mono sub13 (sub6.trans sub7)) (sub6.trans sub7).t hD, dif_of cpf (none_of_sub (sub13.trans sub4) (by unfold fz; rw [T5.L.o5])), T6.L.c.mono sub7⟩
  show (if y = la5.cp then none else own4 y) = _
  split
  · rfl
  · exact T6.lab y hy
end


/-! ### the trees in the heap -/
mutual
noncomputable def RT (F : AH) : Tr → AV → Prop
  | .my k, v => ∃ a b, v = .ref a ∧ F a = some (.tup [.str "expr", .int 1, .ref b]) ∧ F b = some (.tup [.str "my", .str (sgS k), .str (nmS k)])
  | .use k1 k2, v => ∃ a b l n1 n2, v = .ref a ∧ F a = some (.tup [.str "expr", .int 1, .ref b]) ∧ F b = some (.tup [.str "list", .ref l]) ∧ F l = some (.list [.ref n1, .ref n2]) ∧
      F n1 = some (.tup [.str "name", .str (sgS k1), .str (nmS k1)]) ∧ F n2 = some (.tup [.str "name", .str (sgS k2), .str (nmS k2)])
  | .anon t, v => ∃ a b c bl e l vs, v = .ref a ∧ F a = some (.tup [.str "expr", .int 1, .ref b]) ∧ F b = some (.tup [.str "anonsub", .ref c]) ∧ F c = some (.tup [.str "subdef", .str "", .ref bl, .int 0, .ref e]) ∧
      F bl = some (.tup [.str "block", .ref l]) ∧ F l = some (.list vs) ∧ RTs F t vs
  | .bare t, v => ∃ a bl l vs, v = .ref a ∧ F a = some (.tup [.str "bare", .str "", .ref bl]) ∧ F bl = some (.tup [.str "block", .ref l]) ∧ F l = some (.list vs) ∧ RTs F t vs
noncomputable def RTs (F : AH) : List Tr → List AV → Prop
  | [], vs => vs = []
  | t :: ts, vs => ∃ v r, vs = v :: r ∧ RT F t v ∧ RTs F ts r
end
mutual
theorem RT.mono {F F' : AH} (s : Sub F F') : ∀ (t : Tr) (v : AV), RT F t v → RT F' t v
  | .my k, v, h => by simp only [RT] at h ⊢; obtain ⟨a, b, e, h1, h2⟩ := h; exact in2_3 a b e (s _ _ h1) (s _ _ h2)
  | .use k1 k2, v, h => by simp only [RT] at h ⊢; obtain ⟨a, b, l, n1, n2, e, h1, h2, h3, h4, h5⟩ := h; exact in5_6 a b l n1 n2 e (s _ _ h1) (s _ _ h2) (s _ _ h3) (s _ _ h4) (s _ _ h5)
  | .anon t, v, h => by simp only [RT] at h ⊢; obtain ⟨a, b, c, bl, e', l, vs, e, h1, h2, h3, h4, h5, h6⟩ := h; exact in7_7 a b c bl e' l vs e (s _ _ h1) (s _ _ h2) (s _ _ h3) (s _ _ h4) (s _ _ h5) (RTs.mono s t vs h6)
  | .bare t, v, h => by simp only [RT] at h ⊢; obtain ⟨a, bl, l, vs, e, h1, h4, h5, h6⟩ := h; exact in4_5 a bl l vs e (s _ _ h1) (s _ _ h4) (s _ _ h5) (RTs.mono s t vs h6)
theorem RTs.mono {F F' : AH} (s : Sub F F') : ∀ (t : List Tr) (v : List AV), RTs F t v → RTs F' t v
  | [], v, h => by simp only [RTs] at h ⊢; exact h
  | t :: ts, v, h => by simp only [RTs] at h ⊢; obtain ⟨x, r, e, h1, h2⟩ := h; exact in2_3 x r e (RT.mono s t x h1) (RTs.mono s ts r h2)
end
theorem RTs.get {F : AH} : ∀ {ts : List Tr} {vs : List AV}, RTs F ts vs → vs.length = ts.length ∧ ∀ (i : Nat) (x : AV), vs[i]? = some x → ∃ t, ts[i]? = some t ∧ RT F t x
  | [], vs, h => by simp only [RTs] at h; subst h; simp
  | t :: ts, vs, h => by
    simp only [RTs] at h; obtain ⟨v, r, rfl, h1, h2⟩ := h
    refine el0_2 (RTs.get h2) ?_
    intro e f
    refine ⟨by simp [e], fun i x hx => ?_⟩
    cases i with
    | zero => simp at hx; subst hx; exact in1_2 t rfl h1
    | succ i => simp at hx ⊢; exact f i x hx

theorem CapsR.monoT {F F' : AH} (s : TSub F F') : ∀ {l : List (Nat × Nat × Fin 5)} {vs : List AV}, CapsR F l vs → CapsR F' l vs
  | [], _, h => h
  | (o, i, k) :: r, _, ⟨t, us, e, h, q⟩ => ⟨t, us, e, s _ _ h, q.monoT s⟩
theorem PendR.monoT {F F' : AH} (s : TSub F F') : ∀ {l : List (Fin 5 × Nat)} {vs : List AV}, PendR F l vs → PendR F' l vs
  | [], _, h => h
  | (k, n) :: r, _, ⟨t, us, e, h, q⟩ => ⟨t, us, e, s _ _ h, q.monoT s⟩
theorem Lev.moveT {ad : Ads} {own : Own} {H H' : AH} {j : Nat} {ps : PS} {out : AV} {la : LA} (L : Lev ad own H j ps out la) (k : ∀ a r, own a = some (j, r) → H' a = H a) (s : TSub (fz own H) (fz own H')) : Lev ad own H' j ps out la :=
  ⟨L.o1, L.o2, L.o3, L.o4, L.o5, (k _ _ L.o1).trans L.h1, (k _ _ L.o2).trans L.h2, (k _ _ L.o3).trans L.h3, (k _ _ L.o4).trans L.h4, (k _ _ L.o5).trans L.h5, L.l1, L.l2,
    L.b, fun i x B hx hB => (k _ _ (L.b i x hx)).trans (L.bh i x B hx hB), L.w, fun i x hx => (k _ _ (L.w i x hx)).trans (L.wh i x hx), L.c.monoT s, L.p.monoT s⟩
theorem Stk.moveT {ad : Ads} {own : Own} {H H' : AH} : ∀ {stk : List PS} {v : AV}, Stk ad own H stk v → (∀ a l, own a = some l → H' a = H a) → TSub (fz own H) (fz own H') → Stk ad own H' stk v
  | [], _, h, _, _ => h
  | ps :: r, _, ⟨la, out, e, L, ok, h⟩, k, s => ⟨la, out, e, L.moveT (fun a ro ha => k a _ ha) s, ok, h.moveT k s⟩

mutual
noncomputable def DT (F G : AH) : Dn → AV → Prop
  | .my k n, v => ∃ a b, v = .ref a ∧ F a = some (.tup [.str "expr", .int 1, .ref b]) ∧ F b = some (.tup [.str ("my" ++ enS k), .int n])
  | .use k1 p1 k2 p2, v => ∃ a b l n1 n2, v = .ref a ∧ F a = some (.tup [.str "expr", .int 1, .ref b]) ∧ F b = some (.tup [.str "list", .ref l]) ∧ F l = some (.list [.ref n1, .ref n2]) ∧
      F n1 = some (.tup [.str (tagOf k1 p1), valOf k1 p1]) ∧ F n2 = some (.tup [.str (tagOf k2 p2), valOf k2 p2])
  | .anon t size caps, v => ∃ a b c bl l us cp cs, v = .ref a ∧ F a = some (.tup [.str "expr", .int 1, .ref b]) ∧ F b = some (.tup [.str "anonsub", .ref c]) ∧ F c = some (.tup [.str "subdef", .str "", .ref bl, .int size, .ref cp]) ∧
      F bl = some (.tup [.str "block", .ref l]) ∧ F l = some (.list us) ∧ DTs F G t us ∧ F cp = some (.list cs) ∧ CapsR G caps cs
  | .bare t, v => ∃ a bl l us, v = .ref a ∧ F a = some (.tup [.str "bare", .str "", .ref bl]) ∧ F bl = some (.tup [.str "block", .ref l]) ∧ F l = some (.list us) ∧ DTs F G t us
noncomputable def DTs (F G : AH) : List Dn → List AV → Prop
  | [], vs => vs = []
  | t :: ts, vs => ∃ v r, vs = v :: r ∧ DT F G t v ∧ DTs F G ts r
end
mutual
theorem DT.mono {F F' G G' : AH} (s : Sub F F') (u : TSub G G') : ∀ (t : Dn) (v : AV), DT F G t v → DT F' G' t v
  | .my k n, v, h => by simp only [DT] at h ⊢; obtain ⟨a, b, e, h1, h2⟩ := h; exact in2_3 a b e (s _ _ h1) (s _ _ h2)
  | .use k1 p1 k2 p2, v, h => by simp only [DT] at h ⊢; obtain ⟨a, b, l, n1, n2, e, h1, h2, h3, h4, h5⟩ := h; exact in5_6 a b l n1 n2 e (s _ _ h1) (s _ _ h2) (s _ _ h3) (s _ _ h4) (s _ _ h5)
  | .anon t n c', v, h => by simp only [DT] at h ⊢; obtain ⟨a, b, c, bl, l, us, cp, cs, e, h1, h2, h3, h4, h5, h6, h7, h8⟩ := h; exact in8_9 a b c bl l us cp cs e (s _ _ h1) (s _ _ h2) (s _ _ h3) (s _ _ h4) (s _ _ h5) (DTs.mono s u t us h6) (s _ _ h7) (h8.monoT u)
  | .bare t, v, h => by simp only [DT] at h ⊢; obtain ⟨a, bl, l, vs, e, h1, h4, h5, h6⟩ := h; exact in4_5 a bl l vs e (s _ _ h1) (s _ _ h4) (s _ _ h5) (DTs.mono s u t vs h6)
theorem DTs.mono {F F' G G' : AH} (s : Sub F F') (u : TSub G G') : ∀ (t : List Dn) (v : List AV), DTs F G t v → DTs F' G' t v
  | [], v, h => by simp only [DTs] at h ⊢; exact h
  | t :: ts, v, h => by simp only [DTs] at h ⊢; obtain ⟨x, r, e, h1, h2⟩ := h; exact in2_3 x r e (DT.mono s u t x h1) (DTs.mono s u ts r h2)
end
theorem DTs.snoc {F G : AH} {d : Dn} {x : AV} (hx : DT F G d x) : ∀ {ds : List Dn} {us : List AV}, DTs F G ds us → DTs F G (ds ++ [d]) (us ++ [x])
  | [], us, h => by simp only [DTs] at h; subst h; simp only [List.nil_append, DTs]; exact in2_3 x ([]) rfl hx rfl
  | e :: ds, us, h => by
    simp only [DTs] at h; obtain ⟨v, r, rfl, h1, h2⟩ := h
    simp only [List.cons_append, DTs]
    exact in2_3 v (r ++ [x]) rfl h1 (h2.snoc hx)

theorem rStmts_snoc (t : Tr) : ∀ (l : List Tr) (s : List PS), rStmts (l ++ [t]) s = ((rStmts l s).1 ++ [(rStmt t (rStmts l s).2).1], topS PS.intro (rStmt t (rStmts l s).2).2)
  | [], s => by simp [rStmts]
  | u :: l, s => by simp only [List.cons_append, rStmts, rStmts_snoc t l]

theorem dif_mono' {F F' F0 F1 : AH} (s0 : ∀ a, F1 a = none → F0 a = none) (s : Sub F F') : Sub (dif F F1) (dif F' F0) := fun a o h =>
  let ⟨h1, h2⟩ := dif_some h
  dif_of (s _ _ h1) (s0 _ h2)

section
variable {ad : Ads} {w : World} {d : Nat} {x : AV}

noncomputable def BlkR (ts : List Tr) (x : AV) (F : AH) : Prop := ∃ n l vs, x = .ref n ∧ F n = some (.tup [.str "block", .ref l]) ∧ F l = some (.list vs) ∧ RTs F ts vs
noncomputable def BlkD (ds : List Dn) (F G : AH) (z : AV) : Prop := ∃ a l us, z = .ref a ∧ F a = some (.tup [.str "block", .ref l]) ∧ F l = some (.list us) ∧ DTs F G ds us

theorem block_of {ps0 : PS} {rest : List PS} {ts : List Tr} (hz : ts.length ≤ 900)
    (hs : ∀ i t y, ts[i]? = some t → Spec ad w 39 d (rStmts (ts.take i) (topS PS.push (ps0 :: rest))).2 (rStmt t (rStmts (ts.take i) (topS PS.push (ps0 :: rest))).2).2 y (fun F => RT F t y) (fun F G z => DT F G (rStmt t (rStmts (ts.take i) (topS PS.push (ps0 :: rest))).2).1 z))
    (hne : ∀ i t, ts[i]? = some t → (rStmt t (rStmts (ts.take i) (topS PS.push (ps0 :: rest))).2).2 ≠ [])
    (hp : ps0.pend = []) (hi : ps0.inner.length ≤ 99)
    {ps' : PS} {rest' : List PS} (hend : (rStmts ts (topS PS.push (ps0 :: rest))).2 = ps' :: rest') (hp' : ps'.pend = []) (hi' : ps'.inner ≠ []) (hl' : ps'.inner.length ≤ 100) :
    Spec ad w 30 (d + 3) (ps0 :: rest) (ps'.pop :: rest') x (BlkR ts x) (BlkD (rStmts ts (topS PS.push (ps0 :: rest))).1) := by
  intro own H v sc loc Q S g rx q
  refine el3_4 rx ?_
  try clear rx
  intro n l vs hE1 hn hl hts
  obtain rfl := hE1
  refine el2_3 S.ts ?_
  intro la out hE1 T ok
  obtain rfl := hE1
  refine CallV.fn2 (by conv => lhs; whnf) (by decide) rfl (fun _ _ _ _ _ => rfl) (by decide) (by decide) ?_
  walk_at "go"
  refine AttrT.inst T.L.h1 T.L.h2 (by rfl) ?_
  walk_at "go"
  refine CallV.room (d' := 0 + 2) (sp_enter T hp (by (first | (simp +arith only; done) | lia | omega)) fun own1 H1 la1 e1 T1 sub1 ext1 => ?_) (by (first | (simp +arith only; done) | lia | omega))
  have S1 := T1.ss ok.push
  rw [e1] at S1
  clear T1
  walk_at "go"
  refine ⟨Nat.le_of_ble_eq_true rfl, fun D hD => ?_⟩
  walk_at "go"
  refine SX.for_list ?_
  have S2 := S1.fresh (o := .list []) hD
  have sub2 : Sub (fz own1 H1) (fz own1 (AH.put H1 D (.list []))) := .new hD
  have D2 : AH.put H1 D (.list []) D = some (.list []) := put_same
  have o2 : own1 D = none := S1.lab D hD
  have F0D : ∀ a, a ≠ D → fz own1 (AH.put H1 D (.list [])) a = fz own1 H1 a := fun a ha => by unfold fz; rw [put_ne ha]
  generalize AH.put H1 D (.list []) = H2 at S2 sub2 D2 F0D
  walk_at "go"
  refine SubT.tup (fz_some (sub2 _ _ (sub1 _ _ hn))).1 (by decide) (x := .ref l) rfl ?_ (by decide)
  have hvl := (RTs.get hts).1
  refine ⟨l, vs, fun i lc H3 => lc "scope" = some (.ref la.self) ∧ lc "done" = some (.ref D) ∧ lc "package" = some (.str "P") ∧ ∃ own3 us, SS ad own3 H3 (rStmts (ts.take i) (topS PS.push (ps0 :: rest))).2 (.ref la.self) ∧ Sub (fz own1 H1) (fz own3 H3) ∧ Ext own1 own3 ∧
      own3 D = none ∧ H3 D = some (.list us) ∧ us.length = i ∧ DTs (dif (fz own3 H3) (fz own1 H2)) (fz own3 H3) (rStmts (ts.take i) (topS PS.push (ps0 :: rest))).1 us, rfl, ⟨rfl, rfl, rfl, own1, [], S2, sub2, .refl, o2, D2, rfl, by simp only [List.take_zero, rStmts, DTs]⟩, ?_, ?_, ?_⟩
  · rintro i lc H3 hI0 
    refine hide fun PZ kZ => ?_
    obtain ⟨_, _, _, own3, us, _, s3, _⟩ := hI0
    refine kZ ?_
    clear kZ PZ
    exact (fz_some (s3 _ _ (sub1 _ _ hl))).1
  · rintro i z lc H3 hx hI0 
    refine hide fun PZ kZ => ?_
    obtain ⟨hc1, hc2, hc3, own3, us, S3, s3, e3, o3, D3, hlen, hds⟩ := hI0
    refine kZ ?_
    clear kZ PZ
    refine el1_2 ((RTs.get hts).2 i z hx) ?_
    intro t ht hrt
    refine AT.name (by rfl) ?_
    walk_at "go"
    refine in1_2 _ (GetM.append D3) ?_
    walk_at "go"
    refine CallV.room (hs i t z ht own3 H3 _ _ _ _ S3 (g.mono (sub1.trans s3)) (RT.mono (sub1.trans s3) _ _ hrt) fun own4 H4 y S4 s4 e4 hy => ?_) (by (first | (simp +arith only; done) | lia | omega))
    walk_at "go"
    have D4' := s4 _ _ (fz_of D3 o3)
    have D4 := (fz_some D4').1
    have o4 := (fz_some D4').2
    have hi2 : i < ts.length := (List.getElem?_eq_some_iff.mp ht).1
    refine CallV.append D4 (by (first | (simp +arith only; done) | lia | omega)) ?_
    have ne4 : ∀ a l, own4 a = some l → AH.put H4 D (.list (us ++ [y])) a = H4 a := fun a l ha => put_ne fun z => by subst z; rw [o4] at ha; exact nsE ha
    have t4 : TSub (fz own4 H4) (fz own4 (AH.put H4 D (.list (us ++ [y])))) := fun a xs ha => by
      refine el0_2 (fz_some ha) ?_
      intro h1 h2
      exact fz_of (by rw [put_ne]; exact h1; intro z; subst z; rw [D4] at h1; cases h1) h2
    have S5 : SS ad own4 (AH.put H4 D (.list (us ++ [y]))) _ (.ref la.self) := ⟨S4.stk.moveT ne4 t4, S4.lab.put⟩
    have s5 : Sub (fz own1 H1) (fz own4 (AH.put H4 D (.list (us ++ [y])))) := fun a o ha => by
      refine el0_2 (fz_some ((s3.trans s4) _ _ ha)) ?_
      intro h1 h2
      exact fz_of (by rw [put_ne]; exact h1; intro z; subst z; rw [fz_none hD] at ha; exact nsE ha) h2
    have F0none : fz own1 H2 D ≠ none := by rw [fz_of D2 o2]; exact nofun
    have df : Sub (dif (fz own4 H4) (fz own1 H2)) (dif (fz own4 (AH.put H4 D (.list (us ++ [y])))) (fz own1 H2)) := fun a o ha => by
      refine el0_2 (dif_some ha) ?_
      intro h1 h2
      refine el0_2 (fz_some h1) ?_
      intro h3 h4
      exact dif_of (fz_of (by rw [put_ne]; exact h3; intro z; subst z; exact F0none h2) h4) h2
    have hdom : ∀ a, fz own3 H3 a = none → fz own1 H2 a = none := fun a ha => by
      have : a ≠ D := fun z => by subst z; rw [fz_of D3 o3] at ha; exact snE ha
      rw [F0D a this]; exact none_of_sub s3 ha
    have hds5 := DTs.mono df t4 _ _ ((DTs.mono (dif_mono' (fun _ h => h) s4) s4.t _ _ hds).snoc (DT.mono (dif_mono' hdom .refl) Sub.refl.t _ _ hy))
    have D5 : AH.put H4 D (.list (us ++ [y])) D = some (.list (us ++ [y])) := put_same
    generalize AH.put H4 D (.list (us ++ [y])) = H5 at S5 s5 hds5 D5
    have hns := hne i t ht
    cases hq : (rStmt t (rStmts (ts.take i) (topS PS.push (ps0 :: rest))).2).2 with
    | nil => exact absurd hq hns
    | cons ps5 r5 =>
    rw [hq] at S5
    refine el2_3 S5.ts ?_
    intro la5 out5 e5 T5 ok5
    rw [AV.ref.inj e5] at hc1 ⊢
    walk_at "go"
    refine CallV.room (d' := 0 + 2) (sp_introduce T5 ok5 fun own6 H6 la6 e6 T6 s6 x6 => ?_) (by (first | (simp +arith only; done) | lia | omega))
    walk_at "go"
    have S6 := T6.ss ok5.intro
    rw [e6] at S6
    have D6' := s6 _ _ (fz_of D5 o4)
    have etk : ts.take (i + 1) = ts.take i ++ [t] := by rw [List.take_add_one, ht]; rfl
    refine ⟨hc1, hc2, hc3, own6, us ++ [y], ?_, s5.trans s6, (e3.trans e4).trans x6, (fz_some D6').2, (fz_some D6').1, by simp [hlen], ?_⟩
    · rw [etk, rStmts_snoc, hq]; exact S6
    · rw [etk, rStmts_snoc]
      exact DTs.mono (dif_mono' (fun _ h => h) s6) s6.t _ _ hds5
  · rintro lc H3 hI0 
    refine hide fun PZ kZ => ?_
    obtain ⟨hc1, hc2, hc3, own3, us, S3, s3, e3, o3, D3, hlen, hds⟩ := hI0
    refine kZ ?_
    clear kZ PZ
    rw [List.take_of_length_le (by (first | (simp +arith only; done) | lia | omega))] at S3 hds
    rw [hend] at S3
    refine el2_3 S3.ts ?_
    intro la3 out3 e3' T3 ok3
    rw [AV.ref.inj e3'] at hc1
    walk_at "go"
    refine CallV.room (d' := 0 + 2) (sp_leave T3 hp' hl' hi' fun H4 la4 e4 T4 s4 => ?_) (by (first | (simp +arith only; done) | lia | omega))
    rw [← e4] at hc1
    walk_at "go"
    refine SetA.inst T4.L.h1 T4.L.h2 (by simp [scAttrs]) ?_
    have T5 := T4.attrs ps'.pop.size la4.line
    have s5 : Sub (fz own3 H4) (fz own3 (AH.put H4 la4.dd (.attrs (scAttrs out3 (.str "P") (.ref la4.bl) (.ref la4.wt) (.int ps'.pop.size) (.ref la4.cp) (.int la4.line))))) := .put T4.L.o2
    have ek : kvPut (scAttrs out3 (.str "P") (.ref la4.bl) (.ref la4.wt) (.int ps'.pop.size) (.ref la4.cp) (.int la4.line)) "package" (.str "P") = scAttrs out3 (.str "P") (.ref la4.bl) (.ref la4.wt) (.int ps'.pop.size) (.ref la4.cp) (.int la4.line) := rfl
    rw [ek]
    generalize AH.put H4 la4.dd (.attrs (scAttrs out3 (.str "P") (.ref la4.bl) (.ref la4.wt) (.int ps'.pop.size) (.ref la4.cp) (.int la4.line))) = H5 at T5 s5
    walk_at "go"
    refine ⟨Nat.le_of_ble_eq_true rfl, fun a ha => ?_⟩
    walk_at "go"
    have s35 := s4.trans s5
    have T6 := T5.fresh (o := .tup [.str "block", .ref D]) ha
    have s6 : Sub (fz own3 H5) (fz own3 (AH.put H5 a (.tup [.str "block", .ref D]))) := .new ha
    have sA := sub1.trans (s3.trans s35)
    have DF : fz own3 (AH.put H5 a (.tup [.str "block", .ref D])) D = some (.list us) := s6 _ _ (s35 _ _ (fz_of D3 o3))
    have hdom : ∀ a, fz own1 H2 a = none → fz own H a = none := fun a ha => none_of_sub (sub1.trans sub2) ha
    have hself : (AV.ref la.self) = .ref la4.self := by rw [e4]; exact e3'
    rw [hself] at q
    refine q own3 _ (.ref a) (T6.ss ⟨ok3.pop.base, ok3.pop.inner, ok3.pop.caps⟩) (sA.trans s6) (ext1.trans e3) ⟨a, D, us, rfl, dif_new sA T5.lab ha, dif_of DF (none_of_sub sub1 (fz_none hD)), DTs.mono (dif_mono' hdom (s35.trans s6)) (s35.trans s6).t _ _ hds⟩
end


mutual
noncomputable def dep : Tr → Nat
  | .my _ => 0
  | .use _ _ => 0
  | .anon b => deps b + 1
  | .bare b => deps b + 1
noncomputable def deps : List Tr → Nat
  | [] => 0
  | t :: ts => max (dep t) (deps ts)
end
theorem deps_get : ∀ {ts : List Tr} {i : Nat} {t : Tr}, ts[i]? = some t → dep t ≤ deps ts
  | [], i, t, h => by simp at h
  | u :: ts, i, t, h => by
    simp only [deps]
    cases i with
    | zero => simp at h; subst h; (first | (simp +arith only; done) | lia | omega)
    | succ i => simp at h; have := deps_get h; (first | (simp +arith only; done) | lia | omega)

noncomputable def shp (stk : List PS) : List (Nat × List (Fin 5 × Nat)) := stk.map fun ps => (ps.inner.length, ps.pend)
noncomputable def PN (stk : List PS) : Prop := ∀ ps ∈ stk, ps.pend = []
theorem PN_shp {a b : List PS} (h : PN a) (e : shp b = shp a) : PN b := fun ps hp => by
  have : (ps.inner.length, ps.pend) ∈ shp b := List.mem_map.mpr ⟨ps, hp, rfl⟩
  rw [e] at this
  refine el1_2 (List.mem_map.mp this) ?_
  intro q hq e2
  rw [← (Prod.mk.inj e2).2]; exact h q hq
theorem in_shp {a b : List PS} {m : Nat} (h : ∀ ps ∈ a, ps.inner.length ≤ m) (e : shp b = shp a) : ∀ ps ∈ b, ps.inner.length ≤ m := fun ps hp => by
  have : (ps.inner.length, ps.pend) ∈ shp b := List.mem_map.mpr ⟨ps, hp, rfl⟩
  rw [e] at this
  refine el1_2 (List.mem_map.mp this) ?_
  intro q hq e2
  rw [← (Prod.mk.inj e2).1]; exact h q hq
theorem shp_len {a b : List PS} (e : shp b = shp a) : b.length = a.length := by
  have := congrArg List.length e; simpa [shp] using this
theorem shp_find (k : Fin 5) : ∀ (stk : List PS), shp (findName stk k).2 = shp stk
  | [] => rfl
  | [ps] => rfl
  | ps :: r :: rs => by
    have ih := shp_find k (r :: rs)
    simp only [findName]
    split
    · rfl
    · split
      · rename_i n s hs; rw [hs] at ih; simp only [shp, List.map_cons] at ih ⊢; rw [ih]; rfl
      · rename_i p s _ hs; rw [hs] at ih; simp only [shp, List.map_cons] at ih ⊢; rw [ih]
theorem intro_shape (ps : PS) : ps.intro.inner.length = ps.inner.length ∧ ps.intro.pend = [] := by
  rw [intro_eq]; exact ⟨setTop_inner _ _, rfl⟩
theorem shp_intro {a b : List PS} (h : PN b) (e : shp a = shp b) : shp (topS PS.intro a) = shp b := by
  cases a with
  | nil => exact e
  | cons p r =>
    cases b with
    | nil => simp [shp] at e
    | cons q s =>
      simp only [shp, List.map_cons, List.cons.injEq, Prod.mk.injEq, topS] at e ⊢
      exact ⟨⟨(intro_shape p).1.trans e.1.1, (intro_shape p).2.trans (h q (.head _)).symm⟩, e.2⟩

mutual
theorem rStmt_shp : ∀ (t : Tr) (stk : List PS), PN stk → stk ≠ [] → shp (topS PS.intro (rStmt t stk).2) = shp stk ∧ (rStmt t stk).2 ≠ []
  | .my k, stk, hp, hn => by
    cases stk with
    | nil => exact absurd rfl hn
    | cons p r =>
      refine ⟨?_, by simp [rStmt, topS]⟩
      simp only [rStmt, topS, shp, List.map_cons, List.cons.injEq, Prod.mk.injEq, and_true]
      exact ⟨(intro_shape _).1, (intro_shape _).2.trans (hp p (.head _)).symm⟩
  | .use k1 k2, stk, hp, hn => by
    have e : shp (rStmt (.use k1 k2) stk).2 = shp stk := by simp only [rStmt]; rw [shp_find, shp_find]
    refine ⟨shp_intro hp e, fun z => ?_⟩
    rw [z] at e; have := shp_len e; cases stk with | nil => exact hn rfl | cons a b => simp at this
  | .anon b, stk, hp, hn => by
    have ih := rStmts_shp b (topS PS.push (PS.new :: stk)) (fun ps hps => by
      cases hps with
      | head => rfl
      | tail _ hps => exact hp ps hps) (by simp [topS])
    have e : shp (rStmt (.anon b) stk).2 = shp stk := by
      simp only [rStmt]
      simp only [shp] at ih ⊢
      rw [List.map_tail]
      rw [ih]; rfl
    refine ⟨shp_intro hp e, fun z => ?_⟩
    rw [z] at e; have := shp_len e; cases stk with | nil => exact hn rfl | cons a b => simp at this
  | .bare b, stk, hp, hn => by
    cases stk with
    | nil => exact absurd rfl hn
    | cons p r =>
      have ih := rStmts_shp b (topS PS.push (p :: r)) (fun ps hps => by
        cases hps with
        | head => exact hp p (.head _)
        | tail _ hps => exact hp ps (.tail _ hps)) (by simp [topS])
      have e : shp (rStmt (.bare b) (p :: r)).2 = shp (p :: r) := by
        simp only [rStmt]
        cases q : (rStmts b (topS PS.push (p :: r))).2 with
        | nil => rw [q] at ih; simp [shp, topS] at ih
        | cons p' r' =>
          rw [q] at ih
          simp only [shp, topS, List.map_cons, List.cons.injEq, Prod.mk.injEq] at ih ⊢
          refine ⟨⟨?_, ih.1.2⟩, ih.2⟩
          have := ih.1.1
          simp [PS.push, PS.pop] at this ⊢; (first | (simp +arith only; done) | lia | omega)
      refine ⟨shp_intro hp e, fun z => ?_⟩
      rw [z] at e; have := shp_len e; simp at this
theorem rStmts_shp : ∀ (ts : List Tr) (stk : List PS), PN stk → stk ≠ [] → shp (rStmts ts stk).2 = shp stk
  | [], stk, _, _ => rfl
  | t :: ts, stk, hp, hn => by
    refine el0_2 (rStmt_shp t stk hp hn) ?_
    intro e h
    simp only [rStmts]
    rw [rStmts_shp ts _ (PN_shp hp e) (by intro z; rw [z] at e; have := shp_len e; cases stk with | nil => exact hn rfl | cons a b => simp at this), e]
end


mutual
noncomputable def wok : Tr → Prop
  | .my _ => True
  | .use _ _ => True
  | .anon b => b.length ≤ 100 ∧ woks b
  | .bare b => b.length ≤ 100 ∧ woks b
noncomputable def woks : List Tr → Prop
  | [] => True
  | t :: ts => wok t ∧ woks ts
end
theorem woks_get : ∀ {ts : List Tr} {i : Nat} {t : Tr}, woks ts → ts[i]? = some t → wok t
  | [], i, t, _, h => by simp at h
  | u :: ts, i, t, w, h => by
    simp only [woks] at w
    cases i with
    | zero => simp at h; subst h; exact w.1
    | succ i => simp at h; exact woks_get w.2 h

section
variable {ad : Ads} {w : World}

theorem name_spec (k : Fin 5) {stk : List PS} {y : AV} {d : Nat} (hne : stk ≠ []) (hb : ∀ ps ∈ stk, ps.inner.length ≤ 100) :
    Spec ad w 21 (d + stk.length + 5) stk (findName stk k).2 y (fun F => ∃ n, y = .ref n ∧ F n = some (.tup [.str "name", .str (sgS k), .str (nmS k)])) (fun F G z => ∃ t, z = .ref t ∧ F t = some (.tup [.str (tagOf k (findName stk k).1), valOf k (findName stk k).1])) := by
  intro own H v sc loc Q S g rx q
  refine el1_2 rx ?_
  try clear rx
  intro n hE1 hn
  obtain rfl := hE1
  exact sp_resolve_name k stk d S hne hb g hn fun H' t S' s' h0 h1 => q own H' _ S' s' .refl ⟨t, rfl, dif_of h1 h0⟩
theorem my_spec (k : Fin 5) {ps : PS} {rest : List PS} {y : AV} {d : Nat} (hp : ps.pend = []) :
    Spec ad w 23 (d + 4) (ps :: rest) (ps.told k :: rest) y (fun F => ∃ n, y = .ref n ∧ F n = some (.tup [.str "my", .str (sgS k), .str (nmS k)])) (fun F G z => ∃ t, z = .ref t ∧ F t = some (.tup [.str ("my" ++ enS k), .int ps.size])) := by
  intro own H v sc loc Q S g rx q
  refine el1_2 rx ?_
  try clear rx
  intro n hE1 hn
  obtain rfl := hE1
  refine el2_3 S.ts ?_
  intro la out hE1 T ok
  obtain rfl := hE1
  exact sp_resolve_my k T g hp hn fun H' la' t e T' s' h0 h1 => q own H' _ (e ▸ T'.ss (ok.told k)) s' .refl ⟨t, rfl, dif_of h1 h0⟩

noncomputable def PT (ad : Ads) (w : World) (t : Tr) : Prop := ∀ (stk : List PS) (y : AV), PN stk → stk ≠ [] → (∀ ps ∈ stk, ps.inner.length + dep t ≤ 90) → wok t →
  Spec ad w 39 (16 * dep t + stk.length + 20) stk (rStmt t stk).2 y (fun F => RT F t y) (fun F G z => DT F G (rStmt t stk).1 z)

theorem sp_my (k : Fin 5) : PT ad w (.my k) := by
  intro stk y hp hne hb _ own H v sc loc Q S g rx q
  cases stk with
  | nil => exact absurd rfl hne
  | cons ps rest =>
  simp only [RT] at rx
  refine el2_3 rx ?_
  try clear rx
  intro a b hE1 h1 h2
  obtain rfl := hE1
  have s1 := part_of (s := "my") (node_of (s := "my") (my_spec (ad := ad) (w := w) (rest := rest) (y := .ref b) (d := 0) k (hp ps (.head _))) (fun F hI => el1_2 hI fun n e h => ⟨n, _, e, h⟩) rfl (by decide)) (fun F hI => el1_2 hI fun n e h => ⟨n, _, e, h, by simp⟩)
  have s2 := node_of (s := "expr") (expr_of (x := .ref a) s1 (by simp) (fun F F' s hI => el1_2 hI fun n e h => ⟨n, e, s _ _ h⟩) (fun F F' G G' y s u hI => el1_2 hI fun t e h => ⟨t, e, s _ _ h⟩)) (fun F hI => el0_2 hI fun hJ _ => el1_2 hJ fun n e h => ⟨n, _, e, h⟩) rfl (by decide)
  refine CallV.room (s2 own H v sc loc Q S g ⟨⟨a, rfl, h1⟩, b, rfl, h2⟩ fun own' H' z S' s' e' hD => q own' H' z S' s' e' ?_) (by (first | (simp +arith only; done) | lia | omega))
  obtain ⟨a', b', rfl, h3, t, rfl, h4⟩ := hD
  simp only [rStmt, DT]
  exact in2_3 a' t rfl h3 h4

theorem sp_use (k1 k2 : Fin 5) : PT ad w (.use k1 k2) := by
  intro stk y hp hne hb _ own H v sc loc Q S g rx q
  simp only [RT] at rx
  refine el5_6 rx ?_
  try clear rx
  intro a b l n1 n2 hE1 h1 h2 h3 h4 h5
  obtain rfl := hE1
  have hb1 : ∀ ps ∈ stk, ps.inner.length ≤ 100 := fun ps h => by have := hb ps h; (first | (simp +arith only; done) | lia | omega)
  have e1 := shp_find k1 stk
  have hne2 : (findName stk k1).2 ≠ [] := fun z => by rw [z] at e1; have := shp_len e1; cases stk with | nil => exact hne rfl | cons a b => simp at this
  have m1 : ∀ (k : Fin 5) (n : Addr), Mono (fun F => ∃ m, AV.ref n = .ref m ∧ F m = some (.tup [.str "name", .str (sgS k), .str (nmS k)])) := fun k n F F' s hI => el1_2 hI fun n e h => ⟨n, e, s _ _ h⟩
  have d1 : ∀ (k : Fin 5) (p : Option Pl), MonoD (fun F G z => ∃ t, z = .ref t ∧ F t = some (.tup [.str (tagOf k p), valOf k p])) := fun k p F F' G G' y s u hI => el1_2 hI fun t e h => ⟨t, e, s _ _ h⟩
  have sA := part_of (s := "name") (node_of (s := "name") (name_spec (ad := ad) (w := w) (y := .ref n1) (d := 0) k1 hne hb1) (fun F hI => el1_2 hI fun n e h => ⟨n, _, e, h⟩) rfl (by decide)) (fun F hI => el1_2 hI fun n e h => ⟨n, _, e, h, by simp⟩)
  have sB := part_of (s := "name") (node_of (s := "name") (name_spec (ad := ad) (w := w) (y := .ref n2) (d := 0) k2 hne2 (in_shp hb1 e1)) (fun F hI => el1_2 hI fun n e h => ⟨n, _, e, h⟩) rfl (by decide)) (fun F hI => el1_2 hI fun n e h => ⟨n, _, e, h, by simp⟩)
  rw [shp_len e1] at sB
  have sL := list2_of (x := .ref l) sA sB (m1 k1 n1) (m1 k2 n2) (d1 k1 _) (d1 k2 _)
  have sW := walk_of (x := .ref b) (s := "list") (pre := []) sL (by simp) (by simp) (fun F F' s hI => el0_3 hI fun hJ r1 r2 => el1_2 hJ fun n e h => ⟨⟨n, e, s _ _ h⟩, m1 _ _ _ _ s r1, m1 _ _ _ _ s r2⟩)
    (fun F F' G G' y s u hI => el3_4 hI fun a b1 b2 e h x1 x2 => ⟨a, b1, b2, e, s _ _ h, d1 _ _ _ _ _ _ _ s u x1, d1 _ _ _ _ _ _ _ s u x2⟩)
  have sP := part_of (s := "list") sW (fun F hI => el0_2 hI fun hJ _ => el1_2 hJ fun n e h => ⟨n, _, e, h, by simp⟩)
  have s2 := node_of (s := "expr") (expr_of (x := .ref a) sP hne (fun F F' s hI => el0_4 hI fun hJ hK r1 r2 => el1_2 hJ fun n e h => el1_2 hK fun n' e' h' => ⟨⟨n, e, s _ _ h⟩, ⟨n', e', s _ _ h'⟩, m1 _ _ _ _ s r1, m1 _ _ _ _ s r2⟩)
    (fun F F' G G' y s u hI => el2_3 hI fun a0 b0 e0 h0 hJ => el3_4 hJ fun a b1 b2 e h x1 x2 => ⟨a0, b0, e0, s _ _ h0, a, b1, b2, e, s _ _ h, d1 _ _ _ _ _ _ _ s u x1, d1 _ _ _ _ _ _ _ s u x2⟩)) (fun F hI => el0_2 hI fun hJ _ => el1_2 hJ fun n e h => ⟨n, _, e, h⟩) rfl (by decide)
  refine CallV.room (s2 own H v sc loc Q S g ⟨⟨a, rfl, h1⟩, ⟨b, rfl, h2⟩, ⟨l, rfl, h3⟩, ⟨n1, rfl, h4⟩, n2, rfl, h5⟩ fun own' H' z S' s' e' hD => q own' H' z S' s' e' ?_) (by (first | (simp +arith only; done) | lia | omega))
  obtain ⟨a', b', rfl, x1, a2, b2, rfl, x2, a3, b3, b4, rfl, x3, ⟨t1, rfl, x4⟩, t2, rfl, x5⟩ := hD
  simp only [rStmt, DT]
  exact in5_6 a' a2 a3 t1 t2 rfl x1 x2 x3 x4 x5
end


section
variable {ad : Ads} {w : World}

theorem BlkR.mono (ts : List Tr) (x : AV) : Mono (BlkR ts x) := fun F F' s hI => el3_4 hI fun n l vs e h1 h2 h3 => ⟨n, l, vs, e, s _ _ h1, s _ _ h2, RTs.mono s _ _ h3⟩
theorem BlkD.mono (ds : List Dn) : MonoD (BlkD ds) := fun F F' G G' y s u hI => el3_4 hI fun a l us e h1 h2 h3 => ⟨a, l, us, e, s _ _ h1, s _ _ h2, DTs.mono s u _ _ h3⟩

theorem blk_spec (ts : List Tr) (hP : ∀ (i : Nat) (t : Tr), ts[i]? = some t → PT ad w t) {ps0 : PS} {rest : List PS} {x : AV} (hp : PN (ps0 :: rest)) (hb : ∀ ps ∈ ps0 :: rest, ps.inner.length + deps ts ≤ 89) (hw : woks ts) (hz : ts.length ≤ 100) :
    ∃ ps' rest', (rStmts ts (topS PS.push (ps0 :: rest))).2 = ps' :: rest' ∧ shp (ps'.pop :: rest') = shp (ps0 :: rest) ∧ Spec ad w 30 (16 * deps ts + rest.length + 24) (ps0 :: rest) (ps'.pop :: rest') x (BlkR ts x) (BlkD (rStmts ts (topS PS.push (ps0 :: rest))).1) := by
  have hp0 : PN (topS PS.push (ps0 :: rest)) := fun ps hps => by
    cases hps with
    | head => exact hp ps0 (.head _)
    | tail _ h => exact hp ps (.tail _ h)
  have hb0 : ∀ ps ∈ topS PS.push (ps0 :: rest), ps.inner.length ≤ 90 - deps ts := fun ps hps => by
    cases hps with
    | head => have := hb ps0 (.head _); simp [PS.push]; (first | (simp +arith only; done) | lia | omega)
    | tail _ h => have := hb ps (.tail _ h); (first | (simp +arith only; done) | lia | omega)
  have hne0 : topS PS.push (ps0 :: rest) ≠ [] := by simp [topS]
  have sh : ∀ i, shp (rStmts (ts.take i) (topS PS.push (ps0 :: rest))).2 = shp (topS PS.push (ps0 :: rest)) := fun i => rStmts_shp _ _ hp0 hne0
  have ne : ∀ i, (rStmts (ts.take i) (topS PS.push (ps0 :: rest))).2 ≠ [] := fun i z => by have := shp_len (sh i); rw [z] at this; simp [topS] at this
  have shA := rStmts_shp ts (topS PS.push (ps0 :: rest)) hp0 hne0
  cases hq : (rStmts ts (topS PS.push (ps0 :: rest))).2 with
  | nil => rw [hq] at shA; simp [shp, topS] at shA
  | cons ps' rest' =>
  rw [hq] at shA
  simp only [shp, topS, List.map_cons, List.cons.injEq, Prod.mk.injEq] at shA
  have hil : ps'.inner.length = ps0.inner.length + 1 := by have := shA.1.1; simpa [PS.push] using this
  refine in2_3 ps' rest' rfl ?_ ?_
  · simp only [shp, List.map_cons, List.cons.injEq, Prod.mk.injEq]
    refine ⟨⟨by simp [PS.pop]; (first | (simp +arith only; done) | lia | omega), shA.1.2⟩, shA.2⟩
  · refine Spec.room (block_of (d := 16 * deps ts + rest.length + 21) (by (first | (simp +arith only; done) | lia | omega)) (fun i t y ht => ?_) (fun i t ht => ?_) (hp ps0 (.head _)) (by have := hb ps0 (.head _); (first | (simp +arith only; done) | lia | omega)) hq (shA.1.2.trans (hp ps0 (.head _))) (fun z => by rw [z] at hil; simp at hil) (by have := hb ps0 (.head _); (first | (simp +arith only; done) | lia | omega))) (by (first | (simp +arith only; done) | lia | omega))
    · have hd := deps_get ht
      refine Spec.room (hP i t ht _ y (PN_shp hp0 (sh i)) (ne i) (fun ps hps => ?_) (woks_get hw ht)) ?_
      · have := in_shp hb0 (sh i) ps hps
        have := hb ps0 (.head _)
        (first | (simp +arith only; done) | lia | omega)
      · have := shp_len (sh i)
        rw [this]; simp [topS]; (first | (simp +arith only; done) | lia | omega)
    · exact (rStmt_shp t _ (PN_shp hp0 (sh i)) (ne i)).2

theorem sp_bare (b : List Tr) (hP : ∀ (i : Nat) (t : Tr), b[i]? = some t → PT ad w t) : PT ad w (.bare b) := by
  intro stk y hp hne hb hw own H v sc loc Q S g rx q
  cases stk with
  | nil => exact absurd rfl hne
  | cons ps rest =>
  simp only [RT] at rx
  refine el4_5 rx ?_
  try clear rx
  intro a bl l vs hE1 h1 h2 h3 h4
  obtain rfl := hE1
  simp only [wok] at hw
  simp only [dep] at hb
  refine el2_3 (blk_spec (ad := ad) (w := w) b hP (x := .ref bl) hp (fun p hp => by have := hb p hp; (first | (simp +arith only; done) | lia | omega)) hw.2 hw.1) ?_
  intro ps' rest' hq hsh sB
  have s1 := part_of (s := "block") (node_of (s := "block") sB (fun F hI => el3_3 hI fun n l vs e h _ => ⟨n, _, e, h⟩) rfl (by decide)) (fun F hI => el3_3 hI fun n l vs e h _ => ⟨n, _, e, h, by simp⟩)
  have sW := walk_of (x := .ref a) (s := "bare") (pre := [""]) s1 (by simp) (by simp) (BlkR.mono _ _) (BlkD.mono _)
  have e2 : (rStmt (.bare b) (ps :: rest)).2 = ps'.pop :: rest' := by simp only [rStmt]; rw [hq]; rfl
  rw [e2] at q
  refine CallV.room (sW own H v sc loc Q S g ⟨⟨a, rfl, h1⟩, bl, l, vs, rfl, h2, h3, h4⟩ fun own' H' z S' s' e' hD => q own' H' z S' s' e' ?_) (by simp only [dep]; simp; (first | (simp +arith only; done) | lia | omega))
  obtain ⟨a', b', rfl, x1, a2, l2, us, rfl, x2, x3, x4⟩ := hD
  simp only [rStmt, DT]
  exact in4_5 a' a2 l2 us rfl x1 x2 x3 x4

theorem SubD.mono (ps' : PS) {D : AH → AH → AV → Prop} (hd : MonoD D) : MonoD (SubD ps' D) := fun F F' G G' y s u hI => el4_5 hI fun a b cp cs e h1 h2 h3 h4 => ⟨a, b, cp, cs, e, s _ _ h1, hd _ _ _ _ _ s u h2, s _ _ h3, h4.monoT u⟩

theorem sp_anon (b : List Tr) (hP : ∀ (i : Nat) (t : Tr), b[i]? = some t → PT ad w t) : PT ad w (.anon b) := by
  intro stk y hp hne hb hw own H v sc loc Q S g rx q
  simp only [RT] at rx
  refine el7_7 rx ?_
  try clear rx
  intro a b' c bl e l vs hE1 h1 h2 h3 h4 h5 h6
  obtain rfl := hE1
  simp only [wok] at hw
  simp only [dep] at hb
  have hstk : 0 < stk.length := by cases stk with | nil => exact absurd rfl hne | cons p r => simp
  obtain ⟨p0, hp0⟩ : ∃ p0, p0 ∈ stk := by cases stk with | nil => exact absurd rfl hne | cons p r => exact ⟨p, .head _⟩
  obtain ⟨ps', rest', hq, hsh, sB⟩ := blk_spec (ad := ad) (w := w) b hP (ps0 := PS.new) (rest := stk) (x := .ref bl) (fun p hpp => by
      cases hpp with
      | head => rfl
      | tail _ h => exact hp p h) (fun p hpp => by
      cases hpp with
      | head => have := hb p0 hp0; simp [PS.new]; (first | (simp +arith only; done) | lia | omega)
      | tail _ h => have := hb p h; (first | (simp +arith only; done) | lia | omega)) hw.2 hw.1
  have hlen : rest'.length = stk.length := by have := shp_len hsh; simpa using this
  have s1 := part_of (s := "subdef") (node_of (s := "subdef") (subdef_of (x := .ref c) sB hne hlen (BlkR.mono _ _) (BlkD.mono _)) (fun F hI => el0_2 hI fun hJ _ => el3_2 hJ fun n z e h h' => ⟨n, _, h, h'⟩) rfl (by decide)) (fun F hI => el0_2 hI fun hJ _ => el3_2 hJ fun n z e h h' => ⟨n, _, h, h', by simp⟩)
  have mS : Mono (fun F => (∃ n z e, AV.ref c = .ref n ∧ F n = some (.tup [.str "subdef", .str "", .ref bl, z, e])) ∧ BlkR b (.ref bl) F) := fun F F' s hI => el0_2 hI fun hJ k => el3_2 hJ fun n z e h h' => ⟨⟨n, z, e, h, s _ _ h'⟩, BlkR.mono _ _ _ _ s k⟩
  have dS := SubD.mono ps'.pop (BlkD.mono (rStmts b (topS PS.push (PS.new :: stk))).1)
  have sW := part_of (s := "anonsub") (walk_of (x := .ref b') (s := "anonsub") (pre := []) s1 (by simp) (by simp) mS dS) (fun F hI => el0_2 hI fun hJ _ => el1_2 hJ fun n h h' => ⟨n, _, h, h', by simp⟩)
  have s2 := node_of (s := "expr") (expr_of (x := .ref a) sW hne (fun F F' s hI => el0_2 hI fun hJ k => el1_2 hJ fun n h h' => ⟨⟨n, h, s _ _ h'⟩, mS _ _ s k⟩)
    (fun F F' G G' y s u hI => el2_3 hI fun a b e h k => ⟨a, b, e, s _ _ h, dS _ _ _ _ _ s u k⟩)) (fun F hI => el0_2 hI fun hJ _ => el1_2 hJ fun n e h => ⟨n, _, e, h⟩) rfl (by decide)
  have e2 : (rStmt (.anon b) stk).2 = rest' := by simp only [rStmt]; rw [hq]; rfl
  rw [e2] at q
  refine CallV.room (s2 own H v sc loc Q S g ⟨⟨a, rfl, h1⟩, ⟨b', rfl, h2⟩, ⟨c, _, _, rfl, h3⟩, bl, l, vs, rfl, h4, h5, h6⟩ fun own' H' z S' s' e' hD => q own' H' z S' s' e' ?_) (by simp only [dep]; (first | (simp +arith only; done) | lia | omega))
  obtain ⟨a1, b1, rfl, x1, a2, b2, rfl, x2, a3, b3, cp, cs, rfl, x3, ⟨a4, l4, us, rfl, x4, x5, x6⟩, x7, x8⟩ := hD
  simp only [rStmt, DT]
  rw [hq]
  exact in8_9 a1 a2 a3 a4 l4 us cp cs rfl x1 x2 x3 x4 x5 x6 x7 x8

mutual
theorem sp_stmt : ∀ (t : Tr), PT ad w t
  | .my k => sp_my k
  | .use k1 k2 => sp_use k1 k2
  | .anon b => sp_anon b (sp_stmts b)
  | .bare b => sp_bare b (sp_stmts b)
theorem sp_stmts : ∀ (ts : List Tr) (i : Nat) (t : Tr), ts[i]? = some t → PT ad w t
  | [], i, t, h => by simp at h
  | u :: ts, 0, t, h => by simp at h; subst h; exact sp_stmt u
  | u :: ts, i + 1, t, h => sp_stmts ts i t (by simpa using h)
end
end


noncomputable def putPl (b : Blk) : List (Fin 5 × Pl) → Blk
  | [] => b
  | (k, p) :: r => putPl (bput b k p) r
theorem putPl_snoc (k : Fin 5) (p : Pl) : ∀ (l : List (Fin 5 × Pl)) (b : Blk), putPl b (l ++ [(k, p)]) = bput (putPl b l) k p
  | [], _ => rfl
  | (k', n') :: r, b => putPl_snoc k p r _
theorem nodup_putPl : ∀ {l : List (Fin 5 × Pl)} {b : Blk}, (b.map (·.1)).Nodup → ((putPl b l).map (·.1)).Nodup
  | [], _, h => h
  | _ :: r, b, h => nodup_putPl (l := r) (nodup_put h)
noncomputable def seenS (l : List (Fin 5 × Pl)) : PS := ⟨putPl [] l, [], [], 0, []⟩
theorem seenS_ok (l : List (Fin 5 × Pl)) : (seenS l).Ok := ⟨nodup_putPl List.nodup_nil, fun b hb => (nomatch hb), Nat.zero_le _⟩

noncomputable def SeenR (F : AH) : List (Fin 5 × Pl) → List AV → Prop
  | [], vs => vs = []
  | (k, p) :: r, vs => ∃ t us, vs = .ref t :: us ∧ F t = some (.tup [.str (kyS k), p.av]) ∧ SeenR F r us
theorem SeenR.get {F : AH} : ∀ {l : List (Fin 5 × Pl)} {vs : List AV}, SeenR F l vs → vs.length = l.length ∧ ∀ (i : Nat) (x : AV), vs[i]? = some x → ∃ k p t, l[i]? = some (k, p) ∧ x = .ref t ∧ F t = some (.tup [.str (kyS k), p.av])
  | [], vs, h => by simp only [SeenR] at h; subst h; simp
  | (k, p) :: r, vs, h => by
    refine el2_3 h ?_
    try clear h
    intro t us hE1 h1 h2
    obtain rfl := hE1
    refine el0_2 h2.get ?_
    intro e f
    refine ⟨by simp [e], fun i x hx => ?_⟩
    cases i with
    | zero => simp at hx; exact in3_3 k p t rfl hx.symm h1
    | succ i =>
      refine el3_3 (f i x (by simpa using hx)) ?_
      intro k' p' t' a b c
      exact in3_3 k' p' t' (by simpa using a) b c
theorem SeenR.mono {F F' : AH} (s : Sub F F') : ∀ {l : List (Fin 5 × Pl)} {vs : List AV}, SeenR F l vs → SeenR F' l vs
  | [], _, h => h
  | (k, n) :: r, _, ⟨t, us, e, h, q⟩ => ⟨t, us, e, s _ _ h, q.mono s⟩

section
variable {ad : Ads} {w : World} {sc : Scope} {loc : Loc} {H : AH} {d : Nat}

/-- the pure side of resolve_eval -/
noncomputable def evalS (ts : List Tr) (seen : List (Fin 5 × Pl)) : List Dn × List PS := rStmts ts (topS PS.push [PS.new, seenS seen])

theorem sp_resolve_eval {Q : AV → AH → Prop} {ts : List Tr} {seen : List (Fin 5 × Pl)} {tr se : Addr} {bl z : AV} {vs : List AV} (g : GH ad H) (hw : woks ts) (hz : ts.length ≤ 100) (hd : deps ts ≤ 80) (hl : seen.length ≤ 100)
    (ht : H tr = some (.tup [.str "program", bl, z])) (hb : BlkR ts bl H) (hs : H se = some (.tup vs)) (hv : SeenR H seen vs)
    (q : ∀ own' H' y ps' r', evalS ts seen = ((evalS ts seen).1, ps' :: r') → Sub H (fz own' H') → SubD ps' (BlkD (evalS ts seen).1) (dif (fz own' H') H) (fz own' H') y → Q y H') :
    CallV ad w sc (d + 16 * deps ts + 40) (.ref (ad.fn 41)) [.ref tr, .ref se, .str "P"] loc H Q := by
  refine CallV.fn3 (by conv => lhs; whnf) (by decide) rfl (fun _ _ _ _ _ _ => rfl) (by decide) (by decide) ?_
  walk_at "go"
  have lab0 : Lab (fun _ => none) H := fun _ _ => rfl
  have F0 : fz (fun _ => none) H = H := rfl
  refine CallV.room (sp_new_scope (d := 0) (own := fun _ => none) (stk := []) (out := .none) rfl lab0 fun own1 H1 la T1 sub1 _ => ?_) (by (first | (simp +arith only; done) | lia | omega))
  rw [F0] at sub1
  walk_at "go"
  refine SX.for_tup ?_
  walk_at "go"
  have hvl := hv.get
  refine in3_5 se vs (fun i lc H3 => lc "outer" = some (.ref la.self) ∧ lc "tree" = some (.ref tr) ∧ lc "package" = some (.str "P") ∧ TS ad own1 H3 (seenS (seen.take i)) [] la .none ∧ Sub H (fz own1 H3)) rfl (⟨rfl, rfl, rfl, T1, sub1⟩) ?_ ?_ ?_
  · rintro i lc H3 hI0 
    refine el0_5 hI0 ?_
    try clear hI0
    intro _ _ _ _ s3
    exact (fz_some (s3 _ _ hs)).1
  · rintro i x lc H3 hx hI0 
    refine el0_5 hI0 ?_
    try clear hI0
    intro c1 c2 c3 T3 s3
    refine el3_3 (hvl.2 i x hx) ?_
    intro k p t hk hE1 ht'
    obtain rfl := hE1
    refine AT.tuple (fz_some (s3 _ _ ht')).1 rfl ?_
    walk_at "go"
    refine AttrT.inst T3.L.h1 T3.L.h2 (by rfl) ?_
    walk_at "go"
    obtain ⟨b0, hb0⟩ : ∃ b0, la.bas[0]? = some b0 := ⟨_, List.getElem?_eq_getElem (by have := T3.L.l1; (first | (simp +arith only; done) | lia | omega))⟩
    refine SubT.list T3.L.h3 (by decide) (x := .ref b0) (by show (la.bas.map AV.ref)[0]? = _; rw [List.getElem?_map, hb0]; rfl) ?_ (by decide)
    walk_at "go"
    have ok := seenS_ok (seen.take i)
    refine SetT.dict (T3.L.bh 0 b0 (putPl [] (seen.take i)) hb0 rfl) (by have := five ok.base; simp only [bAV, List.length_map] at this ⊢; simp only [seenS] at this; (first | (simp +arith only; done) | lia | omega)) ?_
    rw [bAV_put]
    have T4 := T3.top (x := b0) (B := bput (putPl [] (seen.take i)) k p) hb0
    have e : seenS (seen.take (i + 1)) = (seenS (seen.take i)).setTop (bput (putPl [] (seen.take i)) k p) := by
      have : seen.take (i + 1) = seen.take i ++ [(k, p)] := by rw [List.take_add_one, hk]; rfl
      rw [this]; unfold seenS PS.setTop; simp [putPl_snoc]
    walk_at "go"
    exact in0_5 c1 c2 c3 (e ▸ T4) (s3.trans (.put (T3.L.b 0 b0 hb0)))
  · rintro lc H3 hI0 
    refine el0_5 hI0 ?_
    try clear hI0
    intro c1 c2 c3 T3 s3
    rw [List.take_of_length_le (by have := hvl.1; (first | (simp +arith only; done) | lia | omega))] at T3
    walk_at "go"
    have S3 := T3.ss (seenS_ok seen)
    refine CallV.room (sp_new_scope (d := 0) S3.stk S3.lab fun own4 H4 la4 T4 s4 x4 => ?_) (by (first | (simp +arith only; done) | lia | omega))
    have s34 := s3.trans s4
    walk_at "go"
    refine SubT.tup (fz_some (s34 _ _ ht)).1 (by decide) (x := bl) rfl ?_ (by decide)
    walk_at "go"
    obtain ⟨ps', rest', hq, hsh, sB⟩ := blk_spec (ad := ad) (w := w) ts (sp_stmts ts) (ps0 := PS.new) (rest := [seenS seen]) (x := bl) (fun p hp => by
      simp at hp; rcases hp with rfl | rfl <;> rfl) (fun p hp => by
      simp at hp; rcases hp with rfl | rfl
      · simp [PS.new]; (first | (simp +arith only; done) | lia | omega)
      · simp [seenS]; (first | (simp +arith only; done) | lia | omega)) hw hz
    refine CallV.room (sB own4 H4 (.ref la4.self) _ _ _ (T4.ss PS.Ok.new) (g.mono s34) (BlkR.mono _ _ _ _ s34 hb) fun own5 H5 b S5 s5 e5 hD => ?_) (by simp; (first | (simp +arith only; done) | lia | omega))
    refine el2_3 S5.ts ?_
    intro la5 out5 e5' T5 ok5
    have e5'' : la4.self = la5.self := AV.ref.inj e5'
    walk_at "go"
    refine AttrT.inst (by rw [e5'']; exact T5.L.h1) T5.L.h2 (by rfl) ?_
    walk_at "go"
    refine AttrT.inst (by rw [e5'']; exact T5.L.h1) T5.L.h2 (by rfl) ?_
    walk_at "go"
    refine ⟨Nat.le_of_ble_eq_true rfl, fun a ha => ?_⟩
    walk_at "go"
    have T6 := T5.fresh (o := .tup [.str "subdef", .str "", b, .int ps'.pop.size, .ref la5.cp]) ha
    have sub6 : Sub (fz own5 H5) (fz own5 (AH.put H5 a (.tup [.str "subdef", .str "", b, .int ps'.pop.size, .ref la5.cp]))) := .new ha
    have f6 := fz_new (o := .tup [.str "subdef", .str "", b, .int ps'.pop.size, .ref la5.cp]) T5.lab ha
    show Q _ (AH.put H5 a (.tup [.str "subdef", .str "", b, .int ps'.pop.size, .ref la5.cp]))
    generalize AH.put H5 a (.tup [.str "subdef", .str "", b, .int ps'.pop.size, .ref la5.cp]) = H6 at T6 sub6 f6
    let own7 : Own := fun y => if y = la5.cp then none else own5 y
    have sub7 : Sub (fz own5 H6) (fz own7 H6) := fun y o hy => by
      refine el0_2 (fz_some hy) ?_
      intro h1 h2
      refine fz_of h1 ?_
      show (if y = la5.cp then none else own5 y) = _
      split
      · rfl
      · exact h2
    have cpf : fz own7 H6 la5.cp = some (.list la5.cs) := fz_of T6.L.h5 (by show (if la5.cp = la5.cp then none else own5 la5.cp) = _; rw [if_pos rfl])
    have sA := s34.trans s5
    refine q own7 H6 (.ref a) ps' rest' (by unfold evalS; rw [← hq]) (sA.trans (sub6.trans sub7)) ⟨a, b, la5.cp, la5.cs, rfl, dif_of (sub7 _ _ f6) (none_of_sub sA (fz_none ha)), BlkD.mono _ _ _ _ _ _ (dif_mono s34 (sub6.trans sub7)) (sub6.trans sub7).t hD, dif_of cpf (none_of_sub sA (by unfold fz; rw [T5.L.o5])), T6.L.c.mono sub7⟩
end


noncomputable def own1 (p : Addr) : Own := fun a => if a = p then some (0, .cp) else none
theorem own1_self {p : Addr} : own1 p p = some (0, .cp) := if_pos rfl
theorem own1_ne {p a : Addr} (h : a ≠ p) : own1 p a = none := if_neg h
theorem own1_lab {p : Addr} {H : AH} {o : AO} (h : H p = some o) : Lab (own1 p) H := fun a ha => own1_ne fun z => by subst z; rw [h] at ha; exact snE ha
theorem fz1_of {p a : Addr} {H : AH} {o : AO} (h : H a = some o) (n : a ≠ p) : fz (own1 p) H a = some o := fz_of h (own1_ne n)

section
variable {ad : Ads} {w : World} {sc : Scope} {loc : Loc} {H : AH} {d : Nat}

theorem Bin.add_list_arr {a b : Addr} {xs ys : List AV} {Q : AV → AH → Prop} (ha : H a = some (.list xs)) (hb : H b = some (.list ys)) (hz : xs.length + ys.length ≤ 1000) (q : ∀ n, H n = none → Q (.ref n) (AH.put H n (.arr (xs ++ ys)))) :
    Bin ad w sc d .Add (.ref a) (.ref b) loc H Q := by
  intro va vb e1 e2 A B env s r g e R
  refine hideE fun PZ pz => ?_
  have := absV_ref e1; subst this
  have := absV_ref e2; subst this
  refine el1_2 (R.own _ _ ha) ?_
  intro vs hE1 m1
  refine el1_1 hE1 ?_
  try clear hE1
  intro n h1
  refine el1_2 (R.own _ _ hb) ?_
  intro us hE1 m2
  refine el1_1 hE1 ?_
  try clear hE1
  intro k h2
  have l1 : vs.length = xs.length := by rw [← m1, List.length_map]
  have l2 : us.length = ys.length := by rw [← m2, List.length_map]
  refine P.add_list h1 h2 (pz _ _ _ _ (R.alloc (fun _ _ e => Heap.get?_push_of_some _ e) (Nat.le_refl _) (ao := .arr (xs ++ ys)) ⟨vs ++ us, ⟨_, Heap.get?_push_size _ rfl, rfl, 0, by simp⟩, by rw [List.map_append, m1, m2]⟩) (q _ (R.off (Nat.le_refl _)).h)) (by simp only [List.size_toArray, sizeLine_eq]; (first | (simp +arith only; done) | lia | omega))

theorem mul_left {a b : Int} (h1 : -1000000 ≤ a) (h2 : a ≤ 1000000) : IntMulOk a b := IntMulOk.of_left (intBits_le_64 (by (first | (simp +arith only; done) | lia | omega)) (by (first | (simp +arith only; done) | lia | omega)))
theorem mul_right {a b : Int} (h1 : -1000000 ≤ b) (h2 : b ≤ 1000000) : IntMulOk a b := IntMulOk.of_right (intBits_le_64 (by (first | (simp +arith only; done) | lia | omega)) (by (first | (simp +arith only; done) | lia | omega)))

theorem sp_pen {Q : AV → AH → Prop} (hl : ad.ns.length ≤ 63) (q : ∀ H' n i, Sub H H' → H n = none → H' n = some (.list [.int i, .int 0]) → Q (.ref n) H') :
    CallV ad w sc (d + 1) (.ref (ad.fn 45)) [.ref ad.scr] loc H Q := by
  refine CallV.fn1 (by conv => lhs; whnf) (by decide) rfl (fun _ _ _ _ => rfl) (by decide) (by decide) ?_
  walk_at "go"
  refine SX.for_list ?_
  walk_at "go"
  refine SliceT.scr_upto (c := 24) (by decide) (by (first | (simp +arith only; done) | lia | omega)) fun m hm => ?_
  have s1 : Sub H (AH.put H m (.list ((ad.ns.map AV.int).take (24 : Int).toNat))) := fun a o h => by rw [put_ne]; exact h; intro z; subst z; rw [hm] at h; exact nsE h
  refine ⟨m, (ad.ns.map AV.int).take (24 : Int).toNat, fun i lc H1 => H1 = AH.put H m (.list ((ad.ns.map AV.int).take (24 : Int).toNat)) ∧ ∃ x, lc "number" = some (.int x), rfl, ⟨rfl, 7, rfl⟩, ?_, ?_, ?_⟩
  · rintro i lc H1 ⟨rfl, _⟩; exact put_same
  · rintro i x lc H1 hx hI0 
    refine hide fun PZ kZ => ?_
    obtain ⟨hE1, y, hy⟩ := hI0
    refine kZ ?_
    clear kZ PZ
    obtain rfl := hE1
    have : ∃ c, x = .int c := by
      rw [List.getElem?_take] at hx
      split at hx
      · rw [List.getElem?_map] at hx
        refine el1_2 (Option.map_eq_some_iff.mp hx) ?_
        intro c _ e
        exact ⟨c, e.symm⟩
      · exact nsE hx
    refine el1_1 this ?_
    try clear this
    intro c hE1
    obtain rfl := hE1
    refine AT.name (by rfl) ?_
    walk_at "go"
    refine Bin.mul_int (mul_right (by decide) (by decide)) ?_
    walk_at "go"
    refine CallV.abs ?_
    refine Bin.mul_int (mul_left (by decide) (by decide)) ?_
    walk_at "go"
    refine Cmp.lt_int ?_
    walk_at "go"
    refine CallV.int_bool ?_
    walk_at "go"
    exact ⟨rfl, _, rfl⟩
  · rintro lc H1 hI0 
    refine hide fun PZ kZ => ?_
    obtain ⟨hE1, y, hy⟩ := hI0
    refine kZ ?_
    clear kZ PZ
    obtain rfl := hE1
    walk_at "go"
    refine ⟨Nat.le_of_ble_eq_true rfl, fun n hn => ?_⟩
    walk_at "go"
    refine el0_2 (put_none hn) ?_
    intro n1 n2
    exact q _ n y (fun a o h => by rw [put_ne (by intro z; subst z; rw [n2] at h; exact nsE h)]; exact s1 _ _ h) n2 put_same

theorem sp_draw {Q : AV → AH → Prop} {p : Addr} {a c : Int} {k : AV} {many : Int} (hp : H p = some (.arr [.int a, .int c, k])) (h0 : 0 < many) (h1 : many < 1000)
    (q : ∀ H' r a' c', 0 ≤ r → r < many → H' p = some (.arr [.int a', .int c', k]) → Sub (fz (own1 p) H) (fz (own1 p) H') → Q (.int r) H') :
    CallV ad w sc (d + 1) (.ref (ad.fn 46)) [.ref p, .int many] loc H Q := by
  refine CallV.fn2 (by conv => lhs; whnf) (by decide) rfl (fun _ _ _ _ _ => rfl) (by decide) (by decide) ?_
  have main : ∀ (H1 : AH) (a c : Int), H1 p = some (.arr [.int a, .int c, k]) → Sub (fz (own1 p) H) (fz (own1 p) H1) → ∀ n, H1 n = none →
      Q (.int (a.fmod many)) (AH.put (AH.put H1 n (.tup [.int (a.fdiv many), .int (a.fmod many)])) p (.arr [.int (a.fdiv many), .int c, k])) := fun H1 a c hp1 s1 n hn => by
    refine q _ _ (a.fdiv many) c (Int.fmod_nonneg_of_pos _ h0) (Int.fmod_lt_of_pos _ h0) put_same ?_
    exact s1.trans ((Sub.new hn).trans (.put own1_self))
  walk_at "go"
  refine SubT.arr hp (by decide) (x := .int a) rfl ?_ (by decide)
  walk_at "go"
  refine Cmp.eq_int ?_
  refine ⟨fun z => ?_, fun z => ?_⟩
  · walk_at "go"
    refine GetT.arr hp (by decide) (x := .int c) rfl ?_ (by decide)
    walk_at "go"
    refine SetT.arr hp (by decide) (by simp) ?_ (by decide)
    walk_at "go"
    refine SubT.arr put_same (by decide) (x := .int (c + 1)) rfl ?_ (by decide)
    refine Bin.mul_int (mul_left (by decide) (by decide)) ?_
    walk_at "go"
    refine SetT.arr put_same (by decide) (by simp) ?_ (by decide)
    have s2 : Sub (fz (own1 p) H) (fz (own1 p) (AH.put (AH.put H p (.arr [.int a, .int (c + 1), k])) p (.arr [.int (7919 * (c + 1) + 104729), .int (c + 1), k]))) := (Sub.put own1_self).trans (.put own1_self)
    have hp2 : AH.put (AH.put H p (.arr [.int a, .int (c + 1), k])) p (.arr [.int (7919 * (c + 1) + 104729), .int (c + 1), k]) p = some (.arr [.int (7919 * (c + 1) + 104729), .int (c + 1), k]) := put_same
    try with_reducible refine Nx.next ?_
    show SX ad w (fnScope 46) _ _ _ (AH.put (AH.put H p (.arr [.int a, .int (c + 1), k])) p (.arr [.int (7919 * (c + 1) + 104729), .int (c + 1), k])) _
    generalize AH.put (AH.put H p (.arr [.int a, .int (c + 1), k])) p (.arr [.int (7919 * (c + 1) + 104729), .int (c + 1), k]) = H2 at s2 hp2
    walk_at "go"
    refine SubT.arr hp2 (by decide) (x := .int (7919 * (c + 1) + 104729)) rfl ?_ (by decide)
    walk_at "go"
    refine CallV.divmod h0 h1 fun n hn => ?_
    refine AT.tuple put_same rfl ?_
    walk_at "go"
    refine AT.sub ?_
    walk_at "go"
    have hne : p ≠ n := fun z => by rw [← z, hp2] at hn; exact snE hn
    refine SetT.arr (xs := [.int (7919 * (c + 1) + 104729), .int (c + 1), k]) (by rw [put_ne hne]; exact hp2) (by decide) (by simp) ?_ (by decide)
    walk_at "go"
    exact main _ _ _ hp2 s2 n hn
  · walk_at "go"
    walk_at "go"
    refine SubT.arr hp (by decide) (x := .int (a)) rfl ?_ (by decide)
    walk_at "go"
    refine CallV.divmod h0 h1 fun n hn => ?_
    refine AT.tuple put_same rfl ?_
    walk_at "go"
    refine AT.sub ?_
    walk_at "go"
    have hne : p ≠ n := fun z => by rw [← z, hp] at hn; exact snE hn
    refine SetT.arr (xs := [.int (a), .int (c), k]) (by rw [put_ne hne]; exact hp) (by decide) (by simp) ?_ (by decide)
    walk_at "go"
    exact main _ _ _ hp .refl n hn
end


mutual
noncomputable def cnt : Tr → Nat
  | .my _ => 1
  | .use _ _ => 1
  | .anon b => cnts b + 1
  | .bare b => cnts b + 1
noncomputable def cnts : List Tr → Nat
  | [] => 0
  | t :: ts => cnt t + cnts ts
end
theorem cnts_snoc (t : Tr) : ∀ ts, cnts (ts ++ [t]) = cnts ts + cnt t
  | [] => by simp [cnts]
  | u :: ts => by simp only [List.cons_append, cnts, cnts_snoc t ts]; (first | (simp +arith only; done) | lia | omega)
theorem deps_snoc (t : Tr) : ∀ ts, deps (ts ++ [t]) = max (deps ts) (dep t)
  | [] => by simp [deps]
  | u :: ts => by simp only [List.cons_append, deps, deps_snoc t ts, Nat.max_assoc]
theorem woks_snoc {t : Tr} (h : wok t) : ∀ {ts}, woks ts → woks (ts ++ [t])
  | [], _ => by simp only [List.nil_append, woks]; exact ⟨h, trivial⟩
  | u :: ts, w => by simp only [List.cons_append, woks] at w ⊢; exact ⟨w.1, woks_snoc h w.2⟩
theorem RTs.snoc {F : AH} {d : Tr} {x : AV} (hx : RT F d x) : ∀ {ds : List Tr} {us : List AV}, RTs F ds us → RTs F (ds ++ [d]) (us ++ [x])
  | [], us, h => by simp only [RTs] at h; subst h; simp only [List.nil_append, RTs]; exact in2_3 x ([]) rfl hx rfl
  | e :: ds, us, h => by
    simp only [RTs] at h; obtain ⟨v, r, rfl, h1, h2⟩ := h
    simp only [List.cons_append, RTs]
    exact in2_3 v (r ++ [x]) rfl h1 (h2.snoc hx)
theorem ky_nm : ∀ k, Txt.slice (kyS k) (some 1) none = nmS k := by decide +kernel

section
variable {ad : Ads} {w : World} {sc : Scope} {loc : Loc} {H : AH} {d : Nat}

theorem sp_pick {Q : AV → AH → Prop} {p : Addr} {a c : Int} {k : AV} (g : GH ad H) (hp : H p = some (.arr [.int a, .int c, k]))
    (q : ∀ H' j a' c', H' p = some (.arr [.int a', .int c', k]) → Sub (fz (own1 p) H) (fz (own1 p) H') → Q (.str (kyS j)) H') :
    CallV ad w sc (d + 2) (.ref (ad.fn 47)) [.ref p, .ref ad.keys] loc H Q := by
  refine CallV.fn2 (by conv => lhs; whnf) (by decide) rfl (fun _ _ _ _ _ => rfl) (by decide) (by decide) ?_
  walk_at "go"
  refine CallV.len_keysG ?_
  walk_at "go"
  refine CallV.room (d' := d + 1) (sp_draw hp (by decide) (by decide) fun H' r a' c' h0 h1 hp' s' => ?_) (by (first | (simp +arith only; done) | lia | omega))
  have h5 : r < 5 := h1
  obtain ⟨j, hj⟩ : ∃ j : Fin 5, (keysL.map AV.str)[r.toNat]? = some (.str (kyS j)) := by
    have : ∀ j : Fin 5, (keysL.map AV.str)[j.val]? = some (.str (kyS j)) := fun j => by
      rw [List.getElem?_map, (by decide +kernel : ∀ j : Fin 5, keysL[j.val]? = some (kyS j)) j]; rfl
    exact ⟨⟨r.toNat, by (first | (simp +arith only; done) | lia | omega)⟩, this ⟨r.toNat, by (first | (simp +arith only; done) | lia | omega)⟩⟩
  refine SubT.keysG h0 hj ?_ (by (first | (simp +arith only; done) | lia | omega))
  exact q H' j a' c' hp' s'

/-- what _law_block tells -/
noncomputable def BldI (p D : Addr) (F0 Fb : AH) (deep k i : Nat) (H3 : AH) : Prop :=
  ∃ us ts, ∃ a c : Int, ∃ k' : Nat, H3 p = some (.arr [.int a, .int c, .int k']) ∧ H3 D = some (.list us) ∧ Sub Fb (fz (own1 p) H3) ∧ RTs (dif (fz (own1 p) H3) F0) ts us ∧ ts.length ≤ i ∧ deps ts ≤ deep ∧ woks ts ∧ k + cnts ts ≤ k' ∧ k' ≤ 24


noncomputable def BSpec (ad : Ads) (w : World) (deep : Nat) : Prop := ∀ (d : Nat) (sc : Scope) (loc : Loc) (H : AH) (p : Addr) (a c : Int) (k : Nat) (Q : AV → AH → Prop), GH ad (fz (own1 p) H) → H p = some (.arr [.int a, .int c, .int k]) → k ≤ 24 →
    (∀ H' y ts, ∀ a' c' : Int, ∀ k' : Nat, H' p = some (.arr [.int a', .int c', .int k']) → Sub (fz (own1 p) H) (fz (own1 p) H') → BlkR ts y (dif (fz (own1 p) H') (fz (own1 p) H)) → ts.length ≤ 4 → deps ts ≤ deep → woks ts → k + cnts ts ≤ k' → k' ≤ 24 → Q y H') →
    CallV ad w sc (d + deep + 4) (.ref (ad.fn 48)) [.ref p, .int deep] loc H Q

theorem SX.seq {st : Stmt} {rest : List Stmt} {Q : AF → Loc → AH → Prop} (P : Loc → AH → Prop) (h : SX ad w sc d (exec st) loc H (fun f l H1 => f = .next ∧ P l H1)) (k : ∀ l H1, P l H1 → SX ad w sc d (execs rest) l H1 Q) : SX ad w sc d (execs (st :: rest)) loc H Q :=
  SX.cons (h.mono fun f l H1 ⟨e, p⟩ => by subst e; exact k l H1 p)

/-- what stands when a statement is told -/
structure BCur (p D : Addr) (F0 Fb : AH) (deep k i : Nat) (H3 : AH) (us : List AV) (ts : List Tr) (a c : Int) (k' : Nat) : Prop where
  hp : H3 p = some (.arr [.int a, .int c, .int k'])
  hD : H3 D = some (.list us)
  sub : Sub Fb (fz (own1 p) H3)
  rt : RTs (dif (fz (own1 p) H3) F0) ts us
  ln : ts.length ≤ i
  dp : deps ts ≤ deep
  wk : woks ts
  ct : k + cnts ts ≤ k'
  top : k' ≤ 24
  dm : ∀ y, fz (own1 p) H3 y = none → F0 y = none
theorem BCur.step {p D : Addr} {F0 Fb : AH} {deep k i : Nat} {H3 H4 : AH} {us : List AV} {ts : List Tr} {a c a' c' : Int} {k' k4 : Nat} (B : BCur p D F0 Fb deep k i H3 us ts a c k') (hDp : D ≠ p) (s : Sub (fz (own1 p) H3) (fz (own1 p) H4)) (hp : H4 p = some (.arr [.int a', .int c', .int k4])) (hk : k' ≤ k4) (ht : k4 ≤ 24) : BCur p D F0 Fb deep k i H4 us ts a' c' k4 :=
  ⟨hp, (fz_some (s _ _ (fz1_of B.hD hDp))).1, B.sub.trans s, RTs.mono (dif_mono .refl s) _ _ B.rt, B.ln, B.dp, B.wk, Nat.le_trans B.ct hk, ht, fun y hy => B.dm y (none_of_sub s hy)⟩
theorem BCur.new {p D : Addr} {F0 Fb : AH} {deep k i : Nat} {H3 : AH} {us : List AV} {ts : List Tr} {a c : Int} {k' : Nat} {n : Addr} {o : AO} (B : BCur p D F0 Fb deep k i H3 us ts a c k') (hDp : D ≠ p) (hn : H3 n = none) : BCur p D F0 Fb deep k i (AH.put H3 n o) us ts a c k' :=
  B.step hDp (.new hn) (by rw [put_ne]; exact B.hp; intro z; subst z; rw [B.hp] at hn; exact snE hn) (Nat.le_refl _) B.top
/-- a statement more -/
theorem BCur.app {p D : Addr} {F0 Fb : AH} {deep k i : Nat} {H3 : AH} {us : List AV} {ts : List Tr} {a c : Int} {k' : Nat} {t : Tr} {x : AV} (B : BCur p D F0 Fb deep k i H3 us ts a c k') (hDp : D ≠ p) (F0D : F0 D ≠ none) (FbD : Fb D = none) (hx : RT (dif (fz (own1 p) H3) F0) t x) (hd : dep t ≤ deep) (hw : wok t) (hc : k + cnts ts + cnt t ≤ k') :
    BCur p D F0 Fb deep k (i + 1) (AH.put H3 D (.list (us ++ [x]))) (us ++ [x]) (ts ++ [t]) a c k' := by
  have df : Sub (dif (fz (own1 p) H3) F0) (dif (fz (own1 p) (AH.put H3 D (.list (us ++ [x])))) F0) := fun y o hy => by
    refine el0_2 (dif_some hy) ?_
    intro h1 h2
    refine el0_2 (fz_some h1) ?_
    intro h3 h4
    exact dif_of (fz_of (by rw [put_ne]; exact h3; intro z; subst z; exact F0D h2) h4) h2
  refine ⟨by rw [put_ne (Ne.symm hDp)]; exact B.hp, put_same, fun y o hy => ?_, (RTs.mono df _ _ B.rt).snoc (RT.mono df _ _ hx), by rw [List.length_append]; have := B.ln; simp; (first | (simp +arith only; done) | lia | omega), by rw [deps_snoc]; have := B.dp; (first | (simp +arith only; done) | lia | omega), woks_snoc hw B.wk, by rw [cnts_snoc]; (first | (simp +arith only; done) | lia | omega), B.top, fun y hy => ?_⟩
  · refine el0_2 (fz_some (B.sub _ _ hy)) ?_
    intro h1 h2
    exact fz_of (by rw [put_ne]; exact h1; intro z; subst z; rw [FbD] at hy; exact nsE hy) h2
  · have ne : y ≠ D := fun z => by subst z; rw [fz1_of put_same hDp] at hy; exact snE hy
    refine B.dm y ?_
    unfold fz at hy ⊢; rw [put_ne ne] at hy; exact hy
theorem BCur.tup {p D : Addr} {F0 Fb : AH} {deep k i : Nat} {H3 : AH} {us : List AV} {ts : List Tr} {a c : Int} {k' : Nat} {n : Addr} {o : AO} (B : BCur p D F0 Fb deep k i H3 us ts a c k') (hn : H3 n = none) : dif (fz (own1 p) (AH.put H3 n o)) F0 n = some o :=
  dif_of (fz_new (own1_lab B.hp) hn) (B.dm n (fz_none hn))

theorem block_step (deep : Nat) (rec : ∀ n, deep = n + 1 → BSpec ad w n) : BSpec ad w deep := by
  intro d sc loc H p a c k Q g hp hk q
  refine CallV.fn2 (by conv => lhs; whnf) (by decide) rfl (fun _ _ _ _ _ => rfl) (by decide) (by decide) ?_
  walk_at "go"
  refine ⟨Nat.le_of_ble_eq_true rfl, fun D hD => ?_⟩
  walk_at "go"
  have hDp : D ≠ p := fun z => by rw [z, hp] at hD; exact snE hD
  have hp1 : AH.put H D (.list []) p = some (.arr [.int a, .int c, .int k]) := by rw [put_ne (Ne.symm hDp)]; exact hp
  have s1 : Sub (fz (own1 p) H) (fz (own1 p) (AH.put H D (.list []))) := .new hD
  have D1 : fz (own1 p) (AH.put H D (.list [])) D = some (.list []) := fz1_of put_same hDp
  have hFD : fz (own1 p) H D = none := fz_none hD
  have F0D : ∀ y, y ≠ D → fz (own1 p) (AH.put H D (.list [])) y = fz (own1 p) H y := fun y hy => by unfold fz; rw [put_ne hy]
  generalize AH.put H D (.list []) = H1 at hp1 s1 D1 F0D
  have F0n : fz (own1 p) H1 D ≠ none := by rw [D1]; exact nofun
  have hdom : ∀ (H3 : AH) (us : List AV), Sub (fz (own1 p) H) (fz (own1 p) H3) → H3 D = some (.list us) → ∀ y, fz (own1 p) H3 y = none → fz (own1 p) H1 y = none := fun H3 us s3 h3 y hy => by
    have : y ≠ D := fun z => by subst z; rw [fz1_of h3 hDp] at hy; exact snE hy
    rw [F0D y this]; exact none_of_sub s3 hy
  refine SX.mono (Q := fun f l H3 => f = .next ∧ l "found" = some (.ref D) ∧ ∃ us ts a c k', BCur p D (fz (own1 p) H1) (fz (own1 p) H) deep k 4 H3 us ts a c k') ?_ ?_
  · refine SX.for_range' ?_
    walk_at "go"
    refine CallV.room (d' := (d + deep + 2) + 1) (sp_draw hp1 (by decide) (by decide) fun H2 r a2 c2 h0 h4 hp2 s2 => ?_) (by (first | (simp +arith only; done) | lia | omega))
    walk_at "go"
    have hr : (1 : Int) + r = (((1 + r).toNat : Nat) : Int) := by (first | (simp +arith only; done) | lia | omega)
    rw [hr]
    have B2 : BCur p D (fz (own1 p) H1) (fz (own1 p) H) deep k 0 H2 [] [] a2 c2 k := ⟨hp2, (fz_some (s2 _ _ D1)).1, s1.trans s2, by simp only [RTs], Nat.le_refl _, Nat.zero_le _, trivial, Nat.le_refl _, hk, hdom _ _ (s1.trans s2) (fz_some (s2 _ _ D1)).1⟩
    refine CallV.range fun rg hrg => ?_
    refine ⟨rg, (1 + r).toNat, fun i l H3 => l "pen" = some (.ref p) ∧ l "deep" = some (.int deep) ∧ l "found" = some (.ref D) ∧ ∃ us ts a c k', BCur p D (fz (own1 p) H1) (fz (own1 p) H) deep k i H3 us ts a c k', rfl, put_same, by (first | (simp +arith only; done) | lia | omega), ⟨rfl, rfl, rfl, _, _, _, _, _, B2.new hDp hrg⟩, ?_, ?_⟩
    · rintro i l H3 N hi hI0 hN
      refine hide fun PZ kZ => ?_
      obtain ⟨l1, l2, l3, us, ts, a3, c3, k3, B⟩ := hI0
      refine kZ ?_
      clear kZ PZ
      refine AT.name (by rfl) ?_
      walk_at "go"
      refine SubT.arr B.hp (by decide) (x := .int k3) rfl ?_ (by decide)
      walk_at "go"
      refine Cmp.eq_int ?_
      refine ⟨fun z => ?_, fun z => ?_⟩
      · walk_at "go"
        exact hN.br _ _ ⟨rfl, l3, us, ts, a3, c3, k3, ⟨B.hp, B.hD, B.sub, B.rt, by have := B.ln; (first | (simp +arith only; done) | lia | omega), B.dp, B.wk, B.ct, B.top, B.dm⟩⟩
      · have hk3 : k3 ≠ 24 := fun z' => by subst z'; simp at z
        walk_at "go"
        refine GetT.arr B.hp (by decide) (x := .int k3) rfl ?_ (by decide)
        walk_at "go"
        refine SetT.arr B.hp (by decide) (by simp) ?_ (by decide)
        have B4 : BCur p D (fz (own1 p) H1) (fz (own1 p) H) deep k i (AH.put H3 p (.arr [.int a3, .int c3, .int ((k3 + 1 : Nat) : Int)])) us ts a3 c3 (k3 + 1) := B.step hDp (.put own1_self) put_same (by (first | (simp +arith only; done) | lia | omega)) (by have := B.top; (first | (simp +arith only; done) | lia | omega))
        have hk4 : k + cnts ts + 1 ≤ k3 + 1 := by have := B.ct; (first | (simp +arith only; done) | lia | omega)
        try with_reducible refine Nx.next ?_
        show SX ad w (fnScope 48) _ _ _ (AH.put H3 p (.arr [.int a3, .int c3, .int ((k3 + 1 : Nat) : Int)])) _
        generalize AH.put H3 p (.arr [.int a3, .int c3, .int ((k3 + 1 : Nat) : Int)]) = H4 at B4
        refine SX.seq (fun l' H5 => ∃ way a5 c5, l' = Loc.set (Loc.set l "turn" (.int i)) "way" (.int way) ∧ 0 ≤ way ∧ way < 7 ∧ (deep = 0 → way < 4) ∧ H5 p = some (.arr [.int a5, .int c5, .int ((k3 + 1 : Nat) : Int)]) ∧ Sub (fz (own1 p) H4) (fz (own1 p) H5)) ?_ ?_
        · walk_at "go"
          refine Cmp.gt_int ?_
          refine ⟨fun hd => ?_, fun hd => ?_⟩
          · walk_at "go"
            refine CallV.room (d' := (d + deep + 2) + 1) (sp_draw B4.hp (by decide) (by decide) fun H5 way a5 c5 h5 h6 hp5 s5 => ?_) (by (first | (simp +arith only; done) | lia | omega))
            walk_at "go"
            exact ⟨rfl, way, a5, c5, rfl, h5, h6, fun z => absurd hd (by rw [z]; decide), hp5, s5⟩
          · walk_at "go"
            refine CallV.room (d' := (d + deep + 2) + 1) (sp_draw B4.hp (by decide) (by decide) fun H5 way a5 c5 h5 h6 hp5 s5 => ?_) (by (first | (simp +arith only; done) | lia | omega))
            walk_at "go"
            exact ⟨rfl, way, a5, c5, rfl, h5, Int.lt_trans h6 (by decide), fun _ => h6, hp5, s5⟩
        · rintro l' H5 hI0 
          refine el3_6 hI0 ?_
          try clear hI0
          intro way a5 c5 hE1 h5 h6 hr4 hp5 s5
          obtain rfl := hE1
          have B5 := B4.step hDp s5 hp5 (Nat.le_refl _) B4.top
          have g5 := (g.mono B5.sub).up
          walk_at "go"
          refine CallV.room (d' := (d + deep + 1) + 2) (sp_pick g5 hp5 fun H6 j a6 c6 hp6 s6 => ?_) (by (first | (simp +arith only; done) | lia | omega))
          have B6 := B5.step hDp s6 hp6 (Nat.le_refl _) B5.top
          walk_at "go"
          refine Cmp.eq_int ?_
          refine ⟨fun hw0 => ?_, fun hw0 => ?_⟩
          · walk_at "go"
            refine SubT.str (by decide) (by rw [ky_len]; decide) ?_ (by rw [ky_len]; decide)
            walk_at "go"
            refine SliceT.str_from (by rw [ky_len]; decide) ?_
            rw [ky_sg, ky_nm]
            walk_at "go"
            refine ⟨Nat.le_of_ble_eq_true rfl, fun n1 hn1 => ?_⟩
            have f1 := B6.tup (o := .tup [.str "my", .str (sgS j), .str (nmS j)]) hn1
            have B7 := B6.new (o := .tup [.str "my", .str (sgS j), .str (nmS j)]) hDp hn1
            walk_at "go"
            refine in1_2 _ (GetM.append B7.hD) ?_
            walk_at "go"
            refine ⟨Nat.le_of_ble_eq_true rfl, fun n2 hn2 => ?_⟩
            have f2 := B7.tup (o := .tup [.str "expr", .int 1, .ref n1]) hn2
            have f1' := dif_mono .refl (Sub.new (own := own1 p) (o := .tup [.str "expr", .int 1, .ref n1]) hn2) _ _ f1
            have B8 := B7.new (o := .tup [.str "expr", .int 1, .ref n1]) hDp hn2
            walk_at "go"
            refine CallV.append B8.hD (by have := RTs.get B8.rt; have := B8.ln; (first | (simp +arith only; done) | lia | omega)) ?_
            walk_at "go"
            exact hN.nx _ _ ⟨l1, l2, l3, _, _, _, _, _, B8.app hDp F0n hFD (t := .my j) (x := .ref n2) (by simp only [RT]; exact ⟨n2, n1, rfl, f2, f1'⟩) (Nat.zero_le _) trivial (by simp only [cnt]; exact hk4)⟩
          · walk_at "go"
            refine Cmp.lt_int ?_
            refine ⟨fun hw4 => ?_, fun hw4 => ?_⟩
            · walk_at "go"
              refine CallV.room (d' := (d + deep + 1) + 2) (sp_pick (g.mono B6.sub).up hp6 fun H7 j2 a7 c7 hp7 s7 => ?_) (by (first | (simp +arith only; done) | lia | omega))
              have B7 := B6.step hDp s7 hp7 (Nat.le_refl _) B6.top
              walk_at "go"
              refine SubT.str (by decide) (by rw [ky_len]; decide) ?_ (by rw [ky_len]; decide)
              walk_at "go"
              refine SliceT.str_from (by rw [ky_len]; decide) ?_
              rw [ky_sg, ky_nm]
              walk_at "go"
              refine ⟨Nat.le_of_ble_eq_true rfl, fun n1 hn1 => ?_⟩
              have f1 := B7.tup (o := .tup [.str "name", .str (sgS j), .str (nmS j)]) hn1
              have B8 := B7.new (o := .tup [.str "name", .str (sgS j), .str (nmS j)]) hDp hn1
              walk_at "go"
              refine SubT.str (by decide) (by rw [ky_len]; decide) ?_ (by rw [ky_len]; decide)
              walk_at "go"
              refine SliceT.str_from (by rw [ky_len]; decide) ?_
              rw [ky_sg, ky_nm]
              walk_at "go"
              refine ⟨Nat.le_of_ble_eq_true rfl, fun n2 hn2 => ?_⟩
              have f2 := B8.tup (o := .tup [.str "name", .str (sgS j2), .str (nmS j2)]) hn2
              have s8 := dif_mono (F0 := fz (own1 p) H1) .refl (Sub.new (own := own1 p) (o := .tup [.str "name", .str (sgS j2), .str (nmS j2)]) hn2)
              have B9 := B8.new (o := .tup [.str "name", .str (sgS j2), .str (nmS j2)]) hDp hn2
              walk_at "go"
              refine ⟨Nat.le_of_ble_eq_true rfl, fun n3 hn3 => ?_⟩
              have f3 := B9.tup (o := .list [.ref n1, .ref n2]) hn3
              have s9 := dif_mono (F0 := fz (own1 p) H1) .refl (Sub.new (own := own1 p) (o := .list [.ref n1, .ref n2]) hn3)
              have B10 := B9.new (o := .list [.ref n1, .ref n2]) hDp hn3
              walk_at "go"
              refine ⟨Nat.le_of_ble_eq_true rfl, fun n4 hn4 => ?_⟩
              have f4 := B10.tup (o := .tup [.str "list", .ref n3]) hn4
              have s10 := dif_mono (F0 := fz (own1 p) H1) .refl (Sub.new (own := own1 p) (o := .tup [.str "list", .ref n3]) hn4)
              have B11 := B10.new (o := .tup [.str "list", .ref n3]) hDp hn4
              walk_at "go"
              refine in1_2 _ (GetM.append B11.hD) ?_
              walk_at "go"
              refine ⟨Nat.le_of_ble_eq_true rfl, fun n5 hn5 => ?_⟩
              have f5 := B11.tup (o := .tup [.str "expr", .int 1, .ref n4]) hn5
              have s11 := dif_mono (F0 := fz (own1 p) H1) .refl (Sub.new (own := own1 p) (o := .tup [.str "expr", .int 1, .ref n4]) hn5)
              have B12 := B11.new (o := .tup [.str "expr", .int 1, .ref n4]) hDp hn5
              walk_at "go"
              refine CallV.append B12.hD (by have := RTs.get B12.rt; have := B12.ln; (first | (simp +arith only; done) | lia | omega)) ?_
              walk_at "go"
              exact hN.nx _ _ ⟨l1, l2, l3, _, _, _, _, _, B12.app hDp F0n hFD (t := .use j j2) (x := .ref n5) (by
                simp only [RT]
                exact ⟨n5, n4, n3, n1, n2, rfl, f5, s11 _ _ f4, s11 _ _ (s10 _ _ f3), s11 _ _ (s10 _ _ (s9 _ _ (s8 _ _ f1))), s11 _ _ (s10 _ _ (s9 _ _ f2))⟩) (Nat.zero_le _) trivial (by simp only [cnt]; exact hk4)⟩
            · have hw4' : 4 ≤ way := by simpa using hw4
              obtain ⟨m, hm⟩ : ∃ m, deep = m + 1 := by
                cases deep with
                | zero => have := hr4 rfl; (first | (simp +arith only; done) | lia | omega)
                | succ m => exact ⟨m, rfl⟩
              have em : ((deep : Nat) : Int) - 1 = (m : Nat) := by (first | (simp +arith only; done) | lia | omega)
              walk_at "go"
              refine Cmp.lt_int ?_
              refine ⟨fun hw6 => ?_, fun hw6 => ?_⟩
              · walk_at "go"
                rw [em]
                refine CallV.room (rec m hm d _ _ H6 p a6 c6 (k3 + 1) _ (g.mono B6.sub) hp6 B6.top fun H7 y ts2 a7 c7 k7 hp7 s7 hy hl7 hd7 hw7 hc7 ht7 => ?_) (by (first | (simp +arith only; done) | lia | omega))
                refine el3_4 hy ?_
                try clear hy
                intro bl ll vs hE1 y1 y2 y3
                obtain rfl := hE1
                have dm := dif_mono' (F := fz (own1 p) H7) B6.dm .refl
                have B7 := B6.step hDp s7 hp7 (by (first | (simp +arith only; done) | lia | omega)) ht7
                walk_at "go"
                refine ⟨Nat.le_of_ble_eq_true rfl, fun n1 hn1 => ?_⟩
                have s8 := dif_mono (F0 := fz (own1 p) H1) .refl (Sub.new (own := own1 p) (o := .list []) hn1)
                have B8 := B7.new (o := .list []) hDp hn1
                walk_at "go"
                refine ⟨Nat.le_of_ble_eq_true rfl, fun n2 hn2 => ?_⟩
                have f9 := B8.tup (o := .tup [.str "subdef", .str "", .ref bl, .int 0, .ref n1]) hn2
                have s9 := dif_mono (F0 := fz (own1 p) H1) .refl (Sub.new (own := own1 p) (o := .tup [.str "subdef", .str "", .ref bl, .int 0, .ref n1]) hn2)
                have B9 := B8.new (o := .tup [.str "subdef", .str "", .ref bl, .int 0, .ref n1]) hDp hn2
                walk_at "go"
                refine ⟨Nat.le_of_ble_eq_true rfl, fun n3 hn3 => ?_⟩
                have f10 := B9.tup (o := .tup [.str "anonsub", .ref n2]) hn3
                have s10 := dif_mono (F0 := fz (own1 p) H1) .refl (Sub.new (own := own1 p) (o := .tup [.str "anonsub", .ref n2]) hn3)
                have B10 := B9.new (o := .tup [.str "anonsub", .ref n2]) hDp hn3
                walk_at "go"
                refine in1_2 _ (GetM.append B10.hD) ?_
                walk_at "go"
                refine ⟨Nat.le_of_ble_eq_true rfl, fun n4 hn4 => ?_⟩
                have f11 := B10.tup (o := .tup [.str "expr", .int 1, .ref n3]) hn4
                have s11 := dif_mono (F0 := fz (own1 p) H1) .refl (Sub.new (own := own1 p) (o := .tup [.str "expr", .int 1, .ref n3]) hn4)
                have B11 := B10.new (o := .tup [.str "expr", .int 1, .ref n3]) hDp hn4
                walk_at "go"
                refine CallV.append B11.hD (by have := RTs.get B11.rt; have := B11.ln; (first | (simp +arith only; done) | lia | omega)) ?_
                walk_at "go"
                have sA := ((s8.trans s9).trans s10).trans s11
                exact hN.nx _ _ ⟨l1, l2, l3, _, _, _, _, _, B11.app hDp F0n hFD (t := .anon ts2) (x := .ref n4) (by
                  simp only [RT]
                  exact ⟨n4, n3, n2, bl, n1, ll, vs, rfl, f11, s11 _ _ f10, s11 _ _ (s10 _ _ f9), sA _ _ (dm _ _ y1), sA _ _ (dm _ _ y2), RTs.mono (dm.trans sA) _ _ y3⟩) (by simp only [dep]; (first | (simp +arith only; done) | lia | omega)) (by simp only [wok]; exact ⟨by (first | (simp +arith only; done) | lia | omega), hw7⟩) (by simp only [cnt]; (first | (simp +arith only; done) | lia | omega))⟩
              · walk_at "go"
                refine in1_2 _ (GetM.append B6.hD) ?_
                walk_at "go"
                rw [em]
                refine CallV.room (rec m hm d _ _ H6 p a6 c6 (k3 + 1) _ (g.mono B6.sub) hp6 B6.top fun H7 y ts2 a7 c7 k7 hp7 s7 hy hl7 hd7 hw7 hc7 ht7 => ?_) (by (first | (simp +arith only; done) | lia | omega))
                refine el3_4 hy ?_
                try clear hy
                intro bl ll vs hE1 y1 y2 y3
                obtain rfl := hE1
                have dm := dif_mono' (F := fz (own1 p) H7) B6.dm .refl
                have B7 := B6.step hDp s7 hp7 (by (first | (simp +arith only; done) | lia | omega)) ht7
                walk_at "go"
                refine ⟨Nat.le_of_ble_eq_true rfl, fun n1 hn1 => ?_⟩
                have f8 := B7.tup (o := .tup [.str "bare", .str "", .ref bl]) hn1
                have s8 := dif_mono (F0 := fz (own1 p) H1) .refl (Sub.new (own := own1 p) (o := .tup [.str "bare", .str "", .ref bl]) hn1)
                have B8 := B7.new (o := .tup [.str "bare", .str "", .ref bl]) hDp hn1
                walk_at "go"
                refine CallV.append B8.hD (by have := RTs.get B8.rt; have := B8.ln; (first | (simp +arith only; done) | lia | omega)) ?_
                walk_at "go"
                exact hN.co _ _ ⟨l1, l2, l3, _, _, _, _, _, B8.app hDp F0n hFD (t := .bare ts2) (x := .ref n1) (by
                  simp only [RT]
                  exact ⟨n1, bl, ll, vs, rfl, f8, s8 _ _ (dm _ _ y1), s8 _ _ (dm _ _ y2), RTs.mono (dm.trans s8) _ _ y3⟩) (by simp only [dep]; (first | (simp +arith only; done) | lia | omega)) (by simp only [wok]; exact ⟨by (first | (simp +arith only; done) | lia | omega), hw7⟩) (by simp only [cnt]; (first | (simp +arith only; done) | lia | omega))⟩
    · rintro l H3 hI0 
      refine hide fun PZ kZ => ?_
      obtain ⟨l1, l2, l3, us, ts, a3, c3, k3, B⟩ := hI0
      refine kZ ?_
      clear kZ PZ
      exact ⟨rfl, l3, us, ts, a3, c3, k3, ⟨B.hp, B.hD, B.sub, B.rt, by have := B.ln; (first | (simp +arith only; done) | lia | omega), B.dp, B.wk, B.ct, B.top, B.dm⟩⟩
  · rintro f l H3 hI0 
    refine hide fun PZ kZ => ?_
    obtain ⟨hE1, hf, us, ts, a3, c3, k3, B⟩ := hI0
    refine kZ ?_
    clear kZ PZ
    obtain rfl := hE1
    walk_at "go"
    refine ⟨Nat.le_of_ble_eq_true rfl, fun n hn => ?_⟩
    walk_at "go"
    have Bn := B.new (o := .tup [.str "block", .ref D]) hDp hn
    refine q _ (.ref n) ts _ _ _ Bn.hp Bn.sub ⟨n, D, us, rfl, dif_new B.sub (own1_lab B.hp) hn, dif_of (fz1_of Bn.hD hDp) hFD, RTs.mono (dif_mono' (fun y hy => none_of_sub s1 hy) .refl) _ _ Bn.rt⟩ B.ln B.dp B.wk B.ct B.top

theorem sp_block : ∀ (deep : Nat), BSpec ad w deep
  | 0 => block_step 0 fun n h => by (first | (simp +arith only; done) | lia | omega)
  | n + 1 => block_step (n + 1) fun m h => by
    have : m = n := by (first | (simp +arith only; done) | lia | omega)
    subst this; exact sp_block m
end

section
variable {ad : Ads} {w : World} {sc : Scope} {d : Nat} {loc : Loc} {H : AH}

theorem merged3 {a b c : Str} {x y z : Value} (h1 : a ≠ b) (h2 : a ≠ c) (h3 : b ≠ c) : merged [] [(a, x), (b, y), (c, z)] = [(a, x), (b, y), (c, z)] := by
  simp [merged, stored, h1, h2, h3]

theorem EV.dict3 {a b c : Str} {x y z : Expr} {k1 k2 k3 : Nat} {p1 p2 p3 pos : Pos} {Q : AV → AH → Prop} (e1 : a ≠ b) (e2 : a ≠ c) (e3 : b ≠ c)
    (h : EV ad w sc d absV (eval x) loc H (fun v1 H1 => EV ad w sc d absV (eval y) loc H1 (fun v2 H2 => EV ad w sc d absV (eval z) loc H2 (fun v3 H3 => ∀ n, H3 n = none → Q (.ref n) (AH.put H3 n (.dict [(a, v1), (b, v2), (c, v3)])))))) :
    EV ad w sc d absV (eval (.Dict [some (.Constant (.str a) k1 p1), some (.Constant (.str b) k2 p2), some (.Constant (.str c) k3 p3)] [x, y, z] pos)) loc H Q := by
  intro A B env s r g e R
  have st : ∀ v : Sem Value, ∀ {K : Value → Shared → Prop} {s : Shared}, wpAny (model prog w) A v K (fun _ _ => False) s → wpAny (model prog w) A (do let x ← v; standAt pos; pure x) K (fun _ _ => False) s := fun v K s h =>
    wpAny_bind (wpAny_mono h (fun _ _ q => wpAny_bind (wpAny_standAt (wpAny_pure q))) fun _ _ z => z)
  refine wpAny_Dict_pairs (knd := sk w) (pairs := [(eval (.Constant (.str a) k1 p1) env, do let v ← eval x env; standAt pos; pure v), (eval (.Constant (.str b) k2 p2) env, do let v ← eval y env; standAt pos; pure v), (eval (.Constant (.str c) k3 p3) env, do let v ← eval z env; standAt pos; pure v)]) rfl (by simp) (by simp) ?_
  refine el0_2 (guard_iter R { cls := .type "dict", data := .dict #[] } rfl (fun v q => by cases q)) ?_
  intro gw R0
  have hD : (s.heap.push { cls := .type "dict", data := .dict #[] }).get? s.heap.objs.size = some { cls := .type "dict", data := .dict #[] } := Heap.get?_push_size _ rfl
  have offD := R.off (Nat.le_refl s.heap.objs.size)
  generalize hn : s.heap.objs.size = n at gw R0 hD offD ⊢
  generalize s.heap.push { cls := .type "dict", data := .dict #[] } = h0 at gw R0 hD
  have g' := gd_gx (h := h0) g gw.b
  have step : ∀ {H : AH} {key : Str} {kk : Nat} {pk : Pos} {e0 : Expr} {rest : List (Sem Value × Sem Value)} {P : AV → AH → Prop} {K : List (Value × Value) → Shared → Prop} {h1 : Heap} {t1 : Nat}, EV ad w sc d absV (eval e0) loc H P → Rep w (gd B [n] h0) env h1 loc H →
      (∀ tk v h2 t2 H2, Rep w (gd B [n] h0) env h2 loc H2 → P (absV v) H2 → wpAny (model prog w) A (evalPairs rest) (fun vs s' => K ((.str key tk, v) :: vs) s') (fun _ _ => False) { s with heap := h2, toks := t2 }) →
      wpAny (model prog w) A (evalPairs ((eval (.Constant (.str key) kk pk) env, (do let v ← eval e0 env; standAt pos; pure v)) :: rest)) K (fun _ _ => False) { s with heap := h1, toks := t1 } := by
    intro H key kk pk e0 rest P K h1 t1 he R1 k
    show wpAny _ _ (eval (.Constant (.str key) kk pk) env >>= fun kv => holding [kv] (do let v ← eval e0 env; standAt pos; pure v) >>= fun vv => holding [kv, vv] (evalPairs rest) >>= fun r => pure ((kv, vv) :: r)) _ _ _
    refine wpAny_bind (Calls.Constant_str (wpAny_bind (wpAny_holding (wpAny_bind (he.then r g' e R1 fun v h2 t2 H2 R2 q2 => wpAny_bind (wpAny_standAt (wpAny_pure (wpAny_bind (wpAny_holding ?_)))))))))
    exact wpAny_mono (k _ v h2 t2 H2 R2 q2) (fun vs s' z => wpAny_pure z) fun _ _ z => z
  refine step h R0 fun ta va h2 t2 H2 R2 q2 => step q2 R2 fun tb vb h3 t3 H3 R3 q3 => step q3 R3 fun tc vc h4 t4 H4 R4 q4 => ?_
  refine wpAny_pure ⟨[(a, va), (b, vb), (c, vc)], ⟨strKind_is prog w a ta, rfl, strKind_is prog w b tb, rfl, strKind_is prog w c tc, rfl, trivial⟩, ?_, fun h' hd' sb => ?_⟩
  · have := R4.gd_get (.head _) hD
    exact in3_6 _ (#[]) (0) this (⟨rfl, rfl, rfl⟩) rfl (fun e he => by simp at he) (.nil) (.nil)
  · rw [merged3 e1 e2 e3] at hd'
    have off4 : Off B env H4 n := R4.gd_off gw.b gw.s gw.c n (.head _)
    refine in3_3 h' _ (AH.put H4 n (.dict [(a, absV va), (b, absV vb), (c, absV vc)])) rfl (((R4.gd_out gw.b).other off4 sb).adopt off4 ⟨_, hd', rfl⟩) (q4 n off4.h)
end


/-! ## the walker, pure -/
inductive Tg where
  | int (i : Int)
  | str (s : Str)
noncomputable def Tg.av : Tg → AV
  | .int i => .int i
  | .str s => .str s
noncomputable abbrev WE := List (Fin 5 × Tg)
noncomputable def eget : WE → Fin 5 → Option Tg
  | [], _ => none
  | (x, v) :: r, k => if x = k then some v else eget r k
noncomputable def eput : WE → Fin 5 → Tg → WE
  | [], k, v => [(k, v)]
  | (x, u) :: r, k, v => if x = k then (x, v) :: r else (x, u) :: eput r k v
noncomputable def eAV (b : WE) : List (Str × AV) := b.map fun p => (kyS p.1, p.2.av)
theorem eAV_get (k : Fin 5) : ∀ b : WE, kvGet (eAV b) (kyS k) = (eget b k).map Tg.av
  | [] => rfl
  | (x, v) :: r => by
    have ih := eAV_get k r
    unfold eAV at ih ⊢
    simp only [List.map_cons, kvGet, eget]
    by_cases h : x = k
    · subst h; simp
    · rw [if_neg h, if_neg fun z => h (kyS_inj _ _ z)]; exact ih
theorem eAV_put (k : Fin 5) (p : Tg) : ∀ b : WE, kvPut (eAV b) (kyS k) p.av = eAV (eput b k p)
  | [] => rfl
  | (x, v) :: r => by
    have ih := eAV_put k p r
    unfold eAV at ih ⊢
    simp only [List.map_cons, kvPut, eput]
    by_cases h : x = k
    · subst h; simp
    · rw [if_neg h, if_neg fun z => h (kyS_inj _ _ z), List.map_cons, ih]

structure WS where
  mys : List (Nat × Nat)
  uses : List (Nat × Nat × Int × Fin 5)
  subs : List (Int × List (Nat × Nat × Fin 5) × Nat)

noncomputable def wUse (e : WE) (s : WS) (sub : Nat) (k : Fin 5) (p : Option Pl) : Option WS :=
  match (eget e k).getD (.str (wholeOf k)), p with
  | .str t, none => if t = wholeOf k then some s else none
  | .str t, some (.whole x) => if t = x ∧ PyData.strOk t = true then some s else none
  | .int i, some (.slot n) => some { s with uses := s.uses ++ [(sub, n, i, k)] }
  | _, _ => none

mutual
noncomputable def wStmt : Tr → Dn → WE → WS → Nat → Option (WE × WS)
  | .my k, .my k' n, e, s, sub => if k = k' then some (eput e k (.int s.mys.length), { s with mys := s.mys ++ [(sub, n)] }) else none
  | .use k1 k2, .use k1' p1 k2' p2, e, s, sub => if k1 = k1' ∧ k2 = k2' then (wUse e s sub k1 p1).bind fun s1 => (wUse e s1 sub k2 p2).map fun s2 => (e, s2) else none
  | .anon b, .anon ds size caps, e, s, sub => (wStmts b ds e { s with subs := s.subs ++ [((sub : Int), caps, size)] } s.subs.length).map fun r => (e, r.2)
  | .bare b, .bare ds, e, s, sub => (wStmts b ds e s sub).map fun r => (e, r.2)
  | _, _, _, _, _ => none
noncomputable def wStmts : List Tr → List Dn → WE → WS → Nat → Option (WE × WS)
  | [], [], e, s, _ => some (e, s)
  | t :: ts, d :: ds, e, s, sub => (wStmt t d e s sub).bind fun r => wStmts ts ds r.1 r.2 sub
  | _, _, _, _, _ => none
end

noncomputable def endsD : List (Str × AV) := [("$", .str "s"), ("@", .str "a"), ("%", .str "h")]
section
variable {ad : Ads} {w : World} {sc : Scope} {d : Nat} {loc : Loc} {H : AH}
theorem CallV.fn0 {i : Nat} {b : List Stmt} {Q : AV → AH → Prop} (e : fnBody i = b) (hi : i ∈ fnList) (hk : (pnames (fnParams i)).length = 0)
    (hb : ∀ pm cd doc, bindArgs (Calls.docDef (fnName i) (fnParams i) (fnBody i) (fnScope i) pm cd doc) ⟨[], []⟩ = pure ((pnames (fnParams i)).zip []))
    (hns : kindsOK (pnames (fnParams i)) (fnScope i) = true) (hok : okScope (fnScope i) = true)
    (h : SX ad w (fnScope i) d (execs b) (Loc.bind (pnames (fnParams i)) [] Loc.nil) H (fun f _ H1 => Q (match f with | .ret v => v | _ => .none) H1)) : CallV ad w sc (d + 1) (.ref (ad.fn i)) [] loc H Q :=
  CallV.fn hi hk.symm (fun pm cd doc vs hv => by rw [hk] at hv; cases vs with | nil => exact hb pm cd doc | cons a r => simp at hv) hns hok (SX.run e h)
theorem sp_ends {Q : AV → AH → Prop} (q : ∀ n, H n = none → Q (.ref n) (AH.put H n (.dict endsD))) : CallV ad w sc (d + 1) (.ref (ad.fn 43)) [] loc H Q := by
  refine CallV.fn0 (by conv => lhs; whnf) (by decide) rfl (fun _ _ _ => rfl) (by decide) (by decide) ?_
  walk_at "go"
  refine EV.dict3 (by decide) (by decide) (by decide) ?_
  walk_at "go"
  exact q
theorem endsD_get : ∀ k, kvGet endsD (sgS k) = some (.str (enS k)) := by
  intro k
  match k with
  | 0 => rfl
  | 1 => rfl
  | 2 => rfl
  | 3 => rfl
  | 4 => rfl
end


noncomputable def AllR {α : Type} (P : α → AV → Prop) : List α → List AV → Prop
  | [], vs => vs = []
  | x :: r, vs => ∃ v us, vs = v :: us ∧ P x v ∧ AllR P r us
theorem AllR.mono {α : Type} {P P' : α → AV → Prop} (h : ∀ x v, P x v → P' x v) : ∀ {l : List α} {vs : List AV}, AllR P l vs → AllR P' l vs
  | [], _, e => e
  | _ :: _, _, ⟨v, us, e, a, b⟩ => ⟨v, us, e, h _ _ a, b.mono h⟩
theorem AllR.snoc {α : Type} {P : α → AV → Prop} {x : α} {v : AV} (h : P x v) : ∀ {l : List α} {vs : List AV}, AllR P l vs → AllR P (l ++ [x]) (vs ++ [v])
  | [], _, e => by simp only [AllR] at e; subst e; exact in2_3 v ([]) rfl h rfl
  | _ :: _, _, ⟨v', us, e, a, b⟩ => by subst e; exact in2_3 v' (us ++ [v]) rfl a (b.snoc h)
theorem AllR.len {α : Type} {P : α → AV → Prop} : ∀ {l : List α} {vs : List AV}, AllR P l vs → vs.length = l.length
  | [], _, e => by simp only [AllR] at e; subst e; rfl
  | _ :: _, _, ⟨v', us, e, a, b⟩ => by subst e; simp [b.len]
theorem AllR.get {α : Type} {P : α → AV → Prop} : ∀ {l : List α} {vs : List AV}, AllR P l vs → ∀ (i : Nat) (v : AV), vs[i]? = some v → ∃ x, l[i]? = some x ∧ P x v
  | [], vs, h, i, v, hv => by simp only [AllR] at h; subst h; simp at hv
  | x :: r, vs, ⟨v', us, e, a, b⟩, i, v, hv => by
    subst e
    cases i with
    | zero => simp at hv; subst hv; exact in1_2 x rfl a
    | succ i => simp at hv ⊢; exact b.get i v hv

/-- all but dicts stay -/
noncomputable def NSub (F F' : AH) : Prop := ∀ a o, F a = some o → (∀ kvs, o ≠ .dict kvs) → F' a = some o
theorem Sub.n {F F' : AH} (s : Sub F F') : NSub F F' := fun a o h _ => s _ _ h
theorem NSub.t {F F' : AH} (s : NSub F F') : TSub F F' := fun a xs h => s _ _ h nofun

noncomputable def mP (F : AH) (x : Nat × Nat) (v : AV) : Prop := ∃ t, v = .ref t ∧ F t = some (.tup [.int x.1, .int x.2])
noncomputable def uP (F : AH) (x : Nat × Nat × Int × Fin 5) (v : AV) : Prop := ∃ t, v = .ref t ∧ F t = some (.tup [.int x.1, .int x.2.1, .int x.2.2.1, .str (sgS x.2.2.2)])
noncomputable def bP (F : AH) (x : Int × List (Nat × Nat × Fin 5) × Nat) (v : AV) : Prop := ∃ t cp cs, v = .ref t ∧ F t = some (.tup [.int x.1, .ref cp, .int x.2.2]) ∧ F cp = some (.list cs) ∧ CapsR F x.2.1 cs
theorem mP.mono {F F' : AH} (s : NSub F F') (x : Nat × Nat) (v : AV) : mP F x v → mP F' x v := fun hI => el1_2 hI fun t e h => ⟨t, e, s _ _ h nofun⟩
theorem uP.mono {F F' : AH} (s : NSub F F') (x : Nat × Nat × Int × Fin 5) (v : AV) : uP F x v → uP F' x v := fun hI => el1_2 hI fun t e h => ⟨t, e, s _ _ h nofun⟩
theorem bP.mono {F F' : AH} (s : NSub F F') (x : Int × List (Nat × Nat × Fin 5) × Nat) (v : AV) : bP F x v → bP F' x v := fun hI => el3_4 hI fun t cp cs e h h2 h3 => ⟨t, cp, cs, e, s _ _ h nofun, s _ _ h2 nofun, h3.monoT s.t⟩

noncomputable def own3 (m u b : Addr) : Own := fun a => if a = m then some (0, .bl) else if a = u then some (0, .wt) else if a = b then some (0, .cp) else none
theorem own3_of {m u b a : Addr} (h1 : a ≠ m) (h2 : a ≠ u) (h3 : a ≠ b) : own3 m u b a = none := by unfold own3; rw [if_neg h1, if_neg h2, if_neg h3]

structure WInv (m u b : Addr) (H : AH) (s : WS) : Prop where
  mu : m ≠ u
  mb : m ≠ b
  ub : u ≠ b
  im : ∃ vs, H m = some (.list vs) ∧ AllR (mP (fz (own3 m u b) H)) s.mys vs
  iu : ∃ vs, H u = some (.list vs) ∧ AllR (uP (fz (own3 m u b) H)) s.uses vs
  ib : ∃ vs, H b = some (.list vs) ∧ AllR (bP (fz (own3 m u b) H)) s.subs vs
theorem WInv.lab {m u b : Addr} {H : AH} {s : WS} (W : WInv m u b H s) : Lab (own3 m u b) H := fun a ha => by
  refine el1_2 W.im ?_
  intro _ h1 _
  refine el1_2 W.iu ?_
  intro _ h2 _
  refine el1_2 W.ib ?_
  intro _ h3 _
  refine own3_of ?_ ?_ ?_ <;> (intro z; subst z; simp_all)
theorem WInv.move {m u b : Addr} {H H' : AH} {s : WS} (W : WInv m u b H s) (n : NSub (fz (own3 m u b) H) (fz (own3 m u b) H')) (e1 : H' m = H m) (e2 : H' u = H u) (e3 : H' b = H b) : WInv m u b H' s := by
  refine el1_2 W.im ?_
  intro vs h1 r1
  refine el1_2 W.iu ?_
  intro us h2 r2
  refine el1_2 W.ib ?_
  intro bs h3 r3
  exact ⟨W.mu, W.mb, W.ub, ⟨vs, e1.trans h1, r1.mono fun x v => mP.mono n x v⟩, ⟨us, e2.trans h2, r2.mono fun x v => uP.mono n x v⟩, ⟨bs, e3.trans h3, r3.mono fun x v => bP.mono n x v⟩⟩
theorem WInv.fresh {m u b a : Addr} {H : AH} {s : WS} {o : AO} (W : WInv m u b H s) (ha : H a = none) : WInv m u b (AH.put H a o) s := by
  have ne : ∀ x, H x ≠ none → AH.put H a o x = H x := fun x hx => put_ne fun z => hx (by rw [z]; exact ha)
  refine el1_2 W.im ?_
  intro _ h1 _
  refine el1_2 W.iu ?_
  intro _ h2 _
  refine el1_2 W.ib ?_
  intro _ h3 _
  exact W.move (Sub.new ha).n (ne _ (by rw [h1]; nofun)) (ne _ (by rw [h2]; nofun)) (ne _ (by rw [h3]; nofun))
/-- a dict that is not ours is changed -/
theorem WInv.dict {m u b a : Addr} {H : AH} {s : WS} {kvs kvs' : List (Str × AV)} (W : WInv m u b H s) (ha : H a = some (.dict kvs)) : WInv m u b (AH.put H a (.dict kvs')) s := by
  have ne : ∀ x xs, H x = some (.list xs) → AH.put H a (.dict kvs') x = H x := fun x xs hx => put_ne fun z => by subst z; rw [ha] at hx; cases hx
  refine el1_2 W.im ?_
  intro _ h1 _
  refine el1_2 W.iu ?_
  intro _ h2 _
  refine el1_2 W.ib ?_
  intro _ h3 _
  refine W.move (fun x o hx hn => ?_) (ne _ _ h1) (ne _ _ h2) (ne _ _ h3)
  refine el0_2 (fz_some hx) ?_
  intro x1 x2
  exact fz_of (by rw [put_ne]; exact x1; intro z; subst z; rw [ha] at x1; (have hE0 := Option.some.inj x1; subst hE0; clear x1); exact hn _ rfl) x2

theorem binds5 {p : Arguments} {n : Str} {b : List Stmt} {sc : Scope} (h : ∀ pm cd doc x y z v t, bindArgs (Calls.docDef n p b sc pm cd doc) ⟨[x, y, z, v, t], []⟩ = pure ((pnames p).zip [x, y, z, v, t])) (hk : (pnames p).length = 5) :
    ∀ pm cd doc vs, vs.length = (pnames p).length → bindArgs (Calls.docDef n p b sc pm cd doc) ⟨vs, []⟩ = pure ((pnames p).zip vs) := fun pm cd doc vs hv => by
  rw [hk] at hv
  refine el2_2 (len1 hv) ?_
  intro x r1 hE1 h1
  obtain rfl := hE1
  refine el2_2 (len1 h1) ?_
  intro y r2 hE1 h2
  obtain rfl := hE1
  refine el2_2 (len1 h2) ?_
  intro z r3 hE1 h3
  obtain rfl := hE1
  refine el2_2 (len1 h3) ?_
  intro v r4 hE1 h4
  obtain rfl := hE1
  refine el2_2 (len1 h4) ?_
  intro t r5 hE1 h5
  obtain rfl := hE1
  obtain rfl := len0 h5
  exact h pm cd doc x y z v t
section
variable {ad : Ads} {w : World} {sc : Scope} {d : Nat} {loc : Loc} {H : AH}
theorem CallV.fn5 {i : Nat} {x y z v t : AV} {b : List Stmt} {Q : AV → AH → Prop} (e : fnBody i = b) (hi : i ∈ fnList) (hk : (pnames (fnParams i)).length = 5)
    (hb : ∀ pm cd doc x y z v t, bindArgs (Calls.docDef (fnName i) (fnParams i) (fnBody i) (fnScope i) pm cd doc) ⟨[x, y, z, v, t], []⟩ = pure ((pnames (fnParams i)).zip [x, y, z, v, t]))
    (hns : kindsOK (pnames (fnParams i)) (fnScope i) = true) (hok : okScope (fnScope i) = true)
    (h : SX ad w (fnScope i) d (execs b) (Loc.bind (pnames (fnParams i)) [x, y, z, v, t] Loc.nil) H (fun f _ H1 => Q (match f with | .ret v => v | _ => .none) H1)) : CallV ad w sc (d + 1) (.ref (ad.fn i)) [x, y, z, v, t] loc H Q :=
  CallV.fn hi hk.symm (binds5 hb hk) hns hok (SX.run e h)
end


theorem DTs.get {F G : AH} : ∀ {ts : List Dn} {vs : List AV}, DTs F G ts vs → vs.length = ts.length ∧ ∀ (i : Nat) (x : AV), vs[i]? = some x → ∃ t, ts[i]? = some t ∧ DT F G t x
  | [], vs, h => by simp only [DTs] at h; subst h; simp
  | t :: ts, vs, h => by
    simp only [DTs] at h; obtain ⟨v, r, rfl, h1, h2⟩ := h
    refine el0_2 (DTs.get h2) ?_
    intro e f
    refine ⟨by simp [e], fun i x hx => ?_⟩
    cases i with
    | zero => simp at hx; subst hx; exact in1_2 t rfl h1
    | succ i => simp at hx ⊢; exact f i x hx
theorem wStmts_len : ∀ {ts : List Tr} {ds : List Dn} {e : WE} {s : WS} {sub : Nat} {r : WE × WS}, wStmts ts ds e s sub = some r → ts.length = ds.length
  | [], [], _, _, _, _, _ => rfl
  | [], _ :: _, _, _, _, _, h => by simp [wStmts] at h
  | _ :: _, [], _, _, _, _, h => by simp [wStmts] at h
  | t :: ts, d :: ds, e, s, sub, r, h => by
    simp only [wStmts] at h
    refine el1_2 (Option.bind_eq_some_iff.mp h) ?_
    intro r1 _ h2
    simp [wStmts_len h2]
theorem enodup {b : WE} {k : Fin 5} {p : Tg} (h : (b.map (·.1)).Nodup) : ((eput b k p).map (·.1)).Nodup := by
  have keys : ∀ b : WE, (eput b k p).map (·.1) = if k ∈ b.map (·.1) then b.map (·.1) else b.map (·.1) ++ [k] := by
    intro b
    induction b with
    | nil => simp [eput]
    | cons x r ih =>
      refine hide fun PZ kZ => ?_
      obtain ⟨y, u⟩ := x
      refine kZ ?_
      clear kZ PZ
      simp only [eput]
      by_cases hy : y = k
      · subst hy; simp
      · have hk : ¬ k = y := fun z => hy z.symm
        rw [if_neg hy]
        simp only [List.map_cons, ih, List.mem_cons, hk, false_or]
        split <;> simp
  rw [keys]
  split
  · exact h
  · rename_i hk
    rw [List.nodup_append]
    refine in0_3 h (by simp) (fun a ha c hc => ?_)
    simp at hc; subst hc; intro z; subst z; exact hk ha

structure WBd (s : WS) (n : Nat) : Prop where
  m : s.mys.length + n ≤ 400
  u : s.uses.length + 2 * n ≤ 400
  b : s.subs.length + n ≤ 400

mutual
theorem wStmt_bd : ∀ {t : Tr} {d : Dn} {e : WE} {s : WS} {sub n : Nat} {r : WE × WS}, wStmt t d e s sub = some r → WBd s (cnt t + n) → WBd r.2 n
  | .my k, .my k' p, e, s, sub, n, r, h, b => by
    simp only [wStmt] at h
    split at h
    · (have hE0 := Option.some.inj h; subst hE0; clear h); simp only [cnt] at b; exact ⟨by have := b.m; simp; (first | (simp +arith only; done) | lia | omega), by have := b.u; simp; (first | (simp +arith only; done) | lia | omega), by have := b.b; simp; (first | (simp +arith only; done) | lia | omega)⟩
    · exact nsE h
  | .use k1 k2, .use k1' p1 k2' p2, e, s, sub, n, r, h, b => by
    have one : ∀ {k : Fin 5} {p : Option Pl} {s s' : WS}, wUse e s sub k p = some s' → s'.mys = s.mys ∧ s'.subs = s.subs ∧ s'.uses.length ≤ s.uses.length + 1 := by
      intro k p s s' h
      unfold wUse at h
      split at h
      · split at h
        · (have hE0 := Option.some.inj h; subst hE0; clear h); simp
        · exact nsE h
      · split at h
        · (have hE0 := Option.some.inj h; subst hE0; clear h); simp
        · exact nsE h
      · (have hE0 := Option.some.inj h; subst hE0; clear h); simp
      · exact nsE h
    simp only [wStmt] at h
    split at h
    · refine el1_2 (Option.bind_eq_some_iff.mp h) ?_
      intro s1 h1 h2
      refine el1_2 (Option.map_eq_some_iff.mp h2) ?_
      intro s2 h3 hE1
      obtain rfl := hE1
      refine el0_3 (one h1) ?_
      intro a1 a2 a3
      refine el0_3 (one h3) ?_
      intro c1 c2 c3
      simp only [cnt] at b
      refine ⟨?_, ?_, ?_⟩
      · have := b.m; simp only [c1, a1]; (first | (simp +arith only; done) | lia | omega)
      · have := b.u; simp only; (first | (simp +arith only; done) | lia | omega)
      · have := b.b; simp only [c2, a2]; (first | (simp +arith only; done) | lia | omega)
    · exact nsE h
  | .anon t, .anon ds size caps, e, s, sub, n, r, h, b => by
    simp only [wStmt] at h
    refine el1_2 (Option.map_eq_some_iff.mp h) ?_
    intro r1 h1 hE1
    obtain rfl := hE1
    simp only [cnt] at b
    have b' : WBd { s with subs := s.subs ++ [((sub : Int), caps, size)] } (cnts t + n) := ⟨by have := b.m; simp; (first | (simp +arith only; done) | lia | omega), by have := b.u; simp; (first | (simp +arith only; done) | lia | omega), by have := b.b; simp; (first | (simp +arith only; done) | lia | omega)⟩
    exact wStmts_bd (n := n) (r := r1) h1 b'
  | .bare t, .bare ds, e, s, sub, n, r, h, b => by
    simp only [wStmt] at h
    refine el1_2 (Option.map_eq_some_iff.mp h) ?_
    intro r1 h1 hE1
    obtain rfl := hE1
    simp only [cnt] at b
    have b' : WBd s (cnts t + n) := ⟨by have := b.m; (first | (simp +arith only; done) | lia | omega), by have := b.u; (first | (simp +arith only; done) | lia | omega), by have := b.b; (first | (simp +arith only; done) | lia | omega)⟩
    exact wStmts_bd (n := n) (r := r1) h1 b'
  | .my _, .use _ _ _ _, _, _, _, _, _, h, _ => by simp [wStmt] at h
  | .my _, .anon _ _ _, _, _, _, _, _, h, _ => by simp [wStmt] at h
  | .my _, .bare _, _, _, _, _, _, h, _ => by simp [wStmt] at h
  | .use _ _, .my _ _, _, _, _, _, _, h, _ => by simp [wStmt] at h
  | .use _ _, .anon _ _ _, _, _, _, _, _, h, _ => by simp [wStmt] at h
  | .use _ _, .bare _, _, _, _, _, _, h, _ => by simp [wStmt] at h
  | .anon _, .my _ _, _, _, _, _, _, h, _ => by simp [wStmt] at h
  | .anon _, .use _ _ _ _, _, _, _, _, _, h, _ => by simp [wStmt] at h
  | .anon _, .bare _, _, _, _, _, _, h, _ => by simp [wStmt] at h
  | .bare _, .my _ _, _, _, _, _, _, h, _ => by simp [wStmt] at h
  | .bare _, .use _ _ _ _, _, _, _, _, _, h, _ => by simp [wStmt] at h
  | .bare _, .anon _ _ _, _, _, _, _, _, h, _ => by simp [wStmt] at h
theorem wStmts_bd : ∀ {ts : List Tr} {ds : List Dn} {e : WE} {s : WS} {sub n : Nat} {r : WE × WS}, wStmts ts ds e s sub = some r → WBd s (cnts ts + n) → WBd r.2 n
  | [], [], e, s, sub, n, r, h, b => by simp only [wStmts] at h; (have hE0 := Option.some.inj h; subst hE0; clear h); simp only [cnts] at b; exact ⟨by have := b.m; simp; (first | (simp +arith only; done) | lia | omega), by have := b.u; simp; (first | (simp +arith only; done) | lia | omega), by have := b.b; simp; (first | (simp +arith only; done) | lia | omega)⟩
  | [], _ :: _, _, _, _, _, _, h, _ => by simp [wStmts] at h
  | _ :: _, [], _, _, _, _, _, h, _ => by simp [wStmts] at h
  | t :: ts, d :: ds, e, s, sub, n, r, h, b => by
    simp only [wStmts] at h
    refine el1_2 (Option.bind_eq_some_iff.mp h) ?_
    intro r1 h1 h2
    simp only [cnts] at b
    have b' : WBd s (cnt t + (cnts ts + n)) := ⟨by have := b.m; (first | (simp +arith only; done) | lia | omega), by have := b.u; (first | (simp +arith only; done) | lia | omega), by have := b.b; (first | (simp +arith only; done) | lia | omega)⟩
    exact wStmts_bd (n := n) h2 (wStmt_bd h1 b')
end

theorem own3_m {m u b : Addr} : own3 m u b m = some (0, .bl) := by unfold own3; rw [if_pos rfl]
theorem own3_u {m u b : Addr} (h : m ≠ u) : own3 m u b u = some (0, .wt) := by unfold own3; rw [if_neg h.symm, if_pos rfl]
theorem own3_b {m u b : Addr} (h : m ≠ b) (h' : u ≠ b) : own3 m u b b = some (0, .cp) := by unfold own3; rw [if_neg h.symm, if_neg h'.symm, if_pos rfl]
theorem WInv.pushM {m u b : Addr} {H : AH} {s : WS} {vs : List AV} {v : AV} {x : Nat × Nat} (W : WInv m u b H s) (hm : H m = some (.list vs)) (hv : mP (fz (own3 m u b) H) x v) :
    WInv m u b (AH.put H m (.list (vs ++ [v]))) { s with mys := s.mys ++ [x] } ∧ Sub (fz (own3 m u b) H) (fz (own3 m u b) (AH.put H m (.list (vs ++ [v])))) := by
  have S : Sub (fz (own3 m u b) H) (fz (own3 m u b) (AH.put H m (.list (vs ++ [v])))) := .put own3_m
  refine el1_2 W.im ?_
  intro vs' h1 r1
  refine el1_2 W.iu ?_
  intro us h2 r2
  refine el1_2 W.ib ?_
  intro bs h3 r3
  rw [hm] at h1; (have hE0 := slE h1; subst hE0; clear h1)
  exact ⟨⟨W.mu, W.mb, W.ub, ⟨_, put_same, (r1.mono fun x v => mP.mono S.n x v).snoc (mP.mono S.n _ _ hv)⟩, ⟨us, (put_ne W.mu.symm).trans h2, r2.mono fun x v => uP.mono S.n x v⟩, ⟨bs, (put_ne W.mb.symm).trans h3, r3.mono fun x v => bP.mono S.n x v⟩⟩, S⟩
theorem WInv.pushU {m u b : Addr} {H : AH} {s : WS} {vs : List AV} {v : AV} {x : Nat × Nat × Int × Fin 5} (W : WInv m u b H s) (hm : H u = some (.list vs)) (hv : uP (fz (own3 m u b) H) x v) :
    WInv m u b (AH.put H u (.list (vs ++ [v]))) { s with uses := s.uses ++ [x] } ∧ Sub (fz (own3 m u b) H) (fz (own3 m u b) (AH.put H u (.list (vs ++ [v])))) := by
  have S : Sub (fz (own3 m u b) H) (fz (own3 m u b) (AH.put H u (.list (vs ++ [v])))) := .put (own3_u W.mu)
  refine el1_2 W.im ?_
  intro ms h1 r1
  refine el1_2 W.iu ?_
  intro us h2 r2
  refine el1_2 W.ib ?_
  intro bs h3 r3
  rw [hm] at h2; (have hE0 := slE h2; subst hE0; clear h2)
  exact ⟨⟨W.mu, W.mb, W.ub, ⟨ms, (put_ne W.mu).trans h1, r1.mono fun x v => mP.mono S.n x v⟩, ⟨_, put_same, (r2.mono fun x v => uP.mono S.n x v).snoc (uP.mono S.n _ _ hv)⟩, ⟨bs, (put_ne W.ub.symm).trans h3, r3.mono fun x v => bP.mono S.n x v⟩⟩, S⟩
theorem WInv.pushB {m u b : Addr} {H : AH} {s : WS} {vs : List AV} {v : AV} {x : Int × List (Nat × Nat × Fin 5) × Nat} (W : WInv m u b H s) (hm : H b = some (.list vs)) (hv : bP (fz (own3 m u b) H) x v) :
    WInv m u b (AH.put H b (.list (vs ++ [v]))) { s with subs := s.subs ++ [x] } ∧ Sub (fz (own3 m u b) H) (fz (own3 m u b) (AH.put H b (.list (vs ++ [v])))) := by
  have S : Sub (fz (own3 m u b) H) (fz (own3 m u b) (AH.put H b (.list (vs ++ [v])))) := .put (own3_b W.mb W.ub)
  refine el1_2 W.im ?_
  intro ms h1 r1
  refine el1_2 W.iu ?_
  intro us h2 r2
  refine el1_2 W.ib ?_
  intro bs h3 r3
  rw [hm] at h3; (have hE0 := slE h3; subst hE0; clear h3)
  exact ⟨⟨W.mu, W.mb, W.ub, ⟨ms, (put_ne W.mb).trans h1, r1.mono fun x v => mP.mono S.n x v⟩, ⟨us, (put_ne W.ub).trans h2, r2.mono fun x v => uP.mono S.n x v⟩, ⟨_, put_same, (r3.mono fun x v => bP.mono S.n x v).snoc (bP.mono S.n _ _ hv)⟩⟩, S⟩

theorem Sub.off {own : Own} {H0 H : AH} {a : Addr} {o : AO} (S : Sub (fz own H0) (fz own H)) (ha : fz own H0 a = none) : Sub (fz own H0) (fz own (AH.put H a o)) := fun x ob hx => by
  refine el0_2 (fz_some (S _ _ hx)) ?_
  intro x1 x2
  exact fz_of (by rw [put_ne]; exact x1; intro z; subst z; rw [ha] at hx; exact nsE hx) x2
structure WK (m u b ed : Addr) (F0 : AH) (kv : List (Str × AV)) (H : AH) (s : WS) : Prop where
  W : WInv m u b H s
  S : Sub F0 (fz (own3 m u b) H)
  E : H ed = some (.dict kv)
theorem WK.fresh {m u b ed a : Addr} {F0 H : AH} {kv : List (Str × AV)} {s : WS} {o : AO} (K : WK m u b ed F0 kv H s) (ha : H a = none) : WK m u b ed F0 kv (AH.put H a o) s :=
  ⟨K.W.fresh ha, K.S.trans (.new ha), by
    rw [put_ne]
    · exact K.E
    · intro z; subst z; have := K.E; rw [ha] at this; exact nsE this⟩
theorem keep_new {H : AH} {a x : Addr} {o ox : AO} (hx : H x = some ox) (ha : H a = none) : AH.put H a o x = some ox := by
  rw [put_ne]
  · exact hx
  · intro z; rw [z, ha] at hx; exact nsE hx
theorem lt_b {a b : Nat} (h : Nat.ble (a + 1) b = true) : a < b := Nat.le_of_ble_eq_true h
theorem le_b {a b : Nat} (h : Nat.ble a b = true) : a ≤ b := Nat.le_of_ble_eq_true h
theorem keep_dl {H : AH} {a x : Addr} {o : AO} {kv : List (Str × AV)} {l : List AV} (hx : H x = some (.dict kv)) (ha : H a = some (.list l)) : AH.put H a o x = some (.dict kv) := by
  rw [put_ne]
  · exact hx
  · intro z; rw [z, ha] at hx; cases hx
theorem my_line : ∀ k, (("my" : Str) ++ enS k).length ≤ sizeLine := by
  intro k
  match k with
  | 0 => decide
  | 1 => decide
  | 2 => decide
  | 3 => decide
  | 4 => decide
theorem ky_line : ∀ k, (sgS k ++ nmS k).length ≤ sizeLine := by
  intro k
  match k with
  | 0 => decide
  | 1 => decide
  | 2 => decide
  | 3 => decide
  | 4 => decide
theorem glob_line : ∀ k, (("glob" : Str) ++ enS k).length ≤ sizeLine := by
  intro k
  match k with
  | 0 => decide
  | 1 => decide
  | 2 => decide
  | 3 => decide
  | 4 => decide
theorem pad_line : ∀ k, (("pad" : Str) ++ enS k).length ≤ sizeLine := by
  intro k
  match k with
  | 0 => decide
  | 1 => decide
  | 2 => decide
  | 3 => decide
  | 4 => decide
theorem whole_line : ∀ k, (("P::" : Str) ++ nmS k).length ≤ sizeLine := by
  intro k
  match k with
  | 0 => decide
  | 1 => decide
  | 2 => decide
  | 3 => decide
  | 4 => decide
theorem whole_ok : ∀ k, PyData.strOk (wholeOf k) = true := by
  intro k
  match k with
  | 0 => decide +kernel
  | 1 => decide +kernel
  | 2 => decide +kernel
  | 3 => decide +kernel
  | 4 => decide +kernel
theorem glob_ok : ∀ k, PyData.strOk (("glob" : Str) ++ enS k) = true := by
  intro k
  match k with
  | 0 => decide +kernel
  | 1 => decide +kernel
  | 2 => decide +kernel
  | 3 => decide +kernel
  | 4 => decide +kernel
theorem eget_av (e : WE) (k : Fin 5) : (kvGet (eAV e) (kyS k)).getD (.str (wholeOf k)) = ((eget e k).getD (.str (wholeOf k))).av := by
  rw [eAV_get]
  cases eget e k <;> rfl
theorem wUse_ways {e : WE} {s s' : WS} {sub : Nat} {k : Fin 5} {p : Option Pl} (h : wUse e s sub k p = some s') :
    (∃ t, (eget e k).getD (.str (wholeOf k)) = .str t ∧ tagOf k p = "glob" ++ enS k ∧ valOf k p = .str t ∧ PyData.strOk t = true ∧ s' = s) ∨
    (∃ i n, (eget e k).getD (.str (wholeOf k)) = .int i ∧ tagOf k p = "pad" ++ enS k ∧ valOf k p = .int (n : Nat) ∧ s' = { s with uses := s.uses ++ [(sub, n, i, k)] }) := by
  unfold wUse at h
  cases ht : (eget e k).getD (.str (wholeOf k)) with
  | str t =>
    rw [ht] at h
    cases p with
    | none =>
      dsimp only at h
      split at h
      · rename_i hx; (have hE0 := Option.some.inj h; subst hE0; clear h); exact .inl ⟨t, rfl, rfl, by rw [hx]; rfl, by rw [hx]; exact whole_ok k, rfl⟩
      · exact nsE h
    | some p =>
      cases p with
      | slot n => exact nsE h
      | whole x =>
        dsimp only at h
        split at h
        · rename_i hx; obtain ⟨rfl, ho⟩ := hx; (have hE0 := Option.some.inj h; subst hE0; clear h); exact .inl ⟨t, rfl, rfl, rfl, ho, rfl⟩
        · exact nsE h
  | int i =>
    rw [ht] at h
    cases p with
    | none => exact nsE h
    | some p =>
      cases p with
      | slot n => (have hE0 := Option.some.inj h; subst hE0; clear h); exact .inr ⟨i, n, rfl, rfl, rfl, rfl⟩
      | whole x => exact nsE h
noncomputable def stD (m u b : Addr) : List (Str × AV) := [("mys", .ref m), ("uses", .ref u), ("subs", .ref b)]
noncomputable def WSpec (ad : Ads) (w : World) (ts : List Tr) : Prop := ∀ (ds : List Dn) (d : Nat) (sc : Scope) (loc : Loc) (H : AH) (m u b sd ea : Addr) (rd dn : AV) (e : WE) (s : WS) (sub : Nat) (e' : WE) (s' : WS) (Q : AV → AH → Prop),
  WInv m u b H s → fz (own3 m u b) H sd = some (.dict (stD m u b)) → BlkR ts rd (fz (own3 m u b) H) → BlkD ds (fz (own3 m u b) H) (fz (own3 m u b) H) dn → fz (own3 m u b) H ea = some (.dict (eAV e)) → (e.map (·.1)).Nodup →
  wStmts ts ds e s sub = some (e', s') → WBd s (cnts ts) → ts.length ≤ 100 → (∀ H', WInv m u b H' s' → Sub (fz (own3 m u b) H) (fz (own3 m u b) H') → Q (.bool true) H') →
  CallV ad w sc (d + 3 * deps ts + 8) (.ref (ad.fn 49)) [rd, dn, .ref ea, .ref sd, .int sub] loc H Q

section
variable {ad : Ads} {w : World} {sc : Scope} {d : Nat} {loc : Loc} {H : AH}
set_option maxHeartbeats 4000000 in
theorem wblock (ts : List Tr) (ih : ∀ t, (.bare t ∈ ts ∨ .anon t ∈ ts) → WSpec ad w t) (hlz : ∀ t, (.bare t ∈ ts ∨ .anon t ∈ ts) → t.length ≤ 100) : WSpec ad w ts := by
  intro ds d sc loc H m u b sd ea rd dn e s sub e' s' Q W hsd hr hdn hea hne hw hbd hz q
  refine el3_4 hr ?_
  try clear hr
  intro n l vs hE1 r1 r2 r3
  obtain rfl := hE1
  refine el3_4 hdn ?_
  try clear hdn
  intro n' l' us hE1 d1 d2 d3
  obtain rfl := hE1
  have hlen := wStmts_len hw
  have lv := (RTs.get r3).1
  have lu := (DTs.get d3).1
  refine CallV.fn5 (by conv => lhs; whnf) (by decide) rfl (fun _ _ _ _ _ _ _ _ => rfl) (by decide) (by decide) ?_
  walk_at "go"
  refine CallV.dict_dict (fz_some hea).1 (by have := five hne; simp only [eAV, List.length_map] at this ⊢; (first | (simp +arith only; done) | lia | omega)) fun ed hed => ?_
  have W1 := W.fresh (o := .dict (eAV e)) hed
  have s1 : Sub (fz (own3 m u b) H) (fz (own3 m u b) (AH.put H ed (.dict (eAV e)))) := .new hed
  have fe := fz_new (o := .dict (eAV e)) W.lab hed
  have Fed : fz (own3 m u b) H ed = none := fz_none hed
  generalize AH.put H ed (.dict (eAV e)) = H1 at W1 s1 fe
  walk_at "go"
  refine SubT.tup (fz_some (s1 _ _ d1)).1 (by decide) (x := .str "block") rfl ?_ (by decide)
  walk_at "go"
  refine Cmp.ne_str ?_
  refine pick_f ?_
  walk_at "go"
  refine SubT.tup (fz_some (s1 _ _ d1)).1 (by decide) (x := .ref l') rfl ?_ (by decide)
  walk_at "go"
  refine CallV.len_list (fz_some (s1 _ _ d2)).1 ?_ (by (first | (simp +arith only; done) | lia | omega))
  walk_at "go"
  refine SubT.tup (fz_some (s1 _ _ r1)).1 (by decide) (x := .ref l) rfl ?_ (by decide)
  walk_at "go"
  refine CallV.len_list (fz_some (s1 _ _ r2)).1 ?_ (by (first | (simp +arith only; done) | lia | omega))
  refine Cmp.ne_int ?_
  refine ⟨fun z => absurd z (by simp; (first | (simp +arith only; done) | lia | omega)), fun _ => ?_⟩
  walk_at "go"
  refine pick_f ?_
  walk_at "go"
  refine SX.for_zip' ?_
  walk_at "go"
  refine ⟨rfl, ?_⟩
  walk_at "go"
  refine SubT.tup (fz_some (s1 _ _ r1)).1 (by decide) (x := .ref l) rfl ?_ (by decide)
  walk_at "go"
  refine SubT.tup (fz_some (s1 _ _ d1)).1 (by decide) (x := .ref l') rfl ?_ (by decide)
  walk_at "go"
  refine ⟨l, l', vs, us, fun i lc H3 => lc "env" = some (.ref ed) ∧ lc "state" = some (.ref sd) ∧ lc "sub" = some (.int sub) ∧ ∃ e3 s3, WInv m u b H3 s3 ∧ Sub (fz (own3 m u b) H) (fz (own3 m u b) H3) ∧ H3 ed = some (.dict (eAV e3)) ∧ (e3.map (·.1)).Nodup ∧ wStmts (ts.drop i) (ds.drop i) e3 s3 sub = some (e', s') ∧ WBd s3 (cnts (ts.drop i)), rfl, by (first | (simp +arith only; done) | lia | omega), ?_, ?_, ?_, ?_⟩
  · exact ⟨rfl, rfl, rfl, e, s, W1, s1, (fz_some fe).1, hne, hw, hbd⟩
  · rintro i lc H3 hI0 
    refine hide fun PZ kZ => ?_
    obtain ⟨_, _, _, e3, s3, W3, S3, _⟩ := hI0
    refine kZ ?_
    clear kZ PZ
    exact ⟨(fz_some (S3 _ _ r2)).1, (fz_some (S3 _ _ d2)).1⟩
  · rintro i x y lc H3 t N hx hy hI0 hN ht
    refine hide fun PZ kZ => ?_
    obtain ⟨hc1, hc2, hc3, e3, s3, W3, S3, hed3, hne3, hw3, hb3⟩ := hI0
    refine kZ ?_
    clear kZ PZ
    refine el1_2 ((RTs.get r3).2 i x hx) ?_
    intro tr htr hrt
    refine el1_2 ((DTs.get d3).2 i y hy) ?_
    intro dn hdn hdt
    have et : ts.drop i = tr :: ts.drop (i + 1) := by
      obtain ⟨hlt, e⟩ := List.getElem?_eq_some_iff.mp htr; rw [List.drop_eq_getElem_cons hlt, e]
    have ed' : ds.drop i = dn :: ds.drop (i + 1) := by
      obtain ⟨hlt, e⟩ := List.getElem?_eq_some_iff.mp hdn; rw [List.drop_eq_getElem_cons hlt, e]
    rw [et, ed'] at hw3
    rw [et] at hb3
    simp only [wStmts, cnts] at hw3 hb3
    refine el1_2 (Option.bind_eq_some_iff.mp hw3) ?_
    intro r1 h1 h2
    have hb' := wStmt_bd h1 hb3
    have W4 := W3.fresh (o := .tup [x, y]) ht
    have S4 : Sub (fz (own3 m u b) H) (fz (own3 m u b) (AH.put H3 t (.tup [x, y]))) := S3.trans (.new ht)
    have hed4 : (AH.put H3 t (.tup [x, y])) ed = some (.dict (eAV e3)) := keep_new hed3 ht
    refine AT.tuple put_same rfl ?_
    generalize AH.put H3 t (.tup [x, y]) = H4 at W4 S4 hed4
    dsimp only [AS]
    refine AT.name rfl ?_
    refine AT.name rfl ?_
    by_cases hbare : ∃ tb, tr = .bare tb
    · refine el1_1 hbare ?_
      try clear hbare
      intro tb hE1
      obtain rfl := hE1
      cases dn with
      | bare db =>
        simp only [RT] at hrt
        simp only [DT] at hdt
        refine el4_5 hrt ?_
        try clear hrt
        intro ra rbl rl rvs hE1 q1 q2 q3 q4
        obtain rfl := hE1
        refine el4_5 hdt ?_
        try clear hdt
        intro da dbl dl dvs hE1 p1 p2 p3 p4
        obtain rfl := hE1
        walk_at "go"
        refine SubT.tup (fz_some (S4 _ _ q1)).1 (by decide) (x := .str "bare") rfl ?_ (by decide)
        walk_at "go"
        refine Cmp.eq_str ?_
        refine pick_t ?_
        walk_at "go"
        refine SliceT.tup_upto (fz_some (S4 _ _ p1)).1 (by simp) (by simp) fun n1 hn1 => ?_
        have W5 := W4.fresh (o := .tup [.str "bare", .str ""]) hn1
        have S5 : Sub (fz (own3 m u b) H) (fz (own3 m u b) (AH.put H4 n1 (.tup [.str "bare", .str ""]))) := S4.trans (.new hn1)
        have hed5 : (AH.put H4 n1 (.tup [.str "bare", .str ""])) ed = some (.dict (eAV e3)) := keep_new hed4 hn1
        have x1 : (AH.put H4 n1 (.tup [.str "bare", .str ""])) n1 = some (.tup [.str "bare", .str ""]) := put_same
        have ek : ([.str "bare", .str "", .ref dbl] : List AV).take 2 = [.str "bare", .str ""] := rfl
        rw [ek]
        generalize AH.put H4 n1 (.tup [.str "bare", .str ""]) = H5 at W5 S5 hed5 x1
        walk_at "go"
        refine SliceT.tup_upto (fz_some (S5 _ _ q1)).1 (by simp) (by simp) fun n2 hn2 => ?_
        have ek2 : ([.str "bare", .str "", .ref rbl] : List AV).take 2 = [.str "bare", .str ""] := rfl
        rw [ek2]
        have W6 := W5.fresh (o := .tup [.str "bare", .str ""]) hn2
        have S6 : Sub (fz (own3 m u b) H) (fz (own3 m u b) (AH.put H5 n2 (.tup [.str "bare", .str ""]))) := S5.trans (.new hn2)
        have hed6 : (AH.put H5 n2 (.tup [.str "bare", .str ""])) ed = some (.dict (eAV e3)) := keep_new hed5 hn2
        have x1' : (AH.put H5 n2 (.tup [.str "bare", .str ""])) n1 = some (.tup [.str "bare", .str ""]) := keep_new x1 hn2
        have x2 : (AH.put H5 n2 (.tup [.str "bare", .str ""])) n2 = some (.tup [.str "bare", .str ""]) := put_same
        generalize AH.put H5 n2 (.tup [.str "bare", .str ""]) = H6 at W6 S6 hed6 x1' x2
        refine Cmp.ne_data (da := .tuple [.str "bare", .str ""]) (db := .tuple [.str "bare", .str ""]) ⟨n1, _, rfl, x1', _, _, rfl, rfl, _, _, rfl, rfl, rfl⟩ ⟨n2, _, rfl, x2, _, _, rfl, rfl, _, _, rfl, rfl, rfl⟩ ?_ (by first | rfl | decide +kernel | simp [PyData.canLay0]) (by first | rfl | decide +kernel | simp [PyData.canLay0]) (by first | decide | rfl | decide +kernel | simp [PyData.depth]) (by (first | (simp +arith only; done) | lia | omega))
        refine pick_f ?_
        walk_at "go"
        refine EV.it_plain ?_
        walk_at "go"
        refine SubT.tup (fz_some (S6 _ _ q1)).1 (by decide) (x := .ref rbl) rfl ?_ (by decide)
        walk_at "go"
        refine SubT.tup (fz_some (S6 _ _ p1)).1 (by decide) (x := .ref dbl) rfl ?_ (by decide)
        walk_at "go"
        simp only [wStmt] at h1
        refine el1_2 (Option.map_eq_some_iff.mp h1) ?_
        intro r2 h3 hE1
        obtain rfl := hE1
        have hdp : deps tb + 1 ≤ deps ts := by have := deps_get htr; simpa only [dep] using this
        refine CallV.room (ih tb (.inl (List.mem_of_getElem? htr)) db d _ _ H6 m u b sd ed _ _ e3 s3 sub r2.1 r2.2 _ W6 (S6 _ _ hsd) ⟨rbl, rl, rvs, rfl, S6 _ _ q2, S6 _ _ q3, RTs.mono S6 _ _ q4⟩ ⟨dbl, dl, dvs, rfl, S6 _ _ p2, S6 _ _ p3, DTs.mono S6 S6.t _ _ p4⟩ (fz_of hed6 (by have := (fz_some fe).2; exact this)) hne3 h3 ?_ ?_ ?_) (by (first | (simp +arith only; done) | lia | omega))
        · simp only [cnt] at hb3
          exact ⟨by have := hb3.m; (first | (simp +arith only; done) | lia | omega), by have := hb3.u; (first | (simp +arith only; done) | lia | omega), by have := hb3.b; (first | (simp +arith only; done) | lia | omega)⟩
        · exact hlz _ (.inl (List.mem_of_getElem? htr))
        · intro H7 W7 S7
          refine Tru.bool ?_
          refine pick_f ?_
          walk_at "go"
          refine pick_f ?_
          walk_at "go"
          have S8 := S6.trans S7
          refine hN.co _ _ ⟨hc1, hc2, hc3, e3, _, W7, S8, (fz_some (S7 _ _ (fz_of hed6 (by have := (fz_some fe).2; exact this)))).1, hne3, h2, hb'⟩
      | _ => simp [wStmt] at h1
    · have K4 : WK m u b ed (fz (own3 m u b) H) (eAV e3) H4 s3 := ⟨W4, S4, hed4⟩
      clear W4 S4 hed4 W3 S3 hed3
      obtain ⟨na, rb, nd, db, rfl, rfl, Q1, P1⟩ : ∃ na rb nd db, x = .ref na ∧ y = .ref nd ∧ fz (own3 m u b) H na = some (.tup [.str "expr", .int 1, .ref rb]) ∧ fz (own3 m u b) H nd = some (.tup [.str "expr", .int 1, .ref db]) := by
        cases tr with
        | bare tb => exact absurd ⟨tb, rfl⟩ hbare
        | my k =>
          cases dn with
          | my k' n =>
            simp only [RT] at hrt
            simp only [DT] at hdt
            refine el2_3 hrt ?_
            try clear hrt
            intro ra rb e1 q1 _
            refine el2_3 hdt ?_
            try clear hdt
            intro da db e2 p1 _
            exact in4_4 ra rb da db e1 e2 q1 p1
          | _ => simp [wStmt] at h1
        | anon tb =>
          cases dn with
          | anon db' size caps =>
            simp only [RT] at hrt
            simp only [DT] at hdt
            refine el7_3 hrt ?_
            try clear hrt
            intro ra rb _ _ _ _ _ e1 q1 _
            refine el8_3 hdt ?_
            try clear hdt
            intro da db _ _ _ _ _ _ e2 p1 _
            exact in4_4 ra rb da db e1 e2 q1 p1
          | _ => simp [wStmt] at h1
        | use k1 k2 =>
          cases dn with
          | use k1' pl1 k2' pl2 =>
            simp only [RT] at hrt
            simp only [DT] at hdt
            refine el5_3 hrt ?_
            try clear hrt
            intro ra rb _ _ _ e1 q1 _
            refine el5_3 hdt ?_
            try clear hdt
            intro da db _ _ _ e2 p1 _
            exact in4_4 ra rb da db e1 e2 q1 p1
          | _ => simp [wStmt] at h1
      refine SX.seq (fun l H' => l = Loc.set (Loc.set lc "one" (.ref na)) "other" (.ref nd) ∧ WK m u b ed (fz (own3 m u b) H) (eAV e3) H' s3) ?_ ?_
      · walk_at "go"
        refine SubT.tup (fz_some (K4.S _ _ Q1)).1 (by decide) (x := .str "expr") rfl ?_ (by decide)
        walk_at "go"
        refine Cmp.eq_str ?_
        refine pick_f ?_
        walk_at "go"
        exact in0_3 rfl rfl K4
      rintro _ H5 hI0 
      refine el0_2 hI0 ?_
      try clear hI0
      intro hE1 K5
      obtain rfl := hE1
      clear K4 ht H4 t
      refine SX.seq (fun l H' => l = Loc.set (Loc.set lc "one" (.ref na)) "other" (.ref nd) ∧ WK m u b ed (fz (own3 m u b) H) (eAV e3) H' s3) ?_ ?_
      · walk_at "go"
        refine SliceT.tup_upto (fz_some (K5.S _ _ P1)).1 (lt_b rfl) (le_b rfl) fun n1 hn1 => ?_
        have K6 := K5.fresh (o := .tup [.str "expr", .int 1]) hn1
        have x1 : (AH.put H5 n1 (.tup [.str "expr", .int 1])) n1 = some (.tup [.str "expr", .int 1]) := put_same
        show EV _ _ _ _ _ _ _ (AH.put H5 n1 (.tup [.str "expr", .int 1])) _
        generalize AH.put H5 n1 (.tup [.str "expr", .int 1]) = H6 at K6 x1
        walk_at "go"
        refine SliceT.tup_upto (fz_some (K6.S _ _ Q1)).1 (lt_b rfl) (le_b rfl) fun n2 hn2 => ?_
        have K7 := K6.fresh (o := .tup [.str "expr", .int 1]) hn2
        refine Cmp.ne_data (da := .tuple [.str "expr", .int 1]) (db := .tuple [.str "expr", .int 1]) ⟨n1, _, rfl, keep_new x1 hn2, _, _, rfl, rfl, _, _, rfl, rfl, rfl⟩ ⟨n2, _, rfl, put_same, _, _, rfl, rfl, _, _, rfl, rfl, rfl⟩ ?_ (by first | rfl | decide +kernel | simp [PyData.canLay0]) (by first | rfl | decide +kernel | simp [PyData.canLay0]) (by first | decide | rfl | decide +kernel | simp [PyData.depth]) (by (first | (simp +arith only; done) | lia | omega))
        refine pick_f ?_
        walk_at "go"
        exact in0_3 rfl rfl K7
      rintro _ H6 hI0 
      refine el0_2 hI0 ?_
      try clear hI0
      intro hE1 K6
      obtain rfl := hE1
      clear K5 H5
      refine SX.seq (fun l H' => l = Loc.set (Loc.set (Loc.set (Loc.set lc "one" (.ref na)) "other" (.ref nd)) "told" (.ref db)) "node" (.ref rb) ∧ WK m u b ed (fz (own3 m u b) H) (eAV e3) H' s3) ?_ ?_
      · refine SX.assign_swapped (a := "node") (b := "told") ?_ rfl rfl (fun _ => rfl) (fun env he => by obtain ⟨sc1, g1, b1, kd, f1⟩ := he; cases env; dsimp only at sc1; subst sc1; rfl)
        walk_at "go"
        refine SubT.tup (fz_some (K6.S _ _ Q1)).1 (by decide) (x := .ref rb) rfl ?_ (by decide)
        walk_at "go"
        refine SubT.tup (fz_some (K6.S _ _ P1)).1 (by decide) (x := .ref db) rfl ?_ (by decide)
        walk_at "go"
        refine ⟨le_b rfl, fun n3 hn3 => ?_⟩
        exact in3_5 n3 (.ref rb) (.ref db) rfl put_same rfl rfl (K6.fresh hn3)
      rintro _ H7 hI0 
      refine el0_2 hI0 ?_
      try clear hI0
      intro hE1 K7
      obtain rfl := hE1
      clear K6 H6
      have W7 := K7.W
      have S7 := K7.S
      have hed7 := K7.E
      cases tr with
      | bare tb => exact absurd ⟨tb, rfl⟩ hbare
      | my k =>
        cases dn with
        | my k' n =>
          simp only [RT] at hrt
          simp only [DT] at hdt
          refine el2_3 hrt ?_
          try clear hrt
          intro ra rb2 e1 q1 q2
          refine el2_3 hdt ?_
          try clear hdt
          intro da db2 e2 p1 p2
          (have hE0 := refE e1; subst hE0; clear e1)
          (have hE0 := refE e2; subst hE0; clear e2)
          rw [Q1] at q1; cases q1
          rw [P1] at p1; cases p1
          walk_at "go"
          have hst : ∀ {H' : AH}, Sub (fz (own3 m u b) H) (fz (own3 m u b) H') → H' sd = some (.dict (stD m u b)) := fun S => (fz_some (S _ _ hsd)).1
          refine SubT.tup (fz_some (S7 _ _ q2)).1 (by decide) (x := .str "my") rfl ?_ (by decide)
          walk_at "go"
          refine Cmp.eq_str ?_
          refine pick_t ?_
          walk_at "go"
          refine SubT.dict (hst S7) (x := .ref m) rfl ?_
          refine el1_2 W7.im ?_
          intro mvs hm7 am
          refine in1_2 _ (GetM.append hm7) ?_
          walk_at "go"
          refine SubT.tup (fz_some (S7 _ _ p2)).1 (by decide) (x := .int n) rfl ?_ (by decide)
          walk_at "go"
          refine ⟨Nat.le_of_ble_eq_true rfl, fun n4 hn4 => ?_⟩
          have W8 := W7.fresh (o := .tup [.int sub, .int n]) hn4
          have S8 : Sub (fz (own3 m u b) H) (fz (own3 m u b) (AH.put H7 n4 (.tup [.int sub, .int n]))) := S7.trans (.new hn4)
          have hed8 : (AH.put H7 n4 (.tup [.int sub, .int n])) ed = some (.dict (eAV e3)) := keep_new hed7 hn4
          have f8 := fz_new (o := .tup [.int sub, .int n]) W7.lab hn4
          have hm8 : (AH.put H7 n4 (.tup [.int sub, .int n])) m = some (.list mvs) := keep_new hm7 hn4
          generalize AH.put H7 n4 (.tup [.int sub, .int n]) = H8 at W8 S8 hed8 f8 hm8
          walk_at "go"
          refine CallV.append hm8 (by have := am.len; have := hb3.m; simp only [cnt] at this; (first | (simp +arith only; done) | lia | omega)) ?_
          refine el0_2 (W8.pushM (x := (sub, n)) hm8 ⟨n4, rfl, f8⟩) ?_
          intro W9 T9
          have S9 := S8.trans T9
          have hed9 : (AH.put H8 m (.list (mvs ++ [.ref n4]))) ed = some (.dict (eAV e3)) := keep_dl hed8 hm8
          generalize AH.put H8 m (.list (mvs ++ [.ref n4])) = H9 at W9 S9 hed9
          walk_at "go"
          refine SubT.tup (fz_some (S9 _ _ p2)).1 (by decide) (x := .str ("my" ++ enS k')) rfl ?_ (by decide)
          walk_at "go"
          refine CallV.room (sp_ends (d := 0) fun n5 hn5 => ?_) (by (first | (simp +arith only; done) | lia | omega))
          have W10 := W9.fresh (o := .dict endsD) hn5
          have S10 : Sub (fz (own3 m u b) H) (fz (own3 m u b) (AH.put H9 n5 (.dict endsD))) := S9.trans (.new hn5)
          have hed10 : (AH.put H9 n5 (.dict endsD)) ed = some (.dict (eAV e3)) := keep_new hed9 hn5
          have hn5' : (AH.put H9 n5 (.dict endsD)) n5 = some (.dict endsD) := put_same
          generalize AH.put H9 n5 (.dict endsD) = H10 at W10 S10 hed10 hn5'
          walk_at "go"
          refine SubT.tup (fz_some (S10 _ _ q2)).1 (by decide) (x := .str (sgS k)) rfl ?_ (by decide)
          refine SubT.dict hn5' (endsD_get k) ?_
          refine Bin.add_str (my_line k) ?_
          have h1' := h1
          simp only [wStmt] at h1'
          split at h1'
          rotate_left
          · exact nsE h1'
          rename_i hkk
          subst hkk
          (have hE0 := Option.some.inj h1'; subst hE0; clear h1')
          refine Cmp.ne_str ?_
          refine ⟨fun z => absurd z (by simp), fun _ => ?_⟩
          walk_at "go"
          refine SubT.dict (hst S10) (x := .ref m) rfl ?_
          walk_at "go"
          refine el1_2 W10.im ?_
          intro mvs' hm10 am'
          refine CallV.len_list hm10 ?_ (by have := am'.len; have := hb'.m; simp only at *; (first | (simp +arith only; done) | lia | omega))
          walk_at "go"
          refine SubT.tup (fz_some (S10 _ _ q2)).1 (by decide) (x := .str (sgS k)) rfl ?_ (by decide)
          walk_at "go"
          refine SubT.tup (fz_some (S10 _ _ q2)).1 (by decide) (x := .str (nmS k)) rfl ?_ (by decide)
          refine Bin.add_str (ky_line k) ?_
          rw [ky_add]
          refine SetT.dict hed10 (by have := five hne3; simp only [eAV, List.length_map] at this ⊢; (first | (simp +arith only; done) | lia | omega)) ?_
          have elen : ((mvs'.length : Int) - 1) = (s3.mys.length : Int) := by have := am'.len; simp at this; (first | (simp +arith only; done) | lia | omega)
          rw [elen]
          have eput' : kvPut (eAV e3) (kyS k) (.int (s3.mys.length : Int)) = eAV (eput e3 k (.int s3.mys.length)) := eAV_put k (.int s3.mys.length) e3
          rw [eput']
          have W11 := W10.dict (kvs' := eAV (eput e3 k (.int s3.mys.length))) hed10
          have S11 := S10.off (o := .dict (eAV (eput e3 k (.int s3.mys.length)))) Fed
          walk_at "go"
          exact hN.nx _ _ ⟨hc1, hc2, hc3, _, _, W11, S11, put_same, enodup hne3, h2, hb'⟩
        | _ => simp [wStmt] at h1
      | anon tb =>
        cases dn with
        | anon db' size caps =>
          simp only [RT] at hrt
          simp only [DT] at hdt
          refine el7_7 hrt ?_
          try clear hrt
          intro ra rb2 rc rbl re rl rvs e1 q1 q2 q3 q4 q5 q6
          refine el8_9 hdt ?_
          try clear hdt
          intro da db2 dc dbl dl dus dcp dcs e2 p1 p2 p3 p4 p5 p6 p7 p8
          (have hE0 := refE e1; subst hE0; clear e1)
          (have hE0 := refE e2; subst hE0; clear e2)
          rw [Q1] at q1; cases q1
          rw [P1] at p1; cases p1
          walk_at "go"
          have hst : ∀ {H' : AH}, Sub (fz (own3 m u b) H) (fz (own3 m u b) H') → H' sd = some (.dict (stD m u b)) := fun S => (fz_some (S _ _ hsd)).1
          refine SubT.tup (fz_some (S7 _ _ q2)).1 (by decide) (x := .str "anonsub") rfl ?_ (by decide)
          walk_at "go"
          refine Cmp.eq_str ?_
          refine pick_f ?_
          walk_at "go"
          refine SubT.tup (fz_some (S7 _ _ q2)).1 (by decide) (x := .str "anonsub") rfl ?_ (by decide)
          walk_at "go"
          refine Cmp.eq_str ?_
          refine pick_t ?_
          walk_at "go"
          refine SubT.tup (fz_some (S7 _ _ p2)).1 (by decide) (x := .ref dc) rfl ?_ (by decide)
          walk_at "go"
          refine SubT.dict (hst S7) (x := .ref b) rfl ?_
          refine el1_2 W7.ib ?_
          intro bvs hb7 ab
          refine in1_2 _ (GetM.append hb7) ?_
          walk_at "go"
          refine SubT.tup (fz_some (S7 _ _ p3)).1 (by decide) (x := .ref dcp) rfl ?_ (by decide)
          walk_at "go"
          refine SubT.tup (fz_some (S7 _ _ p3)).1 (by decide) (x := .int size) rfl ?_ (by decide)
          walk_at "go"
          refine ⟨Nat.le_of_ble_eq_true rfl, fun n4 hn4 => ?_⟩
          have K7 : WK m u b ed (fz (own3 m u b) H) (eAV e3) H7 s3 := ⟨W7, S7, hed7⟩
          have K8 := K7.fresh (o := .tup [.int sub, .ref dcp, .int size]) hn4
          have f8 := fz_new (o := .tup [.int sub, .ref dcp, .int size]) W7.lab hn4
          have hb8 := keep_new (o := .tup [.int sub, .ref dcp, .int size]) hb7 hn4
          generalize AH.put H7 n4 (.tup [.int sub, .ref dcp, .int size]) = H8 at K8 f8 hb8
          walk_at "go"
          refine CallV.append hb8 (by have := ab.len; have := hb3.b; simp only [cnt] at this; (first | (simp +arith only; done) | lia | omega)) ?_
          refine el0_2 (K8.W.pushB (x := ((sub : Int), caps, size)) hb8 ⟨n4, dcp, dcs, rfl, f8, K8.S _ _ p7, p8.monoT K8.S.t⟩) ?_
          intro W9 T9
          have K9 : WK m u b ed (fz (own3 m u b) H) (eAV e3) (AH.put H8 b (.list (bvs ++ [.ref n4]))) _ := ⟨W9, K8.S.trans T9, by
            rw [put_ne]
            · exact K8.E
            · intro z; have := K8.E; rw [z, hb8] at this; cases this⟩
          generalize AH.put H8 b (.list (bvs ++ [.ref n4])) = H9 at K9
          walk_at "go"
          refine SubT.tup (fz_some (K9.S _ _ p2)).1 (by decide) (x := .str "anonsub") rfl ?_ (by decide)
          walk_at "go"
          refine Cmp.ne_str ?_
          refine pick_f ?_
          walk_at "go"
          refine SliceT.tup_upto (fz_some (K9.S _ _ p3)).1 (by simp) (by simp) fun n5 hn5 => ?_
          have ek5 : ([.str "subdef", .str "", .ref dbl, .int size, .ref dcp] : List AV).take 2 = [.str "subdef", .str ""] := rfl
          rw [ek5]
          have K10 := K9.fresh (o := .tup [.str "subdef", .str ""]) hn5
          have x5 : (AH.put H9 n5 (.tup [.str "subdef", .str ""])) n5 = some (.tup [.str "subdef", .str ""]) := put_same
          generalize AH.put H9 n5 (.tup [.str "subdef", .str ""]) = H10 at K10 x5
          walk_at "go"
          refine ⟨Nat.le_of_ble_eq_true rfl, fun n6 hn6 => ?_⟩
          have K11 := K10.fresh (o := .tup [.str "subdef", .str ""]) hn6
          have x6 := keep_new (o := .tup [.str "subdef", .str ""]) x5 hn6
          have x7 : (AH.put H10 n6 (.tup [.str "subdef", .str ""])) n6 = some (.tup [.str "subdef", .str ""]) := put_same
          generalize AH.put H10 n6 (.tup [.str "subdef", .str ""]) = H11 at K11 x6 x7
          refine Cmp.ne_data (da := .tuple [.str "subdef", .str ""]) (db := .tuple [.str "subdef", .str ""]) ⟨n5, _, rfl, x6, _, _, rfl, rfl, _, _, rfl, rfl, rfl⟩ ⟨n6, _, rfl, x7, _, _, rfl, rfl, _, _, rfl, rfl, rfl⟩ ?_ (by first | rfl | decide +kernel | simp [PyData.canLay0]) (by first | rfl | decide +kernel | simp [PyData.canLay0]) (by first | decide | rfl | decide +kernel | simp [PyData.depth]) (by (first | (simp +arith only; done) | lia | omega))
          refine pick_f ?_
          walk_at "go"
          refine pick_f ?_
          walk_at "go"
          refine EV.it_plain ?_
          walk_at "go"
          refine SubT.tup (fz_some (K11.S _ _ q2)).1 (by decide) (x := .ref rc) rfl ?_ (by decide)
          walk_at "go"
          refine SubT.tup (fz_some (K11.S _ _ q3)).1 (by decide) (x := .ref rbl) rfl ?_ (by decide)
          walk_at "go"
          refine SubT.tup (fz_some (K11.S _ _ p3)).1 (by decide) (x := .ref dbl) rfl ?_ (by decide)
          walk_at "go"
          refine SubT.dict (hst K11.S) (x := .ref b) rfl ?_
          walk_at "go"
          refine el1_2 K11.W.ib ?_
          intro bvs' hb11 ab'
          have hbl := ab'.len
          refine CallV.len_list hb11 ?_ (by have := hb3.b; simp only [cnt, List.length_append, List.length_singleton] at *; (first | (simp +arith only; done) | lia | omega))
          walk_at "go"
          have elen : ((bvs'.length : Int) - 1) = ((s3.subs.length : Nat) : Int) := by simp at hbl; (first | (simp +arith only; done) | lia | omega)
          rw [elen]
          simp only [wStmt] at h1
          refine el1_2 (Option.map_eq_some_iff.mp h1) ?_
          intro r2 h3 hE1
          obtain rfl := hE1
          have hdp : deps tb + 1 ≤ deps ts := by have := deps_get htr; simpa only [dep] using this
          have fed : fz (own3 m u b) H11 ed = some (.dict (eAV e3)) := fz_of K11.E (fz_some fe).2
          refine CallV.room (ih tb (.inr (List.mem_of_getElem? htr)) db' d _ _ H11 m u b sd ed _ _ e3 _ s3.subs.length r2.1 r2.2 _ K11.W (K11.S _ _ hsd) ⟨rbl, rl, rvs, rfl, K11.S _ _ q4, K11.S _ _ q5, RTs.mono K11.S _ _ q6⟩ ⟨dbl, dl, dus, rfl, K11.S _ _ p4, K11.S _ _ p5, DTs.mono K11.S K11.S.t _ _ p6⟩ fed hne3 h3 ?_ ?_ ?_) (by (first | (simp +arith only; done) | lia | omega))
          · simp only [cnt] at hb3
            exact ⟨by have := hb3.m; simp; (first | (simp +arith only; done) | lia | omega), by have := hb3.u; simp; (first | (simp +arith only; done) | lia | omega), by have := hb3.b; simp; (first | (simp +arith only; done) | lia | omega)⟩
          · exact hlz _ (.inr (List.mem_of_getElem? htr))
          · intro H12 W12 S12
            refine Tru.bool ?_
            refine pick_f ?_
            walk_at "go"
            exact hN.nx _ _ ⟨hc1, hc2, hc3, e3, _, W12, K11.S.trans S12, (fz_some (S12 _ _ fed)).1, hne3, h2, hb'⟩
        | _ => simp [wStmt] at h1
      | use k1 k2 =>
        cases dn with
        | use k1' pl1 k2' pl2 =>
          simp only [RT] at hrt
          simp only [DT] at hdt
          refine el5_6 hrt ?_
          try clear hrt
          intro ra rb2 rl rn1 rn2 e1 q1 q2 q3 q4 q5
          refine el5_6 hdt ?_
          try clear hdt
          intro da db2 dl dn1 dn2 e2 p1 p2 p3 p4 p5
          (have hE0 := refE e1; subst hE0; clear e1)
          (have hE0 := refE e2; subst hE0; clear e2)
          rw [Q1] at q1; cases q1
          rw [P1] at p1; cases p1
          walk_at "go"
          have hst : ∀ {H' : AH}, Sub (fz (own3 m u b) H) (fz (own3 m u b) H') → H' sd = some (.dict (stD m u b)) := fun S => (fz_some (S _ _ hsd)).1
          refine SubT.tup (fz_some (S7 _ _ q2)).1 (by decide) (x := .str "list") rfl ?_ (by decide)
          walk_at "go"
          refine Cmp.eq_str ?_
          refine pick_f ?_
          walk_at "go"
          refine SubT.tup (fz_some (S7 _ _ q2)).1 (by decide) (x := .str "list") rfl ?_ (by decide)
          walk_at "go"
          refine Cmp.eq_str ?_
          refine pick_f ?_
          walk_at "go"
          have K7 : WK m u b ed (fz (own3 m u b) H) (eAV e3) H7 s3 := ⟨W7, S7, hed7⟩
          simp only [wStmt] at h1
          split at h1
          rotate_left
          · exact nsE h1
          rename_i hkk
          refine el0_2 hkk ?_
          try clear hkk
          intro hk1 hk2
          subst hk1 hk2
          refine el1_2 (Option.bind_eq_some_iff.mp h1) ?_
          intro su1 hu1 hu2
          refine el1_2 (Option.map_eq_some_iff.mp hu2) ?_
          intro su2 hu3 hE1
          obtain rfl := hE1
          refine SX.for_zip' ?_
          walk_at "go"
          refine ⟨rfl, ?_⟩
          walk_at "go"
          refine SubT.tup (fz_some (S7 _ _ q2)).1 (by decide) (x := .ref rl) rfl ?_ (by decide)
          walk_at "go"
          refine SubT.tup (fz_some (S7 _ _ p2)).1 (by decide) (x := .ref dl) rfl ?_ (by decide)
          walk_at "go"
          have hul1 : su1.uses.length ≤ s3.uses.length + 1 := by
            rcases wUse_ways hu1 with ⟨_, _, _, _, _, rfl⟩ | ⟨_, _, _, _, _, rfl⟩
            · (first | (simp +arith only; done) | lia | omega)
            · simp
          refine in5_6 rl dl ([.ref rn1, .ref rn2]) ([.ref dn1, .ref dn2]) (fun i l H8 => l "env" = some (.ref ed) ∧ l "state" = some (.ref sd) ∧ l "sub" = some (.int sub) ∧ WK m u b ed (fz (own3 m u b) H) (eAV e3) H8 (if i = 0 then s3 else if i = 1 then su1 else su2)) rfl rfl (⟨hc1, hc2, hc3, K7⟩) ?_ ?_ ?_
          · rintro i l H8 hI0 
            refine el0_4 hI0 ?_
            try clear hI0
            intro _ _ _ K
            exact ⟨(fz_some (K.S _ _ q3)).1, (fz_some (K.S _ _ p3)).1⟩
          · rintro j x y l H8 t' N2 hx hy hI0 hN2 ht'
            refine el0_4 hI0 ?_
            try clear hI0
            intro hl1 hl2 hl3 K
            have hd : ∃ k p na pa, x = .ref na ∧ y = .ref pa ∧ fz (own3 m u b) H na = some (.tup [.str "name", .str (sgS k), .str (nmS k)]) ∧ fz (own3 m u b) H pa = some (.tup [.str (tagOf k p), valOf k p]) ∧
                wUse e3 (if j = 0 then s3 else if j = 1 then su1 else su2) sub k p = some (if j + 1 = 0 then s3 else if j + 1 = 1 then su1 else su2) ∧ (if j = 0 then s3 else if j = 1 then su1 else su2).uses.length ≤ s3.uses.length + 1 := by
              match j, hx, hy with
              | 0, hx, hy => (have hE0 := Option.some.inj hx; subst hE0; clear hx); (have hE0 := Option.some.inj hy; subst hE0; clear hy); exact in4_6 k1 pl1 rn1 dn1 rfl rfl q4 p4 hu1 (by simp)
              | 1, hx, hy => (have hE0 := Option.some.inj hx; subst hE0; clear hx); (have hE0 := Option.some.inj hy; subst hE0; clear hy); exact in4_6 k2 pl2 rn2 dn2 rfl rfl q5 p5 hu3 hul1
              | j + 2, hx, hy => simp at hx
            refine el4_6 hd ?_
            try clear hd
            intro k p na pa hE1 hE2 g1 g2 hu hul
            obtain rfl := hE1
            obtain rfl := hE2
            generalize (if j = 0 then s3 else if j = 1 then su1 else su2) = sa at K hu hul
            have K1 := K.fresh (o := .tup [.ref na, .ref pa]) ht'
            refine AT.tuple put_same rfl ?_
            generalize AH.put H8 t' (.tup [.ref na, .ref pa]) = H9 at K1
            walk_at "go"
            refine in1_2 _ (GetM.dict (id := "dict.get") PySem.F.slot_dict_get PySem.F.type_dict_get K1.E) ?_
            walk_at "go"
            refine SubT.tup (fz_some (K1.S _ _ g1)).1 (by decide) (x := .str (sgS k)) rfl ?_ (by decide)
            walk_at "go"
            refine SubT.tup (fz_some (K1.S _ _ g1)).1 (by decide) (x := .str (nmS k)) rfl ?_ (by decide)
            refine Bin.add_str (ky_line k) ?_
            walk_at "go"
            refine SubT.tup (fz_some (K1.S _ _ g1)).1 (by decide) (x := .str (nmS k)) rfl ?_ (by decide)
            refine Bin.add_str (whole_line k) ?_
            walk_at "go"
            refine CallV.dict_get K1.E ?_
            rw [ky_add]
            have ewh : ("P::" : Str) ++ nmS k = wholeOf k := rfl
            rw [ewh, eget_av]
            have K9s := hst K1.S
            walk_at "go"
            rcases wUse_ways hu with ⟨t, g3, g4, g5, g6, g7⟩ | ⟨i', n', g3, g4, g5, g7⟩
            · rw [g3]
              change LP (fun l H8 => _ ∧ _ ∧ _ ∧ WK m u b ed (fz (own3 m u b) H) (eAV e3) H8 (if j + 1 = 0 then s3 else if j + 1 = 1 then su1 else su2)) _ N2 at hN2
              rw [g7] at hN2
              walk_at "go"
              refine EV.it_plain ?_
              walk_at "go"
              refine CallV.isi_str_str ?_
              refine Tru.bool ?_
              refine pick_t ?_
              walk_at "go"
              refine sp_ends (d := d + 3 * deps ts + 6) fun nn hnn => ?_
              have K2 := K1.fresh (o := .dict endsD) hnn
              have xe : (AH.put H9 nn (.dict endsD)) nn = some (.dict endsD) := put_same
              generalize AH.put H9 nn (.dict endsD) = H10 at K2 xe
              walk_at "go"
              refine SubT.tup (fz_some (K2.S _ _ g1)).1 (by decide) (x := .str (sgS k)) rfl ?_ (by decide)
              refine SubT.dict xe (endsD_get k) ?_
              refine Bin.add_str (glob_line k) ?_
              walk_at "go"
              refine ⟨Nat.le_of_ble_eq_true rfl, fun n4 hn4 => ?_⟩
              have K3 := K2.fresh (o := .tup [.str ("glob" ++ enS k), .str t]) hn4
              have x4 : (AH.put H10 n4 (.tup [.str ("glob" ++ enS k), .str t])) n4 = some (.tup [.str ("glob" ++ enS k), .str t]) := put_same
              generalize eH11 : AH.put H10 n4 (.tup [.str ("glob" ++ enS k), .str t]) = H11 at K3 x4
              have eH11' : AH.put H10 n4 (.tup [.str ("glob" ++ enS k), (Tg.str t).av]) = H11 := eH11
              have g2' := (fz_some (K3.S _ _ g2)).1
              rw [g4, g5] at g2'
              refine Cmp.ne_data (da := .tuple [.str ("glob" ++ enS k), .str t]) (db := .tuple [.str ("glob" ++ enS k), .str t]) ⟨pa, _, rfl, by simpa only [eH11, eH11'] using g2', _, _, rfl, rfl, _, _, rfl, rfl, rfl⟩ ⟨n4, _, rfl, by simpa only [eH11, eH11'] using x4, _, _, rfl, rfl, _, _, rfl, rfl, rfl⟩ ?_ (by simp only [PyData.canLay0, PyData.canLayAll0, g6, glob_ok k, Bool.and_self]) (by simp only [PyData.canLay0, PyData.canLayAll0, g6, glob_ok k, Bool.and_self]) (by simp [PyData.depth, PyData.depthAll]) (by (first | (simp +arith only; done) | lia | omega))
              have eq1 : PyData.eqv (.tuple [.str ("glob" ++ enS k), .str t]) (.tuple [.str ("glob" ++ enS k), .str t]) = true := by simp [PyData.eqv, PyData.eqvAll]
              rw [eq1]
              refine pick_f ?_
              walk_at "go"
              exact hN2.nx _ _ ⟨hl1, hl2, hl3, by rw [← eH11] at K3; exact K3⟩
            · rw [g3]
              change LP (fun l H8 => _ ∧ _ ∧ _ ∧ WK m u b ed (fz (own3 m u b) H) (eAV e3) H8 (if j + 1 = 0 then s3 else if j + 1 = 1 then su1 else su2)) _ N2 at hN2
              rw [g7] at hN2
              walk_at "go"
              refine EV.it_plain ?_
              walk_at "go"
              refine CallV.isi_int_str ?_
              refine Tru.bool ?_
              refine pick_f ?_
              walk_at "go"
              refine SubT.tup (fz_some (K1.S _ _ g2)).1 (by decide) (x := .str (tagOf k p)) rfl ?_ (by decide)
              rw [g4]
              walk_at "go"
              refine sp_ends (d := d + 3 * deps ts + 6) fun nn hnn => ?_
              have K2 := K1.fresh (o := .dict endsD) hnn
              have xe : (AH.put H9 nn (.dict endsD)) nn = some (.dict endsD) := put_same
              generalize AH.put H9 nn (.dict endsD) = H10 at K2 xe
              walk_at "go"
              refine SubT.tup (fz_some (K2.S _ _ g1)).1 (by decide) (x := .str (sgS k)) rfl ?_ (by decide)
              refine SubT.dict xe (endsD_get k) ?_
              refine Bin.add_str (pad_line k) ?_
              refine Cmp.ne_str ?_
              rw [show (!(("pad" : Str) ++ enS k == "pad" ++ enS k)) = false by simp]
              refine pick_f ?_
              walk_at "go"
              refine SubT.dict (hst K2.S) (x := .ref u) rfl ?_
              refine el1_2 K2.W.iu ?_
              intro uvs hu10 au
              refine in1_2 _ (GetM.append hu10) ?_
              walk_at "go"
              refine SubT.tup (fz_some (K2.S _ _ g2)).1 (by decide) (x := valOf k p) rfl ?_ (by decide)
              rw [g5]
              walk_at "go"
              refine SubT.tup (fz_some (K2.S _ _ g1)).1 (by decide) (x := .str (sgS k)) rfl ?_ (by decide)
              walk_at "go"
              refine ⟨Nat.le_of_ble_eq_true rfl, fun n4 hn4 => ?_⟩
              have K3 := K2.fresh (o := .tup [.int sub, .int n', .int i', .str (sgS k)]) hn4
              have f3 := fz_new (o := .tup [.int sub, .int n', .int i', .str (sgS k)]) K2.W.lab hn4
              have hu11 := keep_new (o := .tup [.int sub, .int n', .int i', .str (sgS k)]) hu10 hn4
              have ePut : AH.put H10 n4 (.tup [.int sub, .int n', (Tg.int i').av, .str (sgS k)]) = AH.put H10 n4 (.tup [.int sub, .int n', .int i', .str (sgS k)]) := rfl
              try rw [ePut]
              generalize AH.put H10 n4 (.tup [.int sub, .int n', .int i', .str (sgS k)]) = H11 at K3 f3 hu11
              walk_at "go"
              refine CallV.append hu11 (by have := au.len; have := hb3.u; (first | (simp +arith only; done) | lia | omega)) ?_
              refine el0_2 (K3.W.pushU (x := (sub, n', i', k)) hu11 ⟨n4, rfl, f3⟩) ?_
              intro W9 T9
              walk_at "go"
              exact hN2.nx _ _ ⟨hl1, hl2, hl3, W9, K3.S.trans T9, by
                rw [put_ne]
                · exact K3.E
                · intro z; have := K3.E; rw [z, hu11] at this; cases this⟩
          · rintro l H8 hI0 
            refine el0_4 hI0 ?_
            try clear hI0
            intro hl1 hl2 hl3 K
            walk_at "go"
            exact hN.nx _ _ ⟨hl1, hl2, hl3, e3, su2, K.W, K.S, K.E, hne3, h2, hb'⟩
        | _ => simp [wStmt] at h1
  · rintro lc H3 hI0 
    refine hide fun PZ kZ => ?_
    obtain ⟨hc1, hc2, hc3, e3, s3, W3, S3, hed3, hne3, hw3, hb3⟩ := hI0
    refine kZ ?_
    clear kZ PZ
    rw [List.drop_of_length_le (by (first | (simp +arith only; done) | lia | omega)), List.drop_of_length_le (by (first | (simp +arith only; done) | lia | omega))] at hw3
    simp only [wStmts] at hw3
    (have hE0 := sprE hw3; clear hw3; refine el0_2 hE0 ?_; clear hE0; intro hE1 hE2; subst hE1; subst hE2)
    walk_at "go"
    exact q _ W3 S3
end

section
variable {ad : Ads} {w : World}
noncomputable def trIn : Tr → List Tr
  | .anon b => b
  | .bare b => b
  | _ => []
theorem woks_mem : ∀ {ts : List Tr} {t : Tr}, woks ts → t ∈ ts → wok t
  | [], t, _, h => nomatch h
  | u :: ts, t, w, h => by
    simp only [woks] at w
    cases h with
    | head => exact w.1
    | tail _ h => exact woks_mem w.2 h
theorem wblock' (ts : List Tr) (hw : woks ts) (h : ∀ t, t ∈ ts → WSpec ad w (trIn t)) : WSpec ad w ts :=
  wblock ts (fun t k => by
    rcases k with k | k
    · exact h _ k
    · exact h _ k)
    (fun t h => by
    rcases h with h | h
    · have := woks_mem hw h; simp only [wok] at this; exact this.1
    · have := woks_mem hw h; simp only [wok] at this; exact this.1)
mutual
theorem sp_walk_t : ∀ (t : Tr), wok t → WSpec ad w (trIn t)
  | .my k, _ => wblock' [] (by simp only [trIn, woks]) (fun t h => by simp at h)
  | .use k1 k2, _ => wblock' [] (by simp only [trIn, woks]) (fun t h => by simp at h)
  | .anon b, h => wblock' b (by simp only [wok] at h; exact h.2) (sp_walk_l b (by simp only [wok] at h; exact h.2))
  | .bare b, h => wblock' b (by simp only [wok] at h; exact h.2) (sp_walk_l b (by simp only [wok] at h; exact h.2))
theorem sp_walk_l : ∀ (ts : List Tr), woks ts → ∀ t, t ∈ ts → WSpec ad w (trIn t)
  | [], _, t, h => nomatch h
  | u :: ts, hw, t, h => by
    simp only [woks] at hw
    cases h with
    | head => exact sp_walk_t u hw.1
    | tail _ h => exact sp_walk_l ts hw.2 t h
end
theorem sp_walk (ts : List Tr) (hw : woks ts) : WSpec ad w ts := wblock' ts hw (sp_walk_l ts hw)
end

/-! ## what the walk leaves, with the key of each `my`; roots, needs -/
structure VS where
  mys : List (Nat × Nat × Fin 5)
  uses : List (Nat × Nat × Int × Fin 5)
  subs : List (Int × List (Nat × Nat × Fin 5) × Nat)
noncomputable def VS.ws (v : VS) : WS := ⟨v.mys.map fun x => (x.1, x.2.1), v.uses, v.subs⟩

inductive Rt (seen : List (Fin 5 × Nat)) (F : VS) : Int → Nat → Int → Fin 5 → Prop
  | my {sub n i : Nat} {k : Fin 5} : F.mys[i]? = some (sub, n, k) → Rt seen F (sub : Int) n (i : Int) k
  | cap {sub : Nat} {p : Int} {caps : List (Nat × Nat × Fin 5)} {size o n : Nat} {i : Int} {k : Fin 5} : F.subs[sub]? = some (p, caps, size) → (o, n, k) ∈ caps → Rt seen F p o i k → Rt seen F (sub : Int) n i k
  | base {k : Fin 5} {n : Nat} : (k, n) ∈ seen → Rt seen F (-1) n (-1 - n) k

noncomputable def ownerOf (F : VS) (i : Int) : Int := if 0 ≤ i then ((F.mys[i.toNat]?).map fun x => (x.1 : Int)).getD (-1) else -1

inductive Nd (F : VS) : Nat → Int → Fin 5 → Prop
  | use {v n : Nat} {i : Int} {k : Fin 5} : (v, n, i, k) ∈ F.uses → (v : Int) ≠ ownerOf F i → Nd F v i k
  | up {v v' : Nat} {caps : List (Nat × Nat × Fin 5)} {size : Nat} {i : Int} {k : Fin 5} : Nd F v' i k → F.subs[v']? = some ((v : Int), caps, size) → (v : Int) ≠ ownerOf F i → Nd F v i k

inductive On (F : VS) (i : Int) : Int → Nat → Prop
  | here {v : Nat} : (v : Int) ≠ ownerOf F i → On F i (v : Int) v
  | up {u v : Nat} {p : Int} {caps : List (Nat × Nat × Fin 5)} {size : Nat} : (u : Int) ≠ ownerOf F i → F.subs[u]? = some (p, caps, size) → On F i p v → On F i (u : Int) v

structure FOK (seen : List (Fin 5 × Nat)) (F : VS) : Prop where
  par : ∀ (v : Nat) (p : Int) (caps : List (Nat × Nat × Fin 5)) (size : Nat), F.subs[v]? = some (p, caps, size) → -1 ≤ p ∧ p < (v : Int)
  slots : ∀ (v : Nat) (p : Int) (caps : List (Nat × Nat × Fin 5)) (size : Nat), F.subs[v]? = some (p, caps, size) → ((F.mys.filter (fun x => x.1 = v)).map (fun x => x.2.1) ++ caps.map (fun x => x.2.1)).Perm (List.range size)
  caps : ∀ (v : Nat) (p : Int) (caps : List (Nat × Nat × Fin 5)) (size : Nat), F.subs[v]? = some (p, caps, size) → (caps.map fun x => x.2.2).Nodup ∧ ∀ o n k, (o, n, k) ∈ caps → ∃ i, Rt seen F p o i k ∧ Nd F v i k
  uses : ∀ (u n : Nat) (i : Int) (k : Fin 5), (u, n, i, k) ∈ F.uses → u < F.subs.length ∧ Rt seen F (u : Int) n i k
  mysub : ∀ (j s n : Nat) (k : Fin 5), F.mys[j]? = some (s, n, k) → s < F.subs.length
  seen : (seen.map (·.2)).Nodup

section
variable {seen : List (Fin 5 × Nat)} {F : VS}
theorem On.snoc {i u : Int} {v w : Nat} {caps : List (Nat × Nat × Fin 5)} {size : Nat} (h : On F i u v) (hp : F.subs[v]? = some ((w : Int), caps, size)) (hw : (w : Int) ≠ ownerOf F i) : On F i u w := by
  induction h with
  | here hv => exact .up hv hp (.here hw)
  | up hu hs _ ih => exact .up hu hs (ih hp)
theorem Nd.on {v : Nat} {i : Int} {k : Fin 5} (h : Nd F v i k) : ∃ u n, (u, n, i, k) ∈ F.uses ∧ On F i (u : Int) v := by
  induction h with
  | use hm ho => exact in2_2 _ _ hm (.here ho)
  | up _ hs ho ih => obtain ⟨u, n, hu, h⟩ := ih; exact in2_2 u n hu (h.snoc hs ho)

theorem filt_nodup {α : Type} {p : α → Bool} {f : α → Nat} : ∀ {l : List α}, ((l.filter p).map f).Nodup → ∀ (a b : Nat) (x y : α), l[a]? = some x → l[b]? = some y → p x = true → p y = true → f x = f y → a = b
  | [], _, a, b, x, y, ha, _, _, _, _ => by simp at ha
  | z :: l, h, a, b, x, y, ha, hb, px, py, e => by
    have hl : ((l.filter p).map f).Nodup := by
      by_cases pz : p z = true
      · simp only [List.filter_cons, pz, if_true, List.map_cons, List.nodup_cons] at h; exact h.2
      · simp only [List.filter_cons, pz] at h; simpa using h
    have hz : p z = true → ∀ w, w ∈ l → p w = true → f w ≠ f z := by
      intro pz w hw pw e
      simp only [List.filter_cons, pz, if_true, List.map_cons, List.nodup_cons] at h
      exact h.1 (e ▸ List.mem_map_of_mem (List.mem_filter.mpr ⟨hw, pw⟩))
    cases a with
    | zero =>
      cases b with
      | zero => rfl
      | succ b =>
        simp at ha hb; subst ha
        exact absurd e.symm (hz px y (List.mem_of_getElem? hb) py)
    | succ a =>
      cases b with
      | zero =>
        simp at ha hb; subst hb
        exact absurd e (hz py x (List.mem_of_getElem? ha) px)
      | succ b => rw [filt_nodup hl a b x y (by simpa using ha) (by simpa using hb) px py e]

theorem FOK.nodup (ok : FOK seen F) {v : Nat} {p : Int} {caps : List (Nat × Nat × Fin 5)} {size : Nat} (h : F.subs[v]? = some (p, caps, size)) :
    ((F.mys.filter (fun x => x.1 = v)).map (fun x => x.2.1) ++ caps.map (fun x => x.2.1)).Nodup := (ok.slots v p caps size h).nodup_iff.mpr List.nodup_range

theorem FOK.my_inj (ok : FOK seen F) {a b s n : Nat} {k k' : Fin 5} (ha : F.mys[a]? = some (s, n, k)) (hb : F.mys[b]? = some (s, n, k')) : a = b := by
  have hs := ok.mysub _ _ _ _ ha
  obtain ⟨p, caps, size, hq⟩ : ∃ p caps size, F.subs[s] = (p, caps, size) := ⟨_, _, _, rfl⟩
  have hq' : F.subs[s]? = some (p, caps, size) := by rw [← hq]; exact List.getElem?_eq_getElem hs
  have := (List.nodup_append.mp (ok.nodup hq')).1
  exact filt_nodup this a b _ _ ha hb (by simp) (by simp) rfl

theorem FOK.cap_not_my (ok : FOK seen F) {v : Nat} {p : Int} {caps : List (Nat × Nat × Fin 5)} {size : Nat} (h : F.subs[v]? = some (p, caps, size)) {o n : Nat} {k : Fin 5} (hc : (o, n, k) ∈ caps) {j : Nat} {k' : Fin 5} : F.mys[j]? ≠ some (v, n, k') := by
  intro hj
  have := (List.nodup_append.mp (ok.nodup h)).2.2
  exact this n (List.mem_map.mpr ⟨(v, n, k'), List.mem_filter.mpr ⟨List.mem_of_getElem? hj, by simp⟩, rfl⟩) n (List.mem_map.mpr ⟨(o, n, k), hc, rfl⟩) rfl

theorem filter_one {α : Type} {f : α → Nat} {n : Nat} : ∀ {l : List α} {x : α}, (l.map f).Nodup → x ∈ l → f x = n → l.filter (fun y => f y = n) = [x]
  | [], x, _, h, _ => nomatch h
  | z :: l, x, h, hx, e => by
    simp only [List.map_cons, List.nodup_cons] at h
    rcases List.mem_cons.mp hx with rfl | hx
    · rw [List.filter_cons_of_pos (by simp [e])]
      rw [List.filter_eq_nil_iff.mpr]
      intro y hy z
      simp at z
      exact h.1 (by rw [e, ← z]; exact List.mem_map_of_mem hy)
    · rw [List.filter_cons_of_neg]
      · exact filter_one h.2 hx e
      · intro z
        simp at z
        exact h.1 (by rw [z, ← e]; exact List.mem_map_of_mem hx)
theorem FOK.cap_one (ok : FOK seen F) {v : Nat} {p : Int} {caps : List (Nat × Nat × Fin 5)} {size : Nat} (h : F.subs[v]? = some (p, caps, size)) {o n : Nat} {k : Fin 5} (hc : (o, n, k) ∈ caps) : caps.filter (fun y => y.2.1 = n) = [(o, n, k)] :=
  filter_one (f := fun y : Nat × Nat × Fin 5 => y.2.1) ((List.nodup_append.mp (ok.nodup h)).2.1) hc rfl

theorem Rt.ival {sub i : Int} {n : Nat} {k : Fin 5} (h : Rt seen F sub n i k) : (∃ (j : Nat) (s m : Nat), i = j ∧ F.mys[j]? = some (s, m, k)) ∨ (∃ m : Nat, i = -1 - (m : Int) ∧ (k, m) ∈ seen) := by
  induction h with
  | my hm => exact .inl ⟨_, _, _, rfl, hm⟩
  | cap _ _ _ ih => exact ih
  | base hm => exact .inr ⟨_, rfl, hm⟩
/-- the key of a target is one -/
theorem FOK.key (ok : FOK seen F) {s1 s2 i : Int} {n1 n2 : Nat} {k1 k2 : Fin 5} (h1 : Rt seen F s1 n1 i k1) (h2 : Rt seen F s2 n2 i k2) : k1 = k2 := by
  rcases h1.ival with ⟨j, s, m, e, hm⟩ | ⟨m, e, hm⟩
  · rcases h2.ival with ⟨j', s', m', e', hm'⟩ | ⟨m', e', hm'⟩
    · have : j = j' := by (first | (simp +arith only; done) | lia | omega)
      subst this; rw [hm] at hm'; cases hm'; rfl
    · (first | (simp +arith only; done) | lia | omega)
  · rcases h2.ival with ⟨j', s', m', e', hm'⟩ | ⟨m', e', hm'⟩
    · (first | (simp +arith only; done) | lia | omega)
    · have : m = m' := by (first | (simp +arith only; done) | lia | omega)
      subst this
      have key : ∀ {l : List (Fin 5 × Nat)}, (l.map (·.2)).Nodup → (k1, m) ∈ l → (k2, m) ∈ l → k1 = k2 := by
        intro l hl h1 h2
        induction l with
        | nil => cases h1
        | cons z l ih =>
          simp only [List.map_cons, List.nodup_cons] at hl
          rcases List.mem_cons.mp h1 with h1 | h1
          · rcases List.mem_cons.mp h2 with h2 | h2
            · rw [← h1] at h2; cases h2; rfl
            · exact absurd (List.mem_map.mpr ⟨_, h2, by rw [← h1]⟩) hl.1
          · rcases List.mem_cons.mp h2 with h2 | h2
            · exact absurd (List.mem_map.mpr ⟨_, h1, by rw [← h2]⟩) hl.1
            · exact ih hl.2 h1 h2
      exact key ok.seen hm hm'
end

structure SR (H : AH) (sd m u b : Addr) (s : WS) : Prop where
  d : H sd = some (.dict (stD m u b))
  im : ∃ vs, H m = some (.list vs) ∧ AllR (mP H) s.mys vs
  iu : ∃ vs, H u = some (.list vs) ∧ AllR (uP H) s.uses vs
  ib : ∃ vs, H b = some (.list vs) ∧ AllR (bP H) s.subs vs
theorem SR.mono {H H' : AH} {sd m u b : Addr} {s : WS} (S : SR H sd m u b s) (h : Sub H H') : SR H' sd m u b s := by
  refine hide fun PZ kZ => ?_
  obtain ⟨d, hE1, hE2, hE3⟩ := S
  refine kZ ?_
  clear kZ PZ
  refine el1_2 hE1 ?_
  try clear hE1
  intro vs h1 r1
  refine el1_2 hE2 ?_
  try clear hE2
  intro us h2 r2
  refine el1_2 hE3 ?_
  try clear hE3
  intro bs h3 r3
  exact ⟨h _ _ d, ⟨vs, h _ _ h1, r1.mono fun x v => mP.mono h.n x v⟩, ⟨us, h _ _ h2, r2.mono fun x v => uP.mono h.n x v⟩, ⟨bs, h _ _ h3, r3.mono fun x v => bP.mono h.n x v⟩⟩
theorem Sub.fresh {H : AH} {a : Addr} {o : AO} (ha : H a = none) : Sub H (AH.put H a o) := fun x y h => by
  rw [put_ne]
  · exact h
  · intro z; subst z; rw [ha] at h; exact nsE h
theorem AllR.at {α : Type} {P : α → AV → Prop} : ∀ {l : List α} {vs : List AV}, AllR P l vs → ∀ (i : Nat) (x : α), l[i]? = some x → ∃ v, vs[i]? = some v ∧ P x v := by
  intro l vs h i x hx
  have hl := h.len
  refine hide fun PZ kZ => ?_
  obtain ⟨hi, e⟩ := List.getElem?_eq_some_iff.mp hx
  refine kZ ?_
  clear kZ PZ
  have hv : vs[i]? = some vs[i] := List.getElem?_eq_getElem (by (first | (simp +arith only; done) | lia | omega))
  refine el1_2 (h.get i _ hv) ?_
  intro y hy p
  rw [hx] at hy; (have hE0 := Option.some.inj hy; subst hE0; clear hy)
  exact in1_2 _ hv p
theorem CapsR.at {F : AH} : ∀ {l : List (Nat × Nat × Fin 5)} {vs : List AV}, CapsR F l vs → ∀ (j : Nat) (v : AV), vs[j]? = some v → ∃ o n k t, l[j]? = some (o, n, k) ∧ v = .ref t ∧ F t = some (.tup [.int o, .int n, .str (sgS k)])
  | [], vs, h, j, v, hv => by simp only [CapsR] at h; subst h; simp at hv
  | (o, n, k) :: l, vs, h, j, v, hv => by
    simp only [CapsR] at h
    refine el2_3 h ?_
    try clear h
    intro t r hE1 h1 h2
    obtain rfl := hE1
    cases j with
    | zero => simp at hv; subst hv; exact in4_3 o n k t rfl rfl h1
    | succ j => exact CapsR.at h2 j v (by simpa using hv)
theorem take_snoc {α : Type} {l : List α} {j : Nat} {x : α} (h : l[j]? = some x) : l.take (j + 1) = l.take j ++ [x] := by
  rw [List.take_succ, h]; rfl
noncomputable def dM (x : Nat × Nat) : PyData := .tuple [.int x.1, .int x.2]
theorem mys_rds {H : AH} : ∀ {l : List (Nat × Nat)} {vs : List AV}, AllR (mP H) l vs → RDs H (l.map dM) vs
  | [], vs, h => by simp only [AllR] at h; subst h; simp only [List.map_nil, RDs]
  | x :: l, vs, h => by
    simp only [AllR] at h
    refine el2_3 h ?_
    try clear h
    intro v r hE1 hE2 hr
    obtain rfl := hE1
    refine el1_2 hE2 ?_
    try clear hE2
    intro t hE3 ht
    obtain rfl := hE3
    simp only [List.map_cons, RDs, dM, RD]
    exact in2_3 _ _ rfl (⟨t, _, rfl, ht, _, _, rfl, rfl, _, _, rfl, rfl, rfl⟩) (mys_rds hr)
theorem mys_lay : ∀ l : List (Nat × Nat), PyData.canLayAll0 (l.map dM) = true
  | [] => rfl
  | x :: l => by simp only [List.map_cons, PyData.canLayAll0, mys_lay l, dM, PyData.canLay0, Bool.and_self]
theorem mys_eqv (x y : Nat × Nat) : PyData.eqv (dM x) (dM y) = decide (x = y) := by
  refine hide fun PZ kZ => ?_
  obtain ⟨a, b⟩ := x
  refine kZ ?_
  clear kZ PZ
  refine hide fun PZ kZ => ?_
  obtain ⟨c, d⟩ := y
  refine kZ ?_
  clear kZ PZ
  simp [dM, PyData.eqv, PyData.eqvAll, Prod.ext_iff, Bool.decide_and]
  rw [show ((a : Int) == (c : Int)) = decide (a = c) by rw [Bool.eq_iff_iff]; simp; (first | (simp +arith only; done) | lia | omega), show ((b : Int) == (d : Int)) = decide (b = d) by rw [Bool.eq_iff_iff]; simp; (first | (simp +arith only; done) | lia | omega)]
theorem mys_any (y : Nat × Nat) (l : List (Nat × Nat)) : ((l.map dM).any fun e => PyData.eqv e (dM y)) = decide (y ∈ l) := by
  rw [List.any_map]
  simp only [Function.comp_def, mys_eqv]
  rw [Bool.eq_iff_iff]
  simp
section
variable {ad : Ads} {w : World} {sc : Scope} {d : Nat} {loc : Loc} {H : AH}
theorem SX.assign_comp {elt target iter : Expr} {ifs : List Expr} {scope : Scope} {pos px spos : Pos} {x : Str} {Q : AF → Loc → AH → Prop} (tup : Bool)
    (ok : compOK scope sc = true) (hk : sc.names.lookup x = some .local)
    (h : EV ad w sc d absV (eval iter) loc H (fun v H0 => ∃ (a : Addr) (xs : List AV) (I : Nat → List AV → AH → Prop), v = .ref a ∧ xs.length ≤ 1000 ∧ I 0 [] H0 ∧ (∀ i acc H1, I i acc H1 → H1 a = some (aseq tup xs)) ∧
      (∀ i acc x l H1, xs[i]? = some x → I i acc H1 → (∀ y, (relS scope sc).names.lookup y = some .cell → l y = loc y) →
        AT ad w (relS scope sc) d target x l H1 (fun l2 H2 => TE ad w (relS scope sc) d ifs l2 H2 (fun c H3 => (c = true → EV ad w (relS scope sc) d absV (eval elt) l2 H3 (fun y H4 => I (i + 1) (acc ++ [y]) H4)) ∧ (c = false → I (i + 1) acc H3)))) ∧
      (∀ acc H1 n, I xs.length acc H1 → acc.length ≤ xs.length → H1 n = none → Q .next (Loc.set loc x (.ref n)) (AH.put H1 n (.list acc)))))
    (hsw : ∀ env, EnvIs sc env → swapsWith (.ListComp elt [⟨target, iter, ifs, 0⟩] scope pos) (some (.Name x px)) spos.line env = pure true)
    (hs : ∀ env x, foldedSetIterable iter env x = pure x := by with_unfolding_all (intro _ _; rfl)) : SX ad w sc d (exec (.Assign [.Name x px] (.ListComp elt [⟨target, iter, ifs, 0⟩] scope pos) spos)) loc H Q := by
  intro A B env s r g e R
  have ok' := CompOK.of ok
  have cells : ∀ n, (n, NameKind.free) ∈ scope.names → (env.cells.lookup n).isSome = true := fun n hn => by
    refine el2_2 (R.cl n (by unfold Env.kindOf; rw [e.scope]; exact ok'.free n hn)) ?_
    intro c v h1 _
    rw [h1]; rfl
  rw [exec_Assign_Name_used _ _ _ _ (hsw env e)]
  refine wpAny_bind (wpAny_standAt (wpAny_bind ?_))
  show wpAny _ A (do let _ ← comprehension (.ListComp elt [⟨target, iter, ifs, 0⟩] scope pos) scope env _ (newList []) false (eval iter env) (some (assign (.Name x px) env))) _ _ s
  refine wpAny_bind (wpAny_mono (wpAny_comprehension_free (use := some (assign (.Name x px) env)) (E := fun _ _ => False) (Q := fun _ s' => ∃ h' k' loc' H', s' = { s with heap := h', toks := k' } ∧ Rep w B env h' loc' H' ∧ Q .next loc' H') rfl (hs env) (clos_eq cells) ok'.kind ok'.names ?_)
    (fun _ s' hq => wpAny_pure (wpAny_pure hq)) fun _ _ e => e)
  refine h.then r g e R fun v h1 k1 H1 R1 q1 => ?_
  refine el3_6 q1 ?_
  try clear q1
  intro a xs I hv hz i0 ia turn fin
  have := absV_ref hv; subst this
  refine comp_run (RR := fun acc C => compPost (model prog w) A _ (some (assign (.Name x px) env)) _ acc C) r g e R1 ok' hz i0 ia turn fun acc H2 D C h' tk iv hl R2 oC oD nDC nC hD => ?_
  refine el1_1 nC ?_
  try clear nC
  intro m nC
  refine el3_3 nC ?_
  try clear nC
  intro oc es ep c1 c2 c3
  have oC2 : Off B env (AH.put H2 D (.list acc)) C := ⟨by rw [put_ne (Ne.symm nDC)]; exact oC.h, oC.l, oC.c, oC.b⟩
  have R3 : Rep w (gd B [C] h') env h' loc (AH.put H2 D (.list acc)) := (R2.adopt oD hD).gd_in (fun b hb => by have := List.mem_singleton.mp hb; subst this; exact oC2) fun b o _ eb => eb
  show wpAny _ A (assign (.Name x px) env (.ref D)) _ _ _
  have st := AT.name (ad := ad) (w := w) (sc := sc) (d := d) (loc := loc) (H := AH.put H2 D (.list acc)) (pos := px) (v := .ref D) (Q := fun l H3 => l = Loc.set loc x (.ref D) ∧ H3 = AH.put H2 D (.list acc)) hk ⟨rfl, rfl⟩
  refine (st (.ref D) rfl).then r (gd_gx (h := h') g fun b hb => by have := List.mem_singleton.mp hb; subst this; exact oC.b) e (s := { s with heap := h', toks := tk }) R3 fun h4 k4 l4 H4 R4 q4 => ?_
  refine el0_2 q4 ?_
  try clear q4
  intro hE1 hE2
  obtain rfl := hE1
  obtain rfl := hE2
  have hC4 : h4.get? C = some oc := R4.gd_get (.head _) c1
  refine in1_2 m (⟨oc, es, ep, hC4, c2, c3⟩) (fun h5 sb => ⟨h5, k4, _, _, rfl, ?_, fin acc H2 D iv hl oD.h⟩)
  exact (R4.gd_out fun b hb => by have := List.mem_singleton.mp hb; subst this; exact oC.b).other oC2 sb
theorem sp_owner {sd m u b : Addr} {F : VS} {i : Int} {Q : AV → AH → Prop} (S : SR H sd m u b F.ws) (hi : ∀ j : Nat, i = j → ∃ x, F.mys[j]? = some x) (hz : F.mys.length ≤ 400) (q : Q (.int (ownerOf F i)) H) :
    CallV ad w sc (d + 1) (.ref (ad.fn 50)) [.ref sd, .int i] loc H Q := by
  refine CallV.fn2 (by conv => lhs; whnf) (by decide) rfl (fun _ _ _ _ _ => rfl) (by decide) (by decide) ?_
  walk_at "go"
  refine Cmp.ge_int ?_
  by_cases h0 : 0 ≤ i
  · rw [show decide (i ≥ 0) = true from decide_eq_true h0]
    refine pick_t ?_
    walk_at "go"
    refine SubT.dict S.d (x := .ref m) rfl ?_
    walk_at "go"
    refine el1_2 S.im ?_
    intro ms hm am
    refine el1_1 (hi i.toNat (by (first | (simp +arith only; done) | lia | omega))) ?_
    intro hE1 hx
    refine hide fun PZ kZ => ?_
    obtain ⟨s, n, k⟩ := hE1
    refine kZ ?_
    clear kZ PZ
    refine hide fun PZ kZ => ?_
    obtain ⟨v, hv, t, hE1, ht⟩ := am.at i.toNat (s, n) (by simp [VS.ws, hx])
    refine kZ ?_
    clear kZ PZ
    obtain rfl := hE1
    have hlt := (List.getElem?_eq_some_iff.mp hx).1
    refine SubT.list hm h0 hv ?_ (by (first | (simp +arith only; done) | lia | omega))
    walk_at "go"
    refine SubT.tup ht (by decide) (x := .int s) rfl ?_ (by decide)
    have : ownerOf F i = (s : Int) := by unfold ownerOf; rw [if_pos h0, hx]; rfl
    rw [this] at q; exact q
  · rw [show decide (i ≥ 0) = false from decide_eq_false h0]
    refine pick_f ?_
    walk_at "go"
    have : ownerOf F i = -1 := by unfold ownerOf; rw [if_neg h0]
    rw [this] at q; exact q
theorem sp_root {sd m u b : Addr} {seen : List (Fin 5 × Nat)} {F : VS} {sub i : Int} {slot : Nat} {k : Fin 5} {Q : AV → AH → Prop} (ok : FOK seen F) (S : SR H sd m u b F.ws) (hR : Rt seen F sub slot i k)
    (hz : F.mys.length ≤ 400) (hzs : F.subs.length ≤ 400) (q : ∀ H', Sub H H' → Q (.int i) H') :
    CallV ad w sc (d + 3) (.ref (ad.fn 51)) [.ref sd, .int sub, .int slot] loc H Q := by
  refine CallV.fn3 (by conv => lhs; whnf) (by decide) rfl (fun _ _ _ _ _ _ => rfl) (by decide) (by decide) ?_
  walk_at "go"
  refine SX.while' (fun n lc H1 => ∃ (sub : Int) (slot : Nat), n = (sub + 1).toNat ∧ lc "sub" = some (.int sub) ∧ lc "slot" = some (.int slot) ∧ lc "state" = some (.ref sd) ∧ Rt seen F sub slot i k ∧ Sub H H1) (sub + 1).toNat ⟨sub, slot, rfl, rfl, rfl, rfl, hR, .refl⟩ ?_
  clear hR sub slot
  rintro n lc H1 M hI0 hM
  refine el2_6 hI0 ?_
  try clear hI0
  intro sub slot hE1 hc1 hc2 hc3 hR T
  obtain rfl := hE1
  walk_at "go"
  refine Cmp.ge_int ?_
  have S1 := S.mono T
  cases hR with
  | base hm =>
    refine pick_f ?_
    walk_at "go"
    exact q _ T
  | @my sub _ j _ hm =>
    rw [show decide ((sub : Int) ≥ 0) = true from decide_eq_true (by (first | (simp +arith only; done) | lia | omega))]
    refine pick_t ?_
    walk_at "go"
    refine ⟨Nat.le_of_ble_eq_true rfl, fun t ht => ?_⟩
    have T2 := T.trans (Sub.fresh (o := .tup [.int sub, .int slot]) ht)
    have x1 : AH.put H1 t (.tup [.int sub, .int slot]) t = some (.tup [.int sub, .int slot]) := put_same
    generalize AH.put H1 t (.tup [.int sub, .int slot]) = H2 at T2 x1
    have S2 := S.mono T2
    walk_at "go"
    refine SubT.dict S2.d (x := .ref m) rfl ?_
    refine el1_2 S2.im ?_
    intro ms hm2 am
    have hmem : (sub, slot) ∈ F.ws.mys := List.mem_map.mpr ⟨(sub, slot, k), List.mem_of_getElem? hm, rfl⟩
    refine Cmp.in_data (dx := dM (sub, slot)) hm2 (mys_rds am) ⟨t, _, rfl, x1, _, _, rfl, rfl, _, _, rfl, rfl, rfl⟩ ?_ (mys_lay _) rfl (by simp [dM, PyData.depth, PyData.depthAll]) (by (first | (simp +arith only; done) | lia | omega))
    rw [mys_any, decide_eq_true hmem]
    refine pick_t ?_
    walk_at "go"
    refine SubT.dict S2.d (x := .ref m) rfl ?_
    refine in1_2 _ (GetM.list (id := "list.index") PySem.F.slot_list_index PySem.F.type_list_index hm2) ?_
    walk_at "go"
    refine ⟨Nat.le_of_ble_eq_true rfl, fun t' ht' => ?_⟩
    have T3 := T2.trans (Sub.fresh (o := .tup [.int sub, .int slot]) ht')
    have x2 : AH.put H2 t' (.tup [.int sub, .int slot]) t' = some (.tup [.int sub, .int slot]) := put_same
    generalize AH.put H2 t' (.tup [.int sub, .int slot]) = H3 at T3 x2
    have S3 := S.mono T3
    refine el1_2 S3.im ?_
    intro ms' hm3 am'
    have : F.ws.mys.length = F.mys.length := by simp [VS.ws]
    have hj := (List.getElem?_eq_some_iff.mp hm).1
    walk_at "go"
    have at_ : ∀ (p : Nat) (e : PyData), (F.ws.mys.map dM)[p]? = some e → ∃ s n k', F.mys[p]? = some (s, n, k') ∧ e = dM (s, n) := by
      intro p e he
      simp only [VS.ws, List.map_map, List.getElem?_map, Option.map_eq_some_iff] at he
      refine el1_2 he ?_
      try clear he
      intro hE1 h1 hE2
      refine hide fun PZ kZ => ?_
      obtain ⟨s, n, k'⟩ := hE1
      refine kZ ?_
      clear kZ PZ
      obtain rfl := hE2
      exact in3_2 s n k' h1 rfl
    refine CallV.index (j := j) (dx := dM (sub, slot)) hm3 (mys_rds am') ⟨t', _, rfl, x2, _, _, rfl, rfl, _, _, rfl, rfl, rfl⟩ (by simp; (first | (simp +arith only; done) | lia | omega)) (by simp; (first | (simp +arith only; done) | lia | omega)) (fun e he => ?_) (fun p e hp he => ?_) ?_ (mys_lay _) rfl (by simp [dM, PyData.depth, PyData.depthAll]) (by (first | (simp +arith only; done) | lia | omega))
    · refine el3_2 (at_ _ _ he) ?_
      intro s n k' h1 hE1
      obtain rfl := hE1
      rw [hm] at h1; cases h1
      rw [mys_eqv]; simp
    · refine el3_2 (at_ _ _ he) ?_
      intro s n k' h1 hE1
      obtain rfl := hE1
      rw [mys_eqv]
      refine decide_eq_false fun z => ?_
      (have hE0 := prE z; clear z; refine el0_2 hE0 ?_; clear hE0; intro hE1 hE2; subst hE1; subst hE2)
      have := ok.my_inj h1 hm
      (first | (simp +arith only; done) | lia | omega)
    · exact hM.rt _ _ _ (q _ T3)
  | @cap sub p caps size o _ _ _ hs hc hr =>
    rw [show decide ((sub : Int) ≥ 0) = true from decide_eq_true (by (first | (simp +arith only; done) | lia | omega))]
    refine pick_t ?_
    walk_at "go"
    refine ⟨Nat.le_of_ble_eq_true rfl, fun t ht => ?_⟩
    have T2 := T.trans (Sub.fresh (o := .tup [.int sub, .int slot]) ht)
    have x1 : AH.put H1 t (.tup [.int sub, .int slot]) t = some (.tup [.int sub, .int slot]) := put_same
    generalize AH.put H1 t (.tup [.int sub, .int slot]) = H2 at T2 x1
    have S2 := S.mono T2
    walk_at "go"
    refine SubT.dict S2.d (x := .ref m) rfl ?_
    refine el1_2 S2.im ?_
    intro ms hm2 am
    have hmem : (sub, slot) ∉ F.ws.mys := fun z => by
      refine el1_2 (List.mem_map.mp z) ?_
      intro hE1 h1 h2
      refine hide fun PZ kZ => ?_
      obtain ⟨s, n, k'⟩ := hE1
      refine kZ ?_
      clear kZ PZ
      (have hE0 := prE h2; clear h2; refine el0_2 hE0 ?_; clear hE0; intro hE1 hE2; subst hE1; subst hE2)
      refine hide fun PZ kZ => ?_
      obtain ⟨j, hj, e⟩ := List.getElem_of_mem h1
      refine kZ ?_
      clear kZ PZ
      exact ok.cap_not_my hs hc (j := j) (k' := k') (by rw [← e]; exact List.getElem?_eq_getElem hj)
    refine Cmp.in_data (dx := dM (sub, slot)) hm2 (mys_rds am) ⟨t, _, rfl, x1, _, _, rfl, rfl, _, _, rfl, rfl, rfl⟩ ?_ (mys_lay _) rfl (by simp [dM, PyData.depth, PyData.depthAll]) (by (first | (simp +arith only; done) | lia | omega))
    rw [mys_any, decide_eq_false hmem]
    refine pick_f ?_
    walk_at "go"
    refine SX.assign_comp false (by decide) rfl ?_ (fun env he => by obtain ⟨sc1, g1, b1, kd, f1⟩ := he; cases env; dsimp only at sc1; subst sc1; rfl)
    walk_at "go"
    refine SubT.dict S2.d (x := .ref b) rfl ?_
    walk_at "go"
    refine el1_2 S2.ib ?_
    intro bs hb2 ab
    refine hide fun PZ kZ => ?_
    obtain ⟨v, hv, t2, cp, cs, hE1, h1, h2, h3⟩ := ab.at sub _ hs
    refine kZ ?_
    clear kZ PZ
    obtain rfl := hE1
    have hsub := (List.getElem?_eq_some_iff.mp hs).1
    refine SubT.list hb2 (by (first | (simp +arith only; done) | lia | omega)) hv ?_ (by (first | (simp +arith only; done) | lia | omega))
    walk_at "go"
    refine SubT.tup h1 (by decide) (x := .ref cp) rfl ?_ (by decide)
    have hcl := five (ok.caps _ _ _ _ hs).1
    have hlen : cs.length = caps.length := h3.len
    simp only [List.length_map] at hcl
    refine in3_6 cp cs (fun j acc H' => Sub H2 H' ∧ acc = ((caps.take j).filter fun y => y.2.1 = slot).map fun y => .int y.1) rfl (by (first | (simp +arith only; done) | lia | omega)) (⟨.refl, by simp⟩) (fun j acc H' ⟨T', _⟩ => T' _ _ h2) ?_ ?_
    · rintro j acc x l H' hx hI0 hl
      refine el0_2 hI0 ?_
      try clear hI0
      intro T' hE1
      obtain rfl := hE1
      refine el4_3 (h3.at _ _ hx) ?_
      intro o' n' k' t' hcj hE1 ht'
      obtain rfl := hE1
      have hsl := (hl "slot" rfl).trans hc2
      refine AT.tuple (T' _ _ ht') rfl ?_
      walk_at "go"
      refine TE.one ?_
      walk_at "go"
      refine Cmp.eq_int ?_
      rw [take_snoc hcj]
      refine ⟨fun z => ?_, fun z => ?_⟩
      · walk_at "go"
        simp only [beq_iff_eq, Int.natCast_inj] at z
        refine ⟨T', ?_⟩
        rw [List.filter_append, List.map_append, List.filter_cons_of_pos (by simpa using z)]
        rfl
      · refine ⟨T', ?_⟩
        simp only [beq_eq_false_iff_ne, ne_eq, Int.natCast_inj] at z
        rw [List.filter_append, List.map_append, List.filter_cons_of_neg (by simpa using z)]
        simp
    · rintro acc H3 n hI0 _ hn
      refine el0_2 hI0 ?_
      try clear hI0
      intro T3 hE1
      obtain rfl := hE1
      have e1 : caps.take cs.length = caps := by rw [hlen]; exact List.take_length
      rw [e1, ok.cap_one hs hc]
      have T4 := (T2.trans T3).trans (Sub.fresh (o := .list [.int o]) hn)
      have x3 : AH.put H3 n (.list [.int o]) n = some (.list [.int o]) := put_same
      have eL : ([(o, slot, k)] : List (Nat × Nat × Fin 5)).map (fun y => AV.int (y.1 : Int)) = [.int o] := rfl
      rw [eL]
      generalize AH.put H3 n (.list [.int o]) = H4 at T4 x3
      have S4 := S.mono T4
      walk_at "go"
      refine CallV.len_list x3 ?_ (by simp)
      walk_at "go"
      refine Cmp.ne_int ?_
      rw [show ((([AV.int (o : Int)] : List AV).length : Int) != 1) = false from rfl]
      refine pick_f ?_
      walk_at "go"
      refine SX.assign_tuple ?_ (fun _ => rfl) (fun env he => by obtain ⟨sc1, g1, b1, kd, f1⟩ := he; cases env; dsimp only at sc1; subst sc1; rfl)
      walk_at "go"
      refine SubT.dict S4.d (x := .ref b) rfl ?_
      walk_at "go"
      refine el1_2 S4.ib ?_
      intro bs4 hb4 ab4
      refine hide fun PZ kZ => ?_
      obtain ⟨v4, hv4, t4, cp4, cs4, hE1, g1, g2, g3⟩ := ab4.at sub _ hs
      refine kZ ?_
      clear kZ PZ
      obtain rfl := hE1
      refine SubT.list hb4 (by (first | (simp +arith only; done) | lia | omega)) hv4 ?_ (by (first | (simp +arith only; done) | lia | omega))
      walk_at "go"
      refine SubT.tup g1 (by decide) (x := .int p) rfl ?_ (by decide)
      walk_at "go"
      refine SubT.list x3 (by decide) (x := .int o) rfl ?_ (by decide)
      walk_at "go"
      refine ⟨Nat.le_of_ble_eq_true rfl, fun n5 hn5 => ?_⟩
      have T5 := T4.trans (Sub.fresh (o := .tup [.int p, .int o]) hn5)
      refine AT.tuple put_same rfl ?_
      generalize AH.put H4 n5 (.tup [.int p, .int o]) = H5 at T5
      walk_at "go"
      have hp := ok.par _ _ _ _ hs
      refine AT.name_cell rfl rfl ?_
      walk_at "go"
      exact hM.nx _ _ ⟨(p + 1).toNat, by (first | (simp +arith only; done) | lia | omega), p, o, rfl, rfl, rfl, hc3, hr, T5⟩
end

/-! ## sorting -/
/-- the facts known, closed; a walk over all answers -/
noncomputable def clo (L : List (Nat × Nat)) (i j : Nat) : List (Nat × Nat) :=
  let A := i :: (L.filter fun x => x.2 == i).map (·.1)
  let B := j :: (L.filter fun x => x.1 == j).map (·.2)
  (A.map fun a => B.map fun b => (a, b)).flatten ++ L
noncomputable def chain (L : List (Nat × Nat)) : List Nat → Bool
  | [] => true
  | a :: r => (match r with | [] => true | b :: _ => L.contains (a, b)) && chain L r
noncomputable def chk (n : Nat) : List (Nat × Nat) → KasT (Array Nat) → Bool
  | L, .ret p => decide (p.toList.isPerm (List.range n) = true) && chain L p.toList
  | L, .ask i j k => decide (i < n) && decide (j < n) && decide (i ≠ j) &&
    (if L.contains (i, j) then chk n L (k true) else if L.contains (j, i) then chk n L (k false) else chk n (clo L i j) (k true) && chk n (clo L j i) (k false))
theorem clo_ok {f : Nat → Int} {L : List (Nat × Nat)} {i j : Nat} (h : ∀ x ∈ L, f x.1 < f x.2) (hij : f i < f j) : ∀ x ∈ clo L i j, f x.1 < f x.2 := by
  intro x hx
  rcases List.mem_append.mp hx with hx | hx
  · refine el1_2 (List.mem_flatten.mp hx) ?_
    intro l hl hx
    refine el1_2 (List.mem_map.mp hl) ?_
    intro a ha hE1
    obtain rfl := hE1
    refine el1_2 (List.mem_map.mp hx) ?_
    intro b hb hE1
    obtain rfl := hE1
    have h1 : f a ≤ f i := by
      rcases List.mem_cons.mp ha with rfl | ha
      · exact Int.le_refl _
      · refine el1_2 (List.mem_map.mp ha) ?_
        intro y hy hE1
        obtain rfl := hE1
        have := List.mem_filter.mp hy
        have e : y.2 = i := by simpa using this.2
        have := h y this.1
        rw [e] at this; (first | (simp +arith only; done) | lia | omega)
    have h2 : f j ≤ f b := by
      rcases List.mem_cons.mp hb with rfl | hb
      · exact Int.le_refl _
      · refine el1_2 (List.mem_map.mp hb) ?_
        intro y hy hE1
        obtain rfl := hE1
        have := List.mem_filter.mp hy
        have e : y.1 = j := by simpa using this.2
        have := h y this.1
        rw [e] at this; (first | (simp +arith only; done) | lia | omega)
    show f a < f b
    (first | (simp +arith only; done) | lia | omega)
  · exact h x hx
theorem chain_ok {f : Nat → Int} {L : List (Nat × Nat)} (h : ∀ x ∈ L, f x.1 < f x.2) : ∀ {l : List Nat}, chain L l = true → l.Pairwise (fun a b => f a < f b)
  | [], _ => .nil
  | [a], _ => List.pairwise_singleton _ _
  | a :: b :: r, hc => by
    simp only [chain, Bool.and_eq_true] at hc
    have ih := chain_ok h (l := b :: r) (by simp only [chain, Bool.and_eq_true]; exact hc.2)
    have hab : f a < f b := h (a, b) (by simpa using hc.1)
    refine List.pairwise_cons.mpr ⟨fun x hx => ?_, ih⟩
    rcases List.mem_cons.mp hx with rfl | hx
    · exact hab
    · have := (List.pairwise_cons.mp ih).1 x hx
      (first | (simp +arith only; done) | lia | omega)
noncomputable def Good (f : Nat → Int) (n : Nat) (p : Array Nat) : Prop := p.toList.Perm (List.range n) ∧ p.toList.Pairwise (fun a b => f a < f b)
theorem chk_ok {f : Nat → Int} {n : Nat} {cmp : Nat → Nat → (Bool → Shared → Prop) → Shared → Prop} {s : Shared} (hf : ∀ i j, i < n → j < n → i ≠ j → f i ≠ f j)
    (hc : ∀ i j C, i < n → j < n → i ≠ j → C (decide (f i < f j)) s → cmp i j C s) {G : Array Nat → Shared → Prop} (hG : ∀ p, Good f n p → G p s) :
    ∀ (t : KasT (Array Nat)) (L : List (Nat × Nat)), (∀ x ∈ L, f x.1 < f x.2) → chk n L t = true → t.kasWp cmp G s
  | .ret p, L, hL, h => by
    simp only [chk, Bool.and_eq_true, decide_eq_true_eq] at h
    exact hG p ⟨List.isPerm_iff.mp h.1, chain_ok hL h.2⟩
  | .ask i j k, L, hL, h => by
    simp only [chk, Bool.and_eq_true, decide_eq_true_eq] at h
    refine el0_2 h ?_
    try clear h
    intro hE1 h
    refine el0_2 hE1 ?_
    try clear hE1
    intro hE2 ne
    refine el0_2 hE2 ?_
    try clear hE2
    intro hi hj
    show cmp i j (fun b s' => (k b).kasWp cmp G s') s
    refine hc i j _ hi hj ne ?_
    have hne := hf i j hi hj ne
    by_cases h1 : L.contains (i, j) = true
    · rw [if_pos h1] at h
      have hlt : f i < f j := hL (i, j) (by simpa using h1)
      rw [decide_eq_true hlt]
      exact chk_ok hf hc hG (k true) L hL h
    · rw [if_neg h1] at h
      by_cases h2 : L.contains (j, i) = true
      · rw [if_pos h2] at h
        have hlt : f j < f i := hL (j, i) (by simpa using h2)
        rw [decide_eq_false (by (first | (simp +arith only; done) | lia | omega))]
        exact chk_ok hf hc hG (k false) L hL h
      · rw [if_neg h2, Bool.and_eq_true] at h
        by_cases hlt : f i < f j
        · rw [decide_eq_true hlt]
          exact chk_ok hf hc hG (k true) _ (clo_ok hL hlt) h.1
        · rw [decide_eq_false hlt]
          exact chk_ok hf hc hG (k false) _ (clo_ok hL (by (first | (simp +arith only; done) | lia | omega))) h.2
theorem chk2 : chk 2 [] (kas_sort 2) = true := by decide +kernel
theorem chk3 : chk 3 [] (kas_sort 3) = true := by decide +kernel
theorem chk4 : chk 4 [] (kas_sort 4) = true := by decide +kernel
theorem chk5 : chk 5 [] (kas_sort 5) = true := by decide +kernel
theorem chk_all {n : Nat} (h2 : 2 ≤ n) (h5 : n ≤ 5) : chk n [] (kas_sort n) = true := by
  have h : n = 2 ∨ n = 3 ∨ n = 4 ∨ n = 5 := by (first | (simp +arith only; done) | lia | omega)
  rcases h with rfl | rfl | rfl | rfl
  · exact chk2
  · exact chk3
  · exact chk4
  · exact chk5

section
variable {prog : Program} {w : World} {A : Around} {E : Value → Shared → Prop} {s : Shared}
/-- the heap in the middle of a sort -/
noncomputable def midHeap (h : Heap) (a : Addr) (vs : List Value) : Heap := ((h.update a (Obj.mapSeq fun _ => #[])).push (seqObj "tuple" vs.toArray 0)).push (seqObj "list" #[] 0)
theorem midHeap_old {h : Heap} {a b : Addr} {vs : List Value} {o : Obj} (hb : b ≠ a) (e : h.get? b = some o) : (midHeap h a vs).get? b = some o :=
  Heap.get?_push_of_some _ (Heap.get?_push_of_some _ ((Heap.get?_update_ne _ _ _ _ hb).trans e))
theorem list_sort_any {a : Addr} {vs : List Value} {n : Nat} {P : PySem.Fin → Shared → Prop} (good : Array Nat → Prop) (ho : s.heap.get? a = some (seqObj "list" vs.toArray n)) (h64 : vs.length < 64)
    (h1 : vs.length < 2 → P (.done (.ret .none)) { s with heap := sortedHeap s.heap a vs vs.toArray })
    (h2 : 2 ≤ vs.length → ∃ κ, (∀ Q : SortKind → Shared → Prop, Q κ { s with heap := midHeap s.heap a vs } → wpAny (model prog w) A (keyKind' vs.toArray) Q (fun _ _ => False) { s with heap := midHeap s.heap a vs }) ∧
      (∀ G : Array Nat → Shared → Prop, (∀ p, good p → G p { s with heap := midHeap s.heap a vs }) → (kas_sort vs.length).kasWp (kas_ask prog w A κ vs) G { s with heap := midHeap s.heap a vs }))
    (h : ∀ p, good p → P (.done (.ret .none)) { s with heap := sortedHeap s.heap a vs (List.toArray (p.toList.map fun i => vs.getD i Value.none)) }) :
    wpAny (model prog w) A (Builtin.«list.sort» ⟨[.ref a], []⟩) P E s := by
  rw [list_sort_plain]
  have ha : a < s.heap.objs.size := Heap.lt_size ho
  refine wpAny_bind (listItems_at ho rfl ?_)
  refine wpAny_bind (listUpdate_at ho rfl ?_ (by rw [List.size_toArray, sizeLine_eq]; (first | (simp +arith only; done) | lia | omega)) (Nat.zero_le _))
  obtain ⟨e1, ho1⟩ : ∃ e1, (s.heap.update a (Obj.mapSeq fun _ => #[])).get? a = some (seqObj "list" #[] e1) := ⟨_, get?_update_seq ho (fun _ => #[])⟩
  refine wpAny_bind (seqEpoch_at ho1 rfl ?_)
  refine wpAny_bind (wpAny_newTuple ?_ (by show vs.length ≤ _; rw [sizeLine_eq]; (first | (simp +arith only; done) | lia | omega)))
  refine wpAny_bind (wpAny_newList ?_ (Nat.zero_le _))
  refine wpAny_holding ?_
  have ho6 : (midHeap s.heap a vs).get? a = some (seqObj "list" #[] e1) := Heap.get?_push_of_some _ (Heap.get?_push_of_some _ ho1)
  show wpAny (model prog w) A _ P E { s with heap := midHeap s.heap a vs }
  dsimp only
  by_cases hn : vs.toArray.size < 2
  · rw [if_pos hn, if_pos hn]
    refine wpAny_bind (wpAny_pure ?_)
    rw [StateT.run_pure]
    refine wpAny_bind (wpAny_pure ?_)
    dsimp only
    refine wpAny_bind (seqEpoch_at ho6 rfl ?_)
    have hp : (Array.map (fun x => x.2) (arrOf (SortSt.mk' general' (vs.toArray.zip vs.toArray) #[] 7 none))) = vs.toArray := by
      show Array.map (fun x => x.2) (vs.toArray.zip vs.toArray) = _
      apply Array.toList_inj.mp
      simp only [Array.toList_map, Array.toList_zip]
      exact List.map_snd_zip (Nat.le_refl _)
    rw [hp]
    refine wpAny_bind (listUpdate_at ho6 rfl ?_ (Nat.zero_le _) (by rw [List.size_toArray, sizeLine_eq]; (first | (simp +arith only; done) | lia | omega)))
    simp only [bne_self_eq_false, Bool.false_eq_true, if_false]
    refine wpAny_pure (h1 (by simpa using hn))
  · rw [if_neg hn, if_neg hn]
    have h2' : 2 ≤ vs.length := by rw [List.size_toArray] at hn; (first | (simp +arith only; done) | lia | omega)
    refine hide fun PZ kZ => ?_
    obtain ⟨κ, hk, hs⟩ := h2 h2'
    refine kZ ?_
    clear kZ PZ
    refine wpAny_bind (wpAny_mono (hk (fun κ' s' => κ' = κ ∧ s' = { s with heap := midHeap s.heap a vs }) ⟨rfl, rfl⟩) (fun κ' s' hq => ?_) fun _ _ x => x.elim)
    refine el0_2 hq ?_
    try clear hq
    intro hE1 hE2
    obtain rfl := hE1
    obtain rfl := hE2
    refine wpAny_bind (wpAny_mono (kat_run (Q := fun st' s' => ∃ p : Array Nat, p.size = vs.length ∧ arrOf st' = p.map (kas_item (vs.toArray.zip vs.toArray)) ∧ failedOf st' = none ∧ good p ∧ s' = { s with heap := midHeap s.heap a vs })
      rfl h2' h64 (fun p' st' s' a1 a2 a3 a4 => ⟨p', a1, a2, a3, a4⟩) (hs _ fun p hp => ⟨hp, rfl⟩)) ?_ fun _ _ e => e)
    rintro ⟨⟨⟩, st'⟩ s' ⟨p, hp, har, hf, hg, rfl⟩
    dsimp only
    have hout := kat_snds rfl har
    have hsz : (List.toArray (p.toList.map fun i => vs.getD i Value.none)).size = vs.length := by rw [List.size_toArray, List.length_map, Array.length_toList, hp]
    rw [hout]
    refine wpAny_bind (seqEpoch_at ho6 rfl ?_)
    refine wpAny_bind (listUpdate_at ho6 rfl ?_ (Nat.zero_le _) (Nat.le_trans (Nat.le_of_eq hsz) (by rw [sizeLine_eq]; (first | (simp +arith only; done) | lia | omega))))
    rw [hf]
    simp only [bne_self_eq_false, Bool.false_eq_true, if_false]
    exact wpAny_pure (h p hg)

/-- sorted over a list or a tuple, told by what stays and what is new -/
theorem sorted_any {l : Addr} {T : String} {o : Obj} {vs : List Value} {m : Nat} {Q : Value → Shared → Prop} (outs : Array Value → Prop) (hT : T = "list" ∨ T = "tuple") (ho : s.heap.get? l = some o) (hc : o.cls = .type T) (hd : o.data = .seq vs.toArray m) (h64 : vs.length < 64)
    (hs : ∀ (h1 : Heap) (P : PySem.Fin → Shared → Prop), (∀ b o, s.heap.get? b = some o → h1.get? b = some o) →
      (∀ out, outs out → P (.done (.ret .none)) { s with heap := sortedHeap (h1.push (seqObj "list" vs.toArray 0)) h1.objs.size vs out }) →
      wpAny (model prog w) A.in1.in1 (Builtin.«list.sort» ⟨[.ref h1.objs.size], []⟩) P E { s with heap := h1.push (seqObj "list" vs.toArray 0) })
    (h : ∀ (h1 h' : Heap) (n : Addr) (out : Array Value) (e : Nat), (∀ b o, s.heap.get? b = some o → h1.get? b = some o) → (∀ b o, h1.get? b = some o → h'.get? b = some o) → h1.objs.size ≤ n → outs out → h'.get? n = some (seqObj "list" out e) → Q (.ref n) { s with heap := h' }) :
    wpAny (model prog w) A (call (.builtin "sorted") [.ref l]) Q E s := by
  refine Calls.call_function_entry kind_sorted plain_sorted entry_sorted (args_sorted1 _) ?_
  unfold Builtin.«sorted»
  refine wpAny_bind (m := checkCount "sorted" 1 1 _) (wpAny_pure ?_)
  refine wpAny_bind (wpAny_collect_seq l hT ho hc hd (fun h1 k1 => ?_) (by rw [List.size_toArray, sizeLine_eq]; (first | (simp +arith only; done) | lia | omega)))
  refine wpAny_bind (wpAny_newList ?_ (by simp only [sizeLine_eq]; (first | (simp +arith only; done) | lia | omega)))
  have hoL : (h1.push (seqObj "list" vs.toArray 0)).get? h1.objs.size = some (seqObj "list" vs.toArray 0) := Heap.get?_push_size _ rfl
  show wpAny _ _ _ _ _ { s with heap := h1.push (seqObj "list" vs.toArray 0) }
  refine wpAny_bind (wpAny_holding (wpAny_call_entry slot_list_sort ⟨_, hoL, rfl⟩ entry_list_sort (hs h1 _ k1 fun out hout => ⟨_, rfl, ?_⟩) (args_list_sort _)))
  refine el1_1 (sortedHeap_at (out := out) hoL) ?_
  intro e he
  refine wpAny_pure ⟨_, rfl, h h1 _ _ out e k1 (fun b o hb1 => ?_) (Nat.le_refl _) hout he⟩
  have hlt : b < h1.objs.size := Heap.lt_size hb1
  rw [sortedHeap_old (Nat.ne_of_lt hlt) (by rw [size_push']; exact Nat.lt_succ_of_lt hlt)]
  exact Heap.get?_push_of_some _ hb1
end

noncomputable def pP (F : AH) (x : Int × Str) (v : AV) : Prop := ∃ t, v = .ref t ∧ F t = some (.tup [.int x.1, .str x.2])
theorem strs_abs : ∀ {vs : List Value} {ss : List Str}, vs.map absV = ss.map .str → StrsAre vs ss
  | [], [], _ => .nil
  | v :: vs, s :: ss, h => by
    simp only [List.map_cons, List.cons.injEq] at h
    refine el1_1 (absV_str h.1) ?_
    intro t hE1
    obtain rfl := hE1
    exact .cons s t (strs_abs h.2)
  | [], _ :: _, h => by simp at h
  | _ :: _, [], h => by simp at h
theorem strs_map : ∀ {vs : List Value} {ss : List Str}, StrsAre vs ss → vs.map absV = ss.map .str
  | _, _, .nil => rfl
  | _, _, .cons x t h => by rw [List.map_cons, List.map_cons, strs_map h]; rfl
theorem ints_abs : ∀ {vs : List Value} {ss : List Int}, vs.map absV = ss.map .int → IntsAre vs ss
  | [], [], _ => .nil
  | v :: vs, s :: ss, h => by
    simp only [List.map_cons, List.cons.injEq] at h
    refine el1_1 (absV_int h.1) ?_
    intro t hE1
    obtain rfl := hE1
    exact .cons s t (ints_abs h.2)
  | [], _ :: _, h => by simp at h
  | _ :: _, [], h => by simp at h
theorem ints_map : ∀ {vs : List Value} {ss : List Int}, IntsAre vs ss → vs.map absV = ss.map .int
  | _, _, .nil => rfl
  | _, _, .cons x t h => by rw [List.map_cons, List.map_cons, ints_map h]; rfl
theorem range_getD {α : Type} (d : α) (l : List α) : (List.range l.length).map (fun i => l.getD i d) = l := by
  apply List.ext_getElem
  · simp
  · intro i h1 h2
    simp [List.getElem?_eq_getElem h2]
theorem map_pairwise {f : Nat → Int} {g : Nat → Int × Str} (h : ∀ i, (g i).1 = f i) {l : List Nat} (hp : l.Pairwise (fun a b => f a < f b)) : (l.map g).Pairwise (fun x y => x.1 < y.1) := by
  rw [List.pairwise_map]
  exact hp.imp fun {a b} hab => by rw [h, h]; exact hab
theorem allR_map {P : Int × Str → AV → Prop} {g : Nat → Int × Str} {u : Nat → AV} : ∀ {l : List Nat}, (∀ i ∈ l, P (g i) (u i)) → AllR P (l.map g) (l.map u)
  | [], _ => rfl
  | i :: l, h => ⟨_, _, rfl, h i (.head _), allR_map fun j hj => h j (.tail _ hj)⟩

section
variable {ad : Ads} {w : World} {sc : Scope} {d : Nat} {loc : Loc} {H : AH}

theorem CallV.sorted_keysG {Q : AV → AH → Prop} (q : ∀ n (ss' : List Str), ss'.Perm keysL → H n = none → Q (.ref n) (AH.put H n (.list (ss'.map .str)))) :
    CallV ad w sc d (.lit (.builtin "sorted")) [.ref ad.keys] loc H Q := by
  intro vf vs hf hvs A B env s r g e R
  refine hideE fun PZ pz => ?_
  have := absV_lit hf; subst this
  refine el1_2 (args1 hvs) ?_
  intro v hE1 h1
  obtain rfl := hE1
  have := absV_ref h1; subst this
  refine el1_2 (g.keys _ R.keep) ?_
  intro us hE1 hm
  refine hide fun PZ kZ => ?_
  obtain ⟨o, hl, hc, n, hd⟩ := hE1
  refine kZ ?_
  clear kZ PZ
  have hS := strs_abs hm
  have hlen : us.length = 5 := by have := congrArg List.length hm; simpa [keysL] using this
  refine sorted_any (fun out => ∃ ss', StrsAre out.toList ss' ∧ ss'.Perm keysL) (.inr rfl) hl hc hd (by (first | (simp +arith only; done) | lia | omega)) (fun h1 P k1 hP => ?_) fun h1 h' n out e k1 k2 hn ⟨ss', hs1, hs2⟩ he => ?_
  · refine list_sort_treeK strKind_oneLt (s := { s with heap := h1.push (seqObj "list" us.toArray 0) }) (Heap.get?_push_size _ rfl) hS.keysOf (fun v₁ v₂ rest e => keyKind_strs (by rw [← e]; exact hS)) (by (first | (simp +arith only; done) | lia | omega)) fun st' hp hs => ?_
    refine el1_3 (sorted_out_str hS hp hs) ?_
    intro ss' a1 a2 a3
    exact hP _ ⟨ss', a1, a2⟩
  · have R1 := R.grow k1
    refine (pz _ _ _ _ (R1.alloc k2 hn (ao := .list (ss'.map .str)) ⟨out.toList, ⟨e, ?_⟩, strs_map hs1⟩) (q _ _ hs2 (R1.off hn).h))
    exact he
theorem CallV.sorted_ints {a : Addr} {ns : List Int} {Q : AV → AH → Prop} (ho : H a = some (.list (ns.map .int))) (hz : ns.length ≤ 60) (q : ∀ n (ns' : List Int), ns'.Perm ns → ns'.Pairwise (· ≤ ·) → H n = none → Q (.ref n) (AH.put H n (.list (ns'.map .int)))) :
    CallV ad w sc d (.lit (.builtin "sorted")) [.ref a] loc H Q := by
  intro vf vs hf hvs A B env s r g e R
  refine hideE fun PZ pz => ?_
  have := absV_lit hf; subst this
  refine el1_2 (args1 hvs) ?_
  intro v hE1 h1
  obtain rfl := hE1
  have := absV_ref h1; subst this
  refine el1_2 (R.own _ _ ho) ?_
  intro us hl hm
  have hS := ints_abs hm
  have hlen : us.length = ns.length := by have := congrArg List.length hm; simpa using this
  refine PyProof.Rows.sorted_ints hl.isList hS (by (first | (simp +arith only; done) | lia | omega)) fun out ns' a1 a2 a3 => ?_
  refine el1_1 (sortedAll_at s.heap us out) ?_
  intro e he
  refine (pz _ _ _ _ (R.alloc (fun _ _ => sortedAll_old) (Nat.le_succ _) (ao := .list (ns'.map .int)) ⟨out.toList, ⟨e, ?_⟩, ints_map a1⟩) (q _ _ a2 a3 (R.off (Nat.le_succ _)).h))
  exact he
theorem CallV.list_rng {a : Addr} {n : Nat} {Q : AV → AH → Prop} (ho : H a = some (.rng n)) (hz : n ≤ 1000) (q : ∀ m, H m = none → Q (.ref m) (AH.put H m (.list ((List.range n).map fun (i : Nat) => AV.int i)))) :
    CallV ad w sc d (.lit (.type "list")) [.ref a] loc H Q := by
  intro vf vs hf hvs A B env s r g e R
  refine hideE fun PZ pz => ?_
  have := absV_lit hf; subst this
  refine el1_2 (args1 hvs) ?_
  intro v hE1 h1
  obtain rfl := hE1
  have := absV_ref h1; subst this
  refine el3_1 (R.own _ _ ho) ?_
  intro t u x hr
  refine call_list_range (n := n) r.1 hr (small_rng ⟨n, by (first | (simp +arith only; done) | lia | omega)⟩) (by rw [rangeSize_one]; split <;> (first | (simp +arith only; done) | lia | omega)) (by (first | (simp +arith only; done) | lia | omega)) fun h' tk acc c k hS hI => ?_
  refine (pz _ _ _ _ (R.alloc k (Nat.le_refl _) (ao := .list ((List.range n).map fun (i : Nat) => AV.int i)) ⟨acc.toList, ⟨c, ?_⟩, ?_⟩) (q _ (R.off (Nat.le_refl _)).h))
  · exact hS
  · apply List.ext_getElem
    · simp [hI.1]
    · intro i h1 h2
      refine el1_1 (hI.2 i (acc.toList[i]'(by simpa using h1)) (by rw [List.length_map] at h1; rw [← Array.getElem?_toList]; exact List.getElem?_eq_getElem _)) ?_
      intro t ht
      simp only [List.getElem_map, ht, absV, List.getElem_range]
      congr 1; (first | (simp +arith only; done) | lia | omega)
theorem CallV.sorted_pairs {a : Addr} {vs : List AV} {xs : List (Int × Str)} {Q : AV → AH → Prop} (ho : H a = some (.list vs)) (hx : AllR (pP H) xs vs) (hz : xs.length ≤ 5) (hn : (xs.map (·.1)).Nodup)
    (q : ∀ n ys vs', AllR (pP H) ys vs' → ys.Perm xs → ys.Pairwise (fun x y => x.1 < y.1) → H n = none → Q (.ref n) (AH.put H n (.list vs'))) :
    CallV ad w sc d (.lit (.builtin "sorted")) [.ref a] loc H Q := by
  intro vf vs' hf hvs A B env s r g e R
  refine hideE fun PZ pz => ?_
  have := absV_lit hf; subst this
  refine el1_2 (args1 hvs) ?_
  intro v hE1 h1
  obtain rfl := hE1
  have := absV_ref h1; subst this
  refine el1_2 (R.own _ _ ho) ?_
  intro us hE1 hm
  refine el1_1 hE1 ?_
  try clear hE1
  intro m hl
  subst hm
  have hlen : us.length = xs.length := by have := hx.len; simpa using this
  let g0 : Nat → Int × Str := fun i => xs.getD i (0, "")
  let f : Nat → Int := fun i => (g0 i).1
  have hgood : ∀ p : Array Nat, Good f us.length p → ∃ ys, AllR (pP H) ys ((List.toArray (p.toList.map fun i => us.getD i Value.none)).toList.map absV) ∧ ys.Perm xs ∧ ys.Pairwise (fun x y => x.1 < y.1) := by
    rintro p hI0 
    refine el0_2 hI0 ?_
    try clear hI0
    intro hp1 hp2
    refine ⟨p.toList.map g0, ?_, ?_, map_pairwise (fun _ => rfl) hp2⟩
    · show AllR _ _ ((p.toList.map fun i => us.getD i Value.none).map absV)
      rw [List.map_map]
      refine allR_map fun i hi => ?_
      have hi' : i < us.length := by have := hp1.mem_iff.mp hi; simpa using this
      refine el1_2 (hx.get i (absV us[i]) (by rw [List.getElem?_map, List.getElem?_eq_getElem hi']; rfl)) ?_
      intro x hx1 hx2
      have : g0 i = x := by show xs.getD i _ = x; rw [List.getD_eq_getElem?_getD, hx1]; rfl
      rw [this]
      simp only [Function.comp_apply, List.getD_eq_getElem?_getD, List.getElem?_eq_getElem hi', Option.getD_some]
      exact hx2
    · refine (hp1.map g0).trans ?_
      rw [hlen]
      show ((List.range xs.length).map fun i => xs.getD i ((0 : Int), ("" : Str))).Perm xs
      rw [range_getD]
  have hdis : ∀ i j, i < us.length → j < us.length → i ≠ j → f i ≠ f j := by
    intro i j hi hj ne eq
    apply ne
    have hi' : i < (xs.map (·.1)).length := by simp; (first | (simp +arith only; done) | lia | omega)
    have hj' : j < (xs.map (·.1)).length := by simp; (first | (simp +arith only; done) | lia | omega)
    refine (List.getElem_inj (h₀ := hi') (h₁ := hj') hn).mp ?_
    have e1 : ∀ k, k < xs.length → f k = (xs.getD k (0, "")).1 := fun k _ => rfl
    simp only [List.getElem_map]
    rw [e1 i (by (first | (simp +arith only; done) | lia | omega)), e1 j (by (first | (simp +arith only; done) | lia | omega))] at eq
    simpa [List.getD_eq_getElem?_getD, List.getElem?_eq_getElem (show i < xs.length by (first | (simp +arith only; done) | lia | omega)), List.getElem?_eq_getElem (show j < xs.length by (first | (simp +arith only; done) | lia | omega))] using eq
  have htup : ∀ i, i < us.length → ∃ t o c tk x tk', us.getD i Value.none = .ref t ∧ s.heap.get? t = some o ∧ o.cls = .type "tuple" ∧ o.data = .seq #[.int (f i) tk, .str x tk'] c := by
    intro i hi
    refine hide fun PZ kZ => ?_
    obtain ⟨x, hx1, t, ht1, ht2⟩ := hx.get i (absV us[i]) (by rw [List.getElem?_map, List.getElem?_eq_getElem hi]; rfl)
    refine kZ ?_
    clear kZ PZ
    have hf : f i = x.1 := by show (xs.getD i _).1 = _; rw [List.getD_eq_getElem?_getD, hx1]; rfl
    refine el1_2 (R.own _ _ ht2) ?_
    intro ws hE1 q4
    refine hide fun PZ kZ => ?_
    obtain ⟨o, q1, q2, c, q3⟩ := hE1
    refine kZ ?_
    clear kZ PZ
    have hr := absV_ref ht1
    refine el2_3 (args2 q4) ?_
    intro w1 w2 hE1 q5 q6
    obtain rfl := hE1
    refine el1_1 (absV_int q5) ?_
    intro tk hE1
    obtain rfl := hE1
    refine el1_1 (absV_str q6) ?_
    intro tk' hE1
    obtain rfl := hE1
    refine in6_4 t o c tk x.2 tk' ?_ q1 q2 ?_
    · rw [List.getD_eq_getElem?_getD, List.getElem?_eq_getElem hi, Option.getD_some, hr]
    · rw [hf]; exact q3
  refine sorted_any (fun out => ∃ ys, AllR (pP H) ys (out.toList.map absV) ∧ ys.Perm xs ∧ ys.Pairwise (fun x y => x.1 < y.1)) (.inl rfl) hl rfl rfl (by (first | (simp +arith only; done) | lia | omega)) (fun h1 P k1 hP => ?_) fun h1 h' n out e k1 k2 hn' ⟨ys, y1, y2, y3⟩ he => ?_
  · have old : ∀ b o, s.heap.get? b = some o → (midHeap (h1.push (seqObj "list" us.toArray 0)) h1.objs.size us).get? b = some o := fun b o hb =>
      midHeap_old (Nat.ne_of_lt (Heap.lt_size (k1 _ _ hb))) (Heap.get?_push_of_some _ (k1 _ _ hb))
    refine list_sort_any (Good f us.length) (s := { s with heap := h1.push (seqObj "list" us.toArray 0) }) (Heap.get?_push_size _ rfl) (by (first | (simp +arith only; done) | lia | omega)) (fun h2 => hP _ ?_) (fun h2 => ?_) fun p hp => hP _ ?_
    · refine in1_3 xs hx (.refl _) ?_
      match xs, hlen with
      | [], _ => exact .nil
      | [_], _ => exact List.pairwise_singleton _ _
      | _ :: _ :: _, hlen => simp at hlen; (first | (simp +arith only; done) | lia | omega)
    · refine in1_2 (tuples' true) (fun Q hQ => ?_) (fun G hG => ?_)
      · have kt : ∀ (l : List Value), (∀ v ∈ l, ∃ i, i < us.length ∧ v = us.getD i Value.none) → ∃ fs : List Value, fs.length = l.length ∧ (∀ v ∈ fs, ∃ n t, v = .int n t) ∧ KatTups (midHeap (h1.push (seqObj "list" us.toArray 0)) h1.objs.size us) l fs := by
          intro l
          induction l with
          | nil => intro _; exact in1_3 ([]) rfl (fun _ h => absurd h List.not_mem_nil) KatTups.nil
          | cons v l ih =>
            intro hv
            refine el1_3 (ih fun u hu => hv u (.tail _ hu)) ?_
            intro fs a1 a2 a3
            refine el1_2 (hv _ (.head _)) ?_
            intro i hi hE1
            obtain rfl := hE1
            refine el6_4 (htup i hi) ?_
            intro t o c tk x tk' b1 b2 b3 b4
            rw [b1]
            refine in1_3 (.int (f i) tk :: fs) (by simp [a1]) (fun u hu => ?_) (KatTups.cons (old _ _ b2) b3 b4 rfl a3)
            rcases List.mem_cons.mp hu with rfl | hu
            · exact in2_1 _ _ rfl
            · exact a2 u hu
        obtain ⟨fs, a1, a2, a3⟩ := kt us fun v hv => by
          refine hide fun PZ kZ => ?_
          obtain ⟨i, hi, hE1⟩ := List.getElem_of_mem hv
          refine kZ ?_
          clear kZ PZ
          obtain rfl := hE1
          exact in1_2 i hi (by rw [List.getD_eq_getElem?_getD, List.getElem?_eq_getElem hi]; rfl)
        refine kat_kind a3 (by (first | (simp +arith only; done) | lia | omega)) (T := .type "int") (fun v hv => ?_) (by rfl) hQ
        refine el2_1 (a2 v hv) ?_
        intro n t hE1
        obtain rfl := hE1
        exact .now
      · refine chk_ok hdis (fun i j C hi hj ne hC => ?_) hG _ [] (by simp) (chk_all h2 (by (first | (simp +arith only; done) | lia | omega)))
        refine el6_4 (htup i hi) ?_
        intro t o c tk x tk' b1 b2 b3 b4
        refine el6_4 (htup j hj) ?_
        intro t2 o2 c2 tk2 x2 tk2' d1 d2 d3 d4
        show wpAny _ _ (keyLt' _ (us.getD i Value.none) (us.getD j Value.none)) _ _ _
        rw [b1, d1]
        refine kat_lt (old _ _ b2) b4 (old _ _ d2) d4 (kat_cons (wpAny_eqBool_int ?_))
        rw [show (f i == f j) = false from beq_eq_false_iff_ne.mpr (hdis i j hi hj ne)]
        exact kat_no (oneLt_int hC)
    · exact hgood p hp
  · have R1 := R.grow k1
    refine (pz _ _ _ _ (R1.alloc k2 hn' (ao := .list (out.toList.map absV)) ⟨out.toList, ⟨e, ?_⟩, rfl⟩) (q _ _ _ y1 y2 y3 (R1.off hn').h))
    exact he
end

/-! ## the plain side of _law_right -/
section
variable {seen : List (Fin 5 × Nat)} {F : VS}
theorem Rt.fn (ok : FOK seen F) {s i i' : Int} {n : Nat} {k k' : Fin 5} (h : Rt seen F s n i k) (h' : Rt seen F s n i' k') : i = i' := by
  induction h generalizing i' k' with
  | @my sub n j k hm =>
    generalize hs : (sub : Int) = s' at h'
    cases h' with
    | @my sub' _ j' _ hm' =>
      have : sub = sub' := by (first | (simp +arith only; done) | lia | omega)
      subst this
      rw [ok.my_inj hm hm']
    | @cap sub' p caps size o _ _ _ hsub hc hr =>
      have : sub = sub' := by (first | (simp +arith only; done) | lia | omega)
      subst this
      exact absurd hm (ok.cap_not_my hsub hc)
    | base hm' => (first | (simp +arith only; done) | lia | omega)
  | @cap sub p caps size o n i k hsub hc hr ih =>
    generalize hs : (sub : Int) = s' at h'
    cases h' with
    | @my sub' _ j' _ hm' =>
      have : sub = sub' := by (first | (simp +arith only; done) | lia | omega)
      subst this
      exact absurd hm' (ok.cap_not_my hsub hc)
    | @cap sub' p' caps' size' o' _ _ _ hsub' hc' hr' =>
      have : sub = sub' := by (first | (simp +arith only; done) | lia | omega)
      subst this
      rw [hsub] at hsub'; cases hsub'
      have e1 := ok.cap_one hsub hc
      have e2 := ok.cap_one hsub hc'
      rw [e1] at e2
      cases e2
      exact ih hr'
    | base hm' => (first | (simp +arith only; done) | lia | omega)
  | base hm =>
    generalize hs : (-1 : Int) = s' at h'
    cases h' with
    | my hm' => (first | (simp +arith only; done) | lia | omega)
    | cap hsub hc hr => (first | (simp +arith only; done) | lia | omega)
    | base hm' => rfl

theorem nodup_len {α : Type} [DecidableEq α] : ∀ (u l : List α), l.Nodup → (∀ x ∈ l, x ∈ u) → l.length ≤ u.length := by
  intro u
  induction u with
  | nil =>
    intro l _ h
    cases l with
    | nil => exact Nat.le_refl _
    | cons x r => exact absurd (h x (.head _)) (fun z => nomatch z)
  | cons y u ih =>
    intro l hn h
    have h1 := ih (l.filter (· ≠ y)) (hn.filter _) (fun x hx => by
      have hm := List.mem_filter.mp hx
      rcases List.mem_cons.mp (h x hm.1) with z | z
      · exact absurd z (by simpa using hm.2)
      · exact z)
    have h2 : l.length ≤ (l.filter (· ≠ y)).length + 1 := by
      clear h ih h1
      induction l with
      | nil => simp
      | cons x r ih =>
        rw [List.nodup_cons] at hn
        by_cases hx : x = y
        · subst hx
          have : r.filter (· ≠ x) = r := List.filter_eq_self.mpr fun z hz => by
            simp only [ne_eq, decide_not, Bool.not_eq_true', decide_eq_false_iff_not]
            intro q; subst q; exact hn.1 hz
          rw [List.filter_cons_of_neg (by simp), this]; simp
        · have := ih hn.2
          simp only [List.length_cons, ne_eq, hx, not_false_eq_true, decide_true, List.filter_cons_of_pos]
          simp only [ne_eq] at this
          (first | (simp +arith only; done) | lia | omega)
    simp only [List.length_cons]
    (first | (simp +arith only; done) | lia | omega)

open Classical in
noncomputable def rt (seen : List (Fin 5 × Nat)) (F : VS) (p : Int) (o : Nat) : Int := if h : ∃ i k, Rt seen F p o i k then h.choose else 0
theorem rt_eq (ok : FOK seen F) {p i : Int} {o : Nat} {k : Fin 5} (h : Rt seen F p o i k) : rt seen F p o = i := by
  unfold rt
  have hx : ∃ i k, Rt seen F p o i k := ⟨i, k, h⟩
  rw [dif_pos hx]
  refine el1_1 hx.choose_spec ?_
  intro k' h'
  exact h'.fn ok h
/-- what a sub must have -/
noncomputable def needs (seen : List (Fin 5 × Nat)) (F : VS) (v : Nat) : List (Int × Str) := match F.subs[v]? with
  | some (p, caps, _) => caps.map fun c => (rt seen F p c.1, sgS c.2.2)
  | none => []
theorem needs_eq {v : Nat} {p : Int} {caps : List (Nat × Nat × Fin 5)} {size : Nat} (h : F.subs[v]? = some (p, caps, size)) : needs seen F v = caps.map fun c => (rt seen F p c.1, sgS c.2.2) := by unfold needs; rw [h]
theorem needs_nd (ok : FOK seen F) (v : Nat) : ((needs seen F v).map (·.1)).Nodup := by
  unfold needs
  match hs : F.subs[v]? with
  | none => simp
  | some (p, caps, size) =>
    refine el0_2 (ok.caps _ _ _ _ hs) ?_
    intro h1 h2
    simp only [List.map_map]
    clear hs
    induction caps with
    | nil => exact .nil
    | cons c l ih =>
      simp only [List.map_cons, List.nodup_cons] at h1 ⊢
      refine ⟨fun hm => ?_, ih h1.2 fun o n k hk => h2 o n k (.tail _ hk)⟩
      refine el1_2 (List.mem_map.mp hm) ?_
      intro c' hc' e
      refine el1_2 (h2 _ _ _ (.head _ : (c.1, c.2.1, c.2.2) ∈ c :: l)) ?_
      intro i hi _
      refine el1_2 (h2 c'.1 c'.2.1 c'.2.2 (.tail _ hc')) ?_
      intro i' hi' _
      simp only [Function.comp_apply] at e
      rw [rt_eq ok hi, rt_eq ok hi'] at e
      subst e
      exact h1.1 (List.mem_map.mpr ⟨c', hc', ok.key hi' hi⟩)
theorem needs_len (ok : FOK seen F) (v : Nat) : (needs seen F v).length ≤ 5 := by
  unfold needs
  match hs : F.subs[v]? with
  | none => simp
  | some (p, caps, size) =>
    have := five (ok.caps _ _ _ _ hs).1
    simpa using this
theorem needs_ok {v : Nat} : ∀ x ∈ needs seen F v, PyData.strOk x.2 = true := by
  have hk : ∀ k : Fin 5, PyData.strOk (sgS k) = true := by decide +kernel
  unfold needs
  match hs : F.subs[v]? with
  | none => nofun
  | some (p, caps, size) =>
    intro x hx
    refine el1_2 (List.mem_map.mp hx) ?_
    intro c _ hE1
    obtain rfl := hE1
    exact hk _
theorem fst_nodup {l : List (Int × Str)} (h : (l.map (·.1)).Nodup) : l.Nodup := by
  induction l with
  | nil => exact .nil
  | cons x l ih =>
    simp only [List.map_cons, List.nodup_cons] at h ⊢
    exact ⟨fun hx => h.1 (List.mem_map_of_mem hx), ih h.2⟩

structure NOK (seen : List (Fin 5 × Nat)) (F : VS) (N : Nat → List (Int × Str)) : Prop where
  sub : ∀ v, ∀ x ∈ N v, x ∈ needs seen F v
  nd : ∀ v, ((N v).map (·.1)).Nodup
theorem NOK.len (ok : FOK seen F) {N : Nat → List (Int × Str)} (h : NOK seen F N) (v : Nat) : (N v).length ≤ 5 :=
  Nat.le_trans (nodup_len _ _ (fst_nodup (h.nd v)) (h.sub v)) (needs_len ok v)
noncomputable def nAdd (N : Nat → List (Int × Str)) (v : Nat) (x : Int × Str) : Nat → List (Int × Str) := fun u => if u = v then N v ++ [x] else N u
theorem nAdd_mem {N : Nat → List (Int × Str)} {v u : Nat} {x y : Int × Str} : y ∈ nAdd N v x u ↔ y ∈ N u ∨ (u = v ∧ y = x) := by
  unfold nAdd
  by_cases h : u = v
  · subst h; simp
  · simp [h]
theorem NOK.add {N : Nat → List (Int × Str)} (h : NOK seen F N) {v : Nat} {x : Int × Str} (hx : x ∈ needs seen F v) (hn : x ∉ N v) (ok : FOK seen F) : NOK seen F (nAdd N v x) := by
  refine ⟨fun u y hy => ?_, fun u => ?_⟩
  · rcases nAdd_mem.mp hy with hy | ⟨rfl, rfl⟩
    · exact h.sub u y hy
    · exact hx
  · unfold nAdd
    by_cases e : u = v
    · subst e
      rw [if_pos rfl, List.map_append, List.nodup_append]
      refine in0_3 (h.nd u) (by simp) (fun a ha b hb => ?_)
      simp at hb; subst hb
      intro z
      refine el1_2 (List.mem_map.mp ha) ?_
      intro y hy hE1
      obtain rfl := hE1
      refine hn ?_
      have hy' := h.sub u y hy
      have hnd := needs_nd ok u (F := F) (seen := seen)
      have : y = x := by
        clear hn hy h
        generalize needs seen F u = l at hx hy' hnd
        induction l with
        | nil => cases hx
        | cons w l ih =>
          simp only [List.map_cons, List.nodup_cons] at hnd
          rcases List.mem_cons.mp hx with rfl | hx2
          · rcases List.mem_cons.mp hy' with rfl | hy'
            · rfl
            · exact absurd (z ▸ List.mem_map_of_mem (f := (·.1)) hy') hnd.1
          · rcases List.mem_cons.mp hy' with rfl | hy'
            · exact absurd (by have z' : y.1 = x.1 := z; have := List.mem_map_of_mem (f := (·.1)) hx2; rw [z']; exact this) hnd.1
            · exact ih hx2 hy' hnd.2
      rw [← this]; exact hy
    · rw [if_neg e]; exact h.nd u
/-- all uses before p are told -/
noncomputable def NDone (F : VS) (p : Nat) (N : Nat → List (Int × Str)) : Prop := ∀ (q : Nat) (u n : Nat) (i : Int) (k : Fin 5), q < p → F.uses[q]? = some (u, n, i, k) → ∀ v, On F i u v → (i, sgS k) ∈ N v
theorem NDone.all (ok : FOK seen F) {N : Nat → List (Int × Str)} (h : NDone F F.uses.length N) (v : Nat) : ∀ x ∈ needs seen F v, x ∈ N v := by
  unfold needs
  match hs : F.subs[v]? with
  | none => nofun
  | some (p, caps, size) =>
    intro x hx
    refine el1_2 (List.mem_map.mp hx) ?_
    intro c hc hE1
    obtain rfl := hE1
    refine el1_2 ((ok.caps _ _ _ _ hs).2 c.1 c.2.1 c.2.2 hc) ?_
    intro i hi hnd
    rw [rt_eq ok hi]
    refine el2_2 hnd.on ?_
    intro u n hu hon
    refine hide fun PZ kZ => ?_
    obtain ⟨q, hq, e⟩ := List.getElem_of_mem hu
    refine kZ ?_
    clear kZ PZ
    exact h q u n i c.2.2 hq (by rw [List.getElem?_eq_getElem hq, e]) v hon
theorem sorted_same {ys zs : List (Int × Str)} (h1 : ys.Pairwise (fun x y => x.1 < y.1)) (h2 : zs.Pairwise (fun x y => x.1 < y.1)) (h : ∀ x, x ∈ ys ↔ x ∈ zs) : ys = zs := by
  induction ys generalizing zs with
  | nil =>
    cases zs with
    | nil => rfl
    | cons z zs => exact absurd ((h z).mpr (.head _)) nofun
  | cons y ys ih =>
    cases zs with
    | nil => exact absurd ((h y).mp (.head _)) nofun
    | cons z zs =>
      rw [List.pairwise_cons] at h1 h2
      have e : y = z := by
        rcases List.mem_cons.mp ((h y).mp (.head _)) with e | hy
        · exact e
        · rcases List.mem_cons.mp ((h z).mpr (.head _)) with e | hz
          · exact e.symm
          · have := h2.1 _ hy
            have := h1.1 _ hz
            (first | (simp +arith only; done) | lia | omega)
      subst e
      rw [ih h1.2 h2.2 fun x => ?_]
      constructor
      · intro hx
        rcases List.mem_cons.mp ((h x).mp (.tail _ hx)) with rfl | hx'
        · exact absurd (h1.1 _ hx) (by (first | (simp +arith only; done) | lia | omega))
        · exact hx'
      · intro hx
        rcases List.mem_cons.mp ((h x).mpr (.tail _ hx)) with rfl | hx'
        · exact absurd (h2.1 _ hx) (by (first | (simp +arith only; done) | lia | omega))
        · exact hx'
theorem ints_same {ns : List Int} {n : Nat} {l : List Nat} (h1 : ns.Perm (l.map fun (i : Nat) => (i : Int))) (h2 : l.Perm (List.range n)) (h3 : ns.Pairwise (· ≤ ·)) : ns = (List.range n).map fun (i : Nat) => (i : Int) := by
  refine List.Perm.eq_of_pairwise (le := (· ≤ ·)) (fun a b _ _ h h' => by (first | (simp +arith only; done) | lia | omega)) h3 ?_ (h1.trans (h2.map _))
  rw [List.pairwise_map]
  exact List.pairwise_lt_range.imp fun h => by (first | (simp +arith only; done) | lia | omega)

/-! data -/
noncomputable def dP (x : Int × Str) : PyData := .tuple [.int x.1, .str x.2]
theorem dP_rds {H : AH} : ∀ {l : List (Int × Str)} {vs : List AV}, AllR (pP H) l vs → RDs H (l.map dP) vs
  | [], vs, h => by simp only [AllR] at h; subst h; simp only [List.map_nil, RDs]
  | x :: l, vs, h => by
    simp only [AllR] at h
    refine el2_3 h ?_
    try clear h
    intro v r hE1 hE2 hr
    obtain rfl := hE1
    refine el1_2 hE2 ?_
    try clear hE2
    intro t hE3 ht
    obtain rfl := hE3
    simp only [List.map_cons, RDs, dP, RD]
    exact in2_3 _ _ rfl (⟨t, _, rfl, ht, _, _, rfl, rfl, _, _, rfl, rfl, rfl⟩) (dP_rds hr)
theorem dP_lay : ∀ {l : List (Int × Str)}, (∀ x ∈ l, PyData.strOk x.2 = true) → PyData.canLayAll0 (l.map dP) = true
  | [], _ => rfl
  | x :: l, h => by
    have := h x (.head _)
    simp only [List.map_cons, PyData.canLayAll0, dP_lay (l := l) (fun y hy => h y (.tail _ hy)), dP, PyData.canLay0, this, Bool.and_self]
theorem dP_eqv (x y : Int × Str) : PyData.eqv (dP x) (dP y) = decide (x = y) := by
  refine hide fun PZ kZ => ?_
  obtain ⟨a, b⟩ := x
  refine kZ ?_
  clear kZ PZ
  refine hide fun PZ kZ => ?_
  obtain ⟨c, d⟩ := y
  refine kZ ?_
  clear kZ PZ
  simp only [dP, PyData.eqv, PyData.eqvAll, Prod.mk.injEq, Bool.decide_and, Bool.and_true]
  rw [show (a == c) = decide (a = c) by rw [Bool.eq_iff_iff]; simp, show (b == d) = decide (b = d) by rw [Bool.eq_iff_iff]; simp]
theorem dP_any (y : Int × Str) (l : List (Int × Str)) : ((l.map dP).any fun e => PyData.eqv e (dP y)) = decide (y ∈ l) := by
  rw [List.any_map]
  simp only [Function.comp_def, dP_eqv]
  rw [Bool.eq_iff_iff]
  simp
theorem dP_depth : ∀ l : List (Int × Str), PyData.depthAll (l.map dP) ≤ 2
  | [] => by simp [PyData.depthAll]
  | x :: l => by
    have := dP_depth l
    simp only [List.map_cons, PyData.depthAll, dP, PyData.depth]
    (first | (simp +arith only; done) | lia | omega)
theorem dP_all : ∀ l : List (Int × Str), PyData.eqvAll (l.map dP) (l.map dP) = true
  | [] => rfl
  | x :: l => by simp only [List.map_cons, PyData.eqvAll, dP_eqv, dP_all l, decide_true, Bool.and_self]
theorem dI_rds {H : AH} : ∀ {l : List Int}, RDs H (l.map PyData.int) (l.map AV.int)
  | [] => by simp only [List.map_nil, RDs]
  | x :: l => by
    simp only [List.map_cons, RDs, RD]
    exact in2_3 _ _ rfl rfl dI_rds
theorem dI_lay : ∀ {l : List Int}, PyData.canLayAll0 (l.map PyData.int) = true
  | [] => rfl
  | x :: l => by simp only [List.map_cons, PyData.canLayAll0, dI_lay (l := l), PyData.canLay0, Bool.and_self]
theorem dI_depth : ∀ l : List Int, PyData.depthAll (l.map PyData.int) ≤ 1
  | [] => by simp [PyData.depthAll]
  | x :: l => by
    have := dI_depth l
    simp only [List.map_cons, PyData.depthAll, PyData.depth]
    (first | (simp +arith only; done) | lia | omega)
theorem dI_all : ∀ l : List Int, PyData.eqvAll (l.map PyData.int) (l.map PyData.int) = true
  | [] => rfl
  | x :: l => by simp [PyData.eqvAll, dI_all l, PyData.eqv]
end

/-! ## the plain law -/
structure VExt (s s' : VS) : Prop where
  mys : ∃ t, s'.mys = s.mys ++ t
  uses : ∃ t, s'.uses = s.uses ++ t
  subs : ∃ t, s'.subs = s.subs ++ t
theorem VExt.refl {s : VS} : VExt s s := ⟨⟨[], by simp⟩, ⟨[], by simp⟩, ⟨[], by simp⟩⟩
theorem VExt.trans {a b c : VS} (x : VExt a b) (y : VExt b c) : VExt a c := by
  refine hide fun PZ kZ => ?_
  obtain ⟨hE1, hE2, hE3⟩ := x
  refine kZ ?_
  clear kZ PZ
  refine el1_1 hE1 ?_
  try clear hE1
  intro m hm
  refine el1_1 hE2 ?_
  try clear hE2
  intro u hu
  refine el1_1 hE3 ?_
  try clear hE3
  intro t ht
  refine hide fun PZ kZ => ?_
  obtain ⟨hE1, hE2, hE3⟩ := y
  refine kZ ?_
  clear kZ PZ
  refine el1_1 hE1 ?_
  try clear hE1
  intro m' hm'
  refine el1_1 hE2 ?_
  try clear hE2
  intro u' hu'
  refine el1_1 hE3 ?_
  try clear hE3
  intro t' ht'
  exact ⟨⟨m ++ m', by rw [hm', hm, List.append_assoc]⟩, ⟨u ++ u', by rw [hu', hu, List.append_assoc]⟩, ⟨t ++ t', by rw [ht', ht, List.append_assoc]⟩⟩
theorem app_get {α : Type} {l t : List α} {i : Nat} {x : α} (h : l[i]? = some x) : (l ++ t)[i]? = some x := by
  rw [List.getElem?_append_left (List.getElem?_eq_some_iff.mp h).1]; exact h
theorem VExt.my {s s' : VS} (x : VExt s s') {i : Nat} {y : Nat × Nat × Fin 5} (h : s.mys[i]? = some y) : s'.mys[i]? = some y := by
  obtain ⟨t, e⟩ := x.mys; rw [e]; exact app_get h
theorem VExt.sub {s s' : VS} (x : VExt s s') {i : Nat} {y : Int × List (Nat × Nat × Fin 5) × Nat} (h : s.subs[i]? = some y) : s'.subs[i]? = some y := by
  obtain ⟨t, e⟩ := x.subs; rw [e]; exact app_get h
theorem VExt.use {s s' : VS} (x : VExt s s') {y : Nat × Nat × Int × Fin 5} (h : y ∈ s.uses) : y ∈ s'.uses := by
  obtain ⟨t, e⟩ := x.uses; rw [e]; exact List.mem_append_left _ h
theorem VExt.len {s s' : VS} (x : VExt s s') : s.subs.length ≤ s'.subs.length := by
  obtain ⟨t, e⟩ := x.subs; rw [e]; simp

section
variable {seen : List (Fin 5 × Nat)} {s s' : VS}
theorem Rt.mono (x : VExt s s') {v i : Int} {n : Nat} {k : Fin 5} (h : Rt seen s v n i k) : Rt seen s' v n i k := by
  induction h with
  | my hm => exact .my (x.my hm)
  | cap hs hc _ ih => exact .cap (x.sub hs) hc ih
  | base hm => exact .base hm
structure VW (seen : List (Fin 5 × Nat)) (s : VS) : Prop where
  par : ∀ (v : Nat) (p : Int) (caps : List (Nat × Nat × Fin 5)) (size : Nat), s.subs[v]? = some (p, caps, size) → -1 ≤ p ∧ p < (v : Int)
  uses : ∀ (u n : Nat) (i : Int) (k : Fin 5), (u, n, i, k) ∈ s.uses → u < s.subs.length ∧ Rt seen s (u : Int) n i k
  mysub : ∀ (j t n : Nat) (k : Fin 5), s.mys[j]? = some (t, n, k) → t < s.subs.length
theorem Rt.owner (W : VW seen s) {sub i : Int} {n : Nat} {k : Fin 5} (h : Rt seen s sub n i k) : ownerOf s i ≤ sub := by
  induction h with
  | my hm => unfold ownerOf; simp [hm]
  | cap hs hc _ ih => have := W.par _ _ _ _ hs; (first | (simp +arith only; done) | lia | omega)
  | base hm => unfold ownerOf; rw [if_neg (by (first | (simp +arith only; done) | lia | omega))]; (first | (simp +arith only; done) | lia | omega)
theorem Rt.own_ext (x : VExt s s') {sub i : Int} {n : Nat} {k : Fin 5} (h : Rt seen s sub n i k) : ownerOf s' i = ownerOf s i := by
  rcases h.ival with ⟨j, t, m, e, hm⟩ | ⟨m, e, hm⟩
  · subst e; unfold ownerOf; simp [hm, x.my hm]
  · subst e; unfold ownerOf; rw [if_neg (by (first | (simp +arith only; done) | lia | omega)), if_neg (by (first | (simp +arith only; done) | lia | omega))]
theorem Nd.mono (W : VW seen s) (x : VExt s s') {v : Nat} {i : Int} {k : Fin 5} (h : Nd s v i k) : Nd s' v i k := by
  have eq : ∀ {v : Nat} {i : Int} {k : Fin 5}, Nd s v i k → ownerOf s' i = ownerOf s i := fun h => by
    refine el2_2 h.on ?_
    intro u n hu _
    exact (W.uses _ _ _ _ hu).2.own_ext x
  induction h with
  | use hm ho => exact .use (x.use hm) (by rw [(W.uses _ _ _ _ hm).2.own_ext x]; exact ho)
  | up h hs ho ih => exact .up ih (x.sub hs) (by rw [eq h]; exact ho)

noncomputable def hid : List Nat → Int
  | [] => -1
  | u :: _ => (u : Int)
structure Lvl (seen : List (Fin 5 × Nat)) (s : VS) (ps : PS) (u : Nat) (p : Int) : Prop where
  sub : ∃ C S, s.subs[u]? = some (p, C, S)
  slots : ((s.mys.filter (fun x => x.1 = u)).map (fun x => x.2.1) ++ ps.caps.map (fun x => x.2.1)).Perm (List.range ps.size)
  nd : (ps.caps.map fun x => x.2.2).Nodup
  base : ∀ c ∈ ps.caps, bget ps.base c.2.2 ≠ none
  caps : ∀ o n k, (o, n, k) ∈ ps.caps → ∃ i, Rt seen s p o i k ∧ Nd s u i k
  inner : ps.inner ≠ []
  pend : ps.pend = []
noncomputable def LV (seen : List (Fin 5 × Nat)) (s : VS) : List PS → List Nat → Prop
  | [_], [] => True
  | ps :: r, u :: us => Lvl seen s ps u (hid us) ∧ LV seen s r us
  | _, _ => False
theorem Lvl.mono {ps : PS} {u : Nat} {p : Int} (L : Lvl seen s ps u p) (W : VW seen s) (x : VExt s s') (hf : s'.mys.filter (fun x => x.1 = u) = s.mys.filter (fun x => x.1 = u)) : Lvl seen s' ps u p :=
  ⟨let ⟨C, S, h⟩ := L.sub; ⟨C, S, x.sub h⟩, by rw [hf]; exact L.slots, L.nd, L.base, fun o n k h => let ⟨i, h1, h2⟩ := L.caps o n k h; ⟨i, h1.mono x, h2.mono W x⟩, L.inner, L.pend⟩
theorem LV.mono (W : VW seen s) (x : VExt s s') : ∀ {stk : List PS} {us : List Nat}, LV seen s stk us → (∀ u ∈ us, s'.mys.filter (fun x => x.1 = u) = s.mys.filter (fun x => x.1 = u)) → LV seen s' stk us
  | [], _, h, _ => by simp only [LV] at h
  | [ps], [], h, _ => by simp only [LV]
  | ps :: r, u :: us, h, hf => by
    simp only [LV] at h ⊢
    exact ⟨h.1.mono W x (hf u (.head _)), LV.mono W x h.2 fun v hv => hf v (.tail _ hv)⟩
  | ps :: p2 :: r, [], h, _ => by simp only [LV] at h
theorem LV.lt (W : VW seen s) : ∀ {stk : List PS} {us : List Nat}, LV seen s stk us → ∀ v ∈ us, (v : Int) ≤ hid us
  | [], _, h => by simp only [LV] at h
  | [ps], [], h => nofun
  | ps :: r, u :: us, h => by
    simp only [LV] at h
    intro v hv
    rcases List.mem_cons.mp hv with rfl | hv
    · exact Int.le_refl _
    · have := LV.lt W h.2 v hv
      refine el2_1 h.1.sub ?_
      intro C S hs
      have := W.par _ _ _ _ hs
      simp only [hid]; (first | (simp +arith only; done) | lia | omega)
  | ps :: p2 :: r, [], h => by simp only [LV] at h

noncomputable def Mean (seen : List (Fin 5 × Nat)) (s : VS) : List PS → List Nat → Fin 5 → Option Tg → Prop
  | [], _, _, tg => tg = none
  | ps :: r, us, k, tg => match ps.here k with
    | some (.slot n) => ∃ i, tg = some (.int i) ∧ Rt seen s (hid us) n i k
    | some (.whole t) => tg = some (.str t) ∧ PyData.strOk t = true
    | none => Mean seen s r us.tail k tg

noncomputable def Ups (seen : List (Fin 5 × Nat)) (s s' : VS) : List PS → List PS → List Nat → Prop
  | [], [], _ => True
  | ps :: r, ps' :: r', us => ps'.inner = ps.inner ∧ (∀ k p, bget ps.base k = some p → bget ps'.base k = some p) ∧
    (∀ k p, bget ps.base k = none → bget ps'.base k = some p → ∀ tg, Mean seen s r us.tail k tg → ∃ n i, p = .slot n ∧ tg = some (.int i) ∧ Rt seen s' (hid us) n i k) ∧ Ups seen s s' r r' us.tail
  | _, _, _ => False

theorem hereL_app {k : Fin 5} {b : Blk} : ∀ {l : List Blk}, hereL (l ++ [b]) k = (hereL l k).or (bget b k)
  | [] => by
    simp only [List.nil_append, hereL]
    cases bget b k <;> rfl
  | c :: l => by
    simp only [List.cons_append, hereL, hereL_app (l := l)]
    cases bget c k <;> rfl
theorem Mean.ups (x : VExt s s') : ∀ {stk stk' : List PS} {us : List Nat} {k : Fin 5} {tg : Option Tg}, Ups seen s s' stk stk' us → Mean seen s stk us k tg → Mean seen s' stk' us k tg
  | [], [], us, k, tg, _, h => h
  | [], _ :: _, us, k, tg, u, _ => by simp only [Ups] at u
  | _ :: _, [], us, k, tg, u, _ => by simp only [Ups] at u
  | ps :: r, ps' :: r', us, k, tg, u, h => by
    simp only [Ups] at u
    refine el0_4 u ?_
    try clear u
    intro u1 u2 u3 u4
    simp only [Mean, PS.here, hereL_app, u1] at h ⊢
    cases q : hereL ps.inner k with
    | some p =>
      rw [q] at h
      cases p with
      | slot n => obtain ⟨i, h1, h2⟩ := h; exact in1_2 i h1 (h2.mono x)
      | whole t => exact h
    | none =>
      rw [q] at h
      simp only [Option.none_or] at h ⊢
      cases qb : bget ps.base k with
      | some p =>
        rw [qb] at h
        rw [u2 _ _ qb]
        cases p with
        | slot n => obtain ⟨i, h1, h2⟩ := h; exact in1_2 i h1 (h2.mono x)
        | whole t => exact h
      | none =>
        rw [qb] at h
        simp only at h
        cases qb' : bget ps'.base k with
        | none => exact Mean.ups x u4 h
        | some p =>
          refine el2_3 (u3 _ _ qb qb' _ h) ?_
          intro n i hE1 h1 h2
          obtain rfl := hE1
          exact in1_2 i h1 h2
theorem Mean.mono (x : VExt s s') : ∀ {stk : List PS} {us : List Nat} {k : Fin 5} {tg : Option Tg}, Mean seen s stk us k tg → Mean seen s' stk us k tg
  | [], us, k, tg, h => h
  | ps :: r, us, k, tg, h => by
    simp only [Mean] at h ⊢
    cases q : ps.here k with
    | some p =>
      rw [q] at h
      cases p with
      | slot n => obtain ⟨i, h1, h2⟩ := h; exact in1_2 i h1 (h2.mono x)
      | whole t => exact h
    | none => rw [q] at h; exact Mean.mono x h
theorem Ups.refl : ∀ {stk : List PS} {us : List Nat}, Ups seen s s' stk stk us
  | [], _ => by simp only [Ups]
  | ps :: r, us => by
    unfold Ups
    exact in0_4 rfl (fun _ _ h => h) (fun k p h h' => (by rw [h] at h'; exact nsE h')) Ups.refl
theorem Ups.trans {s'' : VS} (x : VExt s s') (y : VExt s' s'') : ∀ {a b c : List PS} {us : List Nat}, Ups seen s s' a b us → Ups seen s' s'' b c us → Ups seen s s'' a c us
  | [], [], [], us, _, _ => by simp only [Ups]
  | [], [], _ :: _, us, _, u => by simp only [Ups] at u
  | [], _ :: _, _, us, u, _ => by simp only [Ups] at u
  | _ :: _, [], _, us, u, _ => by simp only [Ups] at u
  | _ :: _, _ :: _, [], us, _, u => by simp only [Ups] at u
  | p :: a, p' :: b, p'' :: c, us, u, v => by
    simp only [Ups] at u v ⊢
    refine el0_4 u ?_
    try clear u
    intro u1 u2 u3 u4
    refine el0_4 v ?_
    try clear v
    intro v1 v2 v3 v4
    refine in0_4 (v1.trans u1) (fun k q h => v2 _ _ (u2 _ _ h)) (fun k q h h'' tg ht => ?_) (u4.trans x y v4)
    cases q' : bget p'.base k with
    | none => exact v3 _ _ q' h'' _ (ht.ups x u4)
    | some z =>
      have := v2 _ _ q'
      rw [h''] at this; (have hE0 := Option.some.inj this; subst hE0; clear this)
      refine el2_3 (u3 _ _ h q' _ ht) ?_
      intro n i h1 h2 h3
      exact in2_3 n i h1 h2 (h3.mono y)
theorem Ups.pop : ∀ {a b : List PS} {us : List Nat}, Ups seen s s' a b us → Ups seen s s' (topS PS.pop a) (topS PS.pop b) us
  | [], [], us, u => u
  | [], _ :: _, us, u => by simp only [Ups] at u
  | _ :: _, [], us, u => by simp only [Ups] at u
  | p :: a, p' :: b, us, u => by
    simp only [Ups, topS, PS.pop] at u ⊢
    refine el0_4 u ?_
    try clear u
    intro u1 u2 u3 u4
    exact in0_4 (by rw [u1]) u2 u3 u4

noncomputable def CapIn (s : VS) : List PS → List Nat → Prop
  | ps :: r, u :: us => (∃ p C S, s.subs[u]? = some (p, C, S) ∧ ∀ c ∈ ps.caps, c ∈ C) ∧ CapIn s r us
  | _, _ => True
theorem CapIn.mono (x : VExt s s') : ∀ {stk : List PS} {us : List Nat}, CapIn s stk us → CapIn s' stk us
  | [], _, _ => by simp only [CapIn]
  | _ :: _, [], _ => by simp only [CapIn]
  | ps :: r, u :: us, h => by
    simp only [CapIn] at h ⊢
    refine el0_2 h ?_
    try clear h
    intro hE1 h3
    refine el3_2 hE1 ?_
    try clear hE1
    intro p C S h1 h2
    exact ⟨⟨p, C, S, x.sub h1, h2⟩, h3.mono x⟩
noncomputable def Grow : List PS → List PS → Prop
  | [], [] => True
  | a :: r, b :: t => (∀ c ∈ a.caps, c ∈ b.caps) ∧ Grow r t
  | _, _ => False
theorem Grow.refl : ∀ {a : List PS}, Grow a a
  | [] => by simp only [Grow]
  | a :: r => by simp only [Grow]; exact ⟨fun _ h => h, Grow.refl⟩
theorem Grow.trans : ∀ {a b c : List PS}, Grow a b → Grow b c → Grow a c
  | [], [], [], _, _ => by simp only [Grow]
  | [], [], _ :: _, _, g => by simp only [Grow] at g
  | [], _ :: _, _, g, _ => by simp only [Grow] at g
  | _ :: _, [], _, g, _ => by simp only [Grow] at g
  | _ :: _, _ :: _, [], _, g => by simp only [Grow] at g
  | a :: r, b :: t, c :: q, g, h => by
    simp only [Grow] at g h ⊢
    exact ⟨fun x hx => h.1 _ (g.1 _ hx), g.2.trans h.2⟩
theorem CapIn.grow : ∀ {a b : List PS} {us : List Nat}, CapIn s b us → Grow a b → CapIn s a us
  | [], _, _, _, _ => by simp only [CapIn]
  | _ :: _, _, [], _, _ => by simp only [CapIn]
  | _ :: _, [], _ :: _, _, g => by simp only [Grow] at g
  | a :: r, b :: t, u :: us, h, g => by
    simp only [CapIn, Grow] at h g ⊢
    refine el0_2 h ?_
    try clear h
    intro hE1 h3
    refine el3_2 hE1 ?_
    try clear hE1
    intro p C S h1 h2
    exact ⟨⟨p, C, S, h1, fun c hc => h2 _ (g.1 _ hc)⟩, h3.grow g.2⟩
theorem Grow.top {f : PS → PS} (hf : ∀ p, (f p).caps = p.caps) : ∀ {a : List PS}, Grow a (topS f a)
  | [] => by simp only [topS, Grow]
  | a :: r => by simp only [topS, Grow]; exact ⟨fun _ h => by rw [hf]; exact h, .refl⟩
theorem intro_caps (p : PS) : p.intro.caps = p.caps := by unfold PS.intro; split <;> rfl
theorem Grow.find {k : Fin 5} : ∀ {stk : List PS}, Grow stk (findName stk k).2
  | [] => by simp only [findName, Grow]
  | [ps] => by simp only [findName]; exact .refl
  | ps :: r :: rs => by
    have ih := Grow.find (k := k) (stk := r :: rs)
    simp only [findName]
    cases ps.here k with
    | some p => exact .refl
    | none =>
      simp only
      generalize findName (r :: rs) k = q at ih
      refine hide fun PZ kZ => ?_
      obtain ⟨p, st⟩ := q
      refine kZ ?_
      clear kZ PZ
      rcases p with _ | (n | t)
      · simp only [Grow]; exact ⟨fun _ h => h, ih⟩
      · simp only [Grow, PS.capture]; exact ⟨fun _ h => List.mem_append_left _ h, ih⟩
      · simp only [Grow]; exact ⟨fun _ h => h, ih⟩
theorem Grow.tail : ∀ {a b : List PS}, Grow a b → Grow a.tail b.tail
  | [], [], _ => by simp only [List.tail, Grow]
  | [], _ :: _, g => by simp only [Grow] at g
  | _ :: _, [], g => by simp only [Grow] at g
  | a :: r, b :: t, g => by simp only [Grow] at g; exact g.2
mutual
theorem grow_t : ∀ (t : Tr) (stk : List PS), Grow stk (rStmt t stk).2
  | .my k, stk => by simp only [rStmt]; exact Grow.top (f := fun p => p.told k) fun _ => rfl
  | .use k1 k2, stk => by simp only [rStmt]; exact Grow.find.trans .find
  | .anon b, stk => by
    simp only [rStmt]
    have := grow_l b (topS PS.push (PS.new :: stk))
    exact this.tail
  | .bare b, stk => by
    simp only [rStmt]
    exact (Grow.top (f := PS.push) fun _ => rfl).trans ((grow_l b (topS PS.push stk)).trans (Grow.top (f := PS.pop) fun _ => rfl))
theorem grow_l : ∀ (ts : List Tr) (stk : List PS), Grow stk (rStmts ts stk).2
  | [], stk => by simp only [rStmts]; exact .refl
  | t :: ts, stk => by
    simp only [rStmts]
    exact (grow_t t stk).trans ((Grow.top intro_caps).trans (grow_l ts _))
end

theorem perm_mid {A B : List Nat} {n : Nat} (h : (A ++ B).Perm (List.range n)) : (A ++ (B ++ [n])).Perm (List.range (n + 1)) := by
  rw [← List.append_assoc, List.range_succ]; exact h.append_right _
theorem perm_mid' {A B : List Nat} {n : Nat} (h : (A ++ B).Perm (List.range n)) : ((A ++ [n]) ++ B).Perm (List.range (n + 1)) := by
  rw [List.range_succ, List.append_assoc]
  refine ((List.perm_append_comm (l₁ := [n]) (l₂ := B)).append_left A).trans ?_
  rw [← List.append_assoc]; exact h.append_right _

theorem find_spec (W : VW seen s) (X : VExt s s') (hm : s'.mys = s.mys) : ∀ {stk : List PS} {us : List Nat} {k : Fin 5} {tg : Option Tg} {p : Option Pl} {stk1 : List PS}, findName stk k = (p, stk1) → LV seen s stk us → Mean seen s stk us k tg → CapIn s stk1 us →
    (tg = none → p = none) ∧ (∀ t, tg = some (.str t) → p = some (.whole t) ∧ PyData.strOk t = true) ∧ (∀ i, tg = some (.int i) → ∃ n, p = some (.slot n) ∧ Rt seen s (hid us) n i k) ∧
    ((∀ i u vs, tg = some (.int i) → us = u :: vs → (u : Int) ≠ ownerOf s' i → Nd s' u i k) → LV seen s' stk1 us ∧ Ups seen s s' stk stk1 us)
  | [], us, k, tg, p, stk1, hf, L, _, _ => by simp only [LV] at L
  | [ps], [], k, tg, p, stk1, hf, L, M, hc => by
    simp only [findName, Prod.mk.injEq] at hf
    refine el0_2 hf ?_
    try clear hf
    intro hE1 hE2
    obtain rfl := hE1
    obtain rfl := hE2
    simp only [Mean] at M
    refine in0_4 ?_ ?_ ?_ (fun _ => ⟨by simp only [LV], .refl⟩)
    · rintro rfl
      rcases q : ps.here k with _ | (n | t)
      · rfl
      · rw [q] at M; obtain ⟨i, h, _⟩ := M; exact nsE h
      · rw [q] at M; obtain ⟨h, _⟩ := M; exact nsE h
    · rintro t rfl
      rcases q : ps.here k with _ | (n | t')
      · rw [q] at M; simp at M
      · rw [q] at M; obtain ⟨i, h, _⟩ := M; cases h
      · rw [q] at M; obtain ⟨h, h'⟩ := M; cases h; exact ⟨rfl, h'⟩
    · rintro i rfl
      rcases q : ps.here k with _ | (n | t')
      · rw [q] at M; simp at M
      · rw [q] at M; obtain ⟨i', h, h'⟩ := M; cases h; exact in1_2 n rfl h'
      · rw [q] at M; obtain ⟨h, h'⟩ := M; cases h
  | [ps], u :: us, k, tg, p, stk1, hf, L, M, hc => by
    simp only [LV] at L
    refine el0_2 L ?_
    try clear L
    intro _ L
    cases us <;> exact L.elim
  | ps :: r :: rs, [], k, tg, p, stk1, hf, L, M, hc => by simp only [LV] at L
  | ps :: r :: rs, u :: vs, k, tg, p, stk1, hf, L, M, hc => by
    have LL := L
    simp only [LV] at L
    refine el0_2 L ?_
    try clear L
    intro L1 L2
    have hfil : ∀ v, s'.mys.filter (fun x => x.1 = v) = s.mys.filter (fun x => x.1 = v) := fun v => by rw [hm]
    simp only [findName] at hf
    rcases q : ps.here k with _ | p0
    · rw [q] at hf
      unfold Mean at M
      rw [q] at M
      simp only [List.tail_cons] at M
      simp only at hf
      generalize hq : findName (r :: rs) k = fr at hf
      refine hide fun PZ kZ => ?_
      obtain ⟨p', st'⟩ := fr
      refine kZ ?_
      clear kZ PZ
      have hhere : hereL ps.inner k = none ∧ bget ps.base k = none := by
        have := q
        rw [PS.here, hereL_app] at this
        simpa using this
      have noCap : (∀ n, p' ≠ some (.slot n)) → p = p' ∧ stk1 = ps :: st' := fun hn => by
        rcases p' with _ | (n | t)
        · simp only [Prod.mk.injEq] at hf; exact ⟨hf.1.symm, hf.2.symm⟩
        · exact absurd rfl (hn n)
        · simp only [Prod.mk.injEq] at hf; exact ⟨hf.1.symm, hf.2.symm⟩
      by_cases hs : ∃ n, p' = some (.slot n)
      · refine el1_1 hs ?_
        try clear hs
        intro n' hE1
        obtain rfl := hE1
        simp only [Prod.mk.injEq] at hf
        refine el0_2 hf ?_
        try clear hf
        intro hE1 hE2
        obtain rfl := hE1
        obtain rfl := hE2
        simp only [CapIn] at hc
        refine el0_2 hc ?_
        try clear hc
        intro hE1 hc2
        refine el3_2 hE1 ?_
        try clear hE1
        intro pp C S hsub hC
        refine el0_4 (find_spec W X hm hq L2 M hc2) ?_
        intro a1 a2 a3 a4
        refine el2_1 L1.sub ?_
        intro C' S' hsub'
        rw [hsub] at hsub'; cases hsub'
        obtain ⟨i, rfl, hR⟩ : ∃ i, tg = some (.int i) ∧ Rt seen s (hid vs) n' i k := by
          rcases tg with _ | (i | t)
          · cases a1 rfl
          · obtain ⟨n, h1, h2⟩ := a3 i rfl; cases h1; exact in1_2 i rfl h2
          · cases (a2 t rfl).1
        have hcap : (n', ps.size, k) ∈ C := hC _ (by simp [PS.capture])
        have hRt : Rt seen s (hid (u :: vs)) ps.size i k := .cap hsub hcap hR
        refine ⟨nofun, nofun, fun i' h => by cases h; exact ⟨_, rfl, hRt⟩, fun hN => ?_⟩
        have hle := hR.owner W
        have hpar := W.par _ _ _ _ hsub
        have hown := hR.own_ext X
        have hNd : Nd s' u i k := hN i u vs rfl rfl (by rw [hown]; (first | (simp +arith only; done) | lia | omega))
        obtain ⟨b1, b2⟩ := a4 fun i' u' vs' h1 h2 h3 => by
          cases h1; subst h2
          exact .up hNd (X.sub hsub) h3
        refine ⟨?_, ?_⟩
        · simp only [LV]
          refine ⟨⟨⟨C, S, X.sub hsub⟩, ?_, ?_, ?_, ?_, L1.inner, L1.pend⟩, b1⟩
          · rw [hfil]
            simp only [PS.capture, List.map_append, List.map_cons, List.map_nil]
            exact perm_mid L1.slots
          · simp only [PS.capture, List.map_append, List.map_cons, List.map_nil]
            rw [List.nodup_append]
            refine in0_3 L1.nd (by simp) (fun a ha b hb => ?_)
            simp at hb; subst hb
            rintro rfl
            refine el1_2 (List.mem_map.mp ha) ?_
            intro c hc e
            exact L1.base c hc (by rw [e]; exact hhere.2)
          · intro c hc
            simp only [PS.capture] at hc ⊢
            rw [bget_put]
            split
            · nofun
            · rcases List.mem_append.mp hc with hc | hc
              · exact L1.base c hc
              · simp at hc; subst hc; rename_i hne; exact absurd rfl hne
          · intro o n kk hmem
            rcases List.mem_append.mp hmem with hmem | hmem
            · refine el1_2 (L1.caps _ _ _ hmem) ?_
              intro i' h1 h2
              exact in1_2 i' (h1.mono X) (h2.mono W X)
            · simp at hmem; obtain ⟨rfl, rfl, rfl⟩ := hmem
              exact in1_2 i (hR.mono X) hNd
        · unfold Ups
          refine in0_4 rfl (fun k' p' h => ?_) (fun k' p' h h' tg' hM => ?_) b2
          · show bget (bput ps.base k (.slot ps.size)) k' = some p'
            rw [bget_put, if_neg]
            · exact h
            · rintro rfl; rw [hhere.2] at h; exact nsE h
          · replace h' : bget (bput ps.base k (.slot ps.size)) k' = some p' := h'
            rw [bget_put] at h'
            split at h'
            · rename_i e; subst e; (have hE0 := Option.some.inj h'; subst hE0; clear h')
              refine el0_4 (find_spec W X hm hq L2 hM hc2) ?_
              intro c1 c2 c3 _
              obtain ⟨i', rfl, hR'⟩ : ∃ i, tg' = some (.int i) ∧ Rt seen s (hid vs) n' i k' := by
                rcases tg' with _ | (i | t)
                · cases c1 rfl
                · obtain ⟨n, h1, h2⟩ := c3 i rfl; cases h1; exact in1_2 i rfl h2
                · cases (c2 t rfl).1
              exact in2_3 _ i' rfl rfl (.cap (X.sub hsub) hcap (hR'.mono X))
            · rw [h] at h'; exact nsE h'
      · refine el0_2 (noCap fun n h => hs ⟨n, h⟩) ?_
        intro hE1 hE2
        obtain rfl := hE1
        obtain rfl := hE2
        simp only [CapIn] at hc
        refine el0_4 (find_spec W X hm hq L2 M hc.2) ?_
        intro a1 a2 a3 a4
        refine in0_4 a1 a2 (fun i h => ?_) (fun hN => ?_)
        · refine el1_2 (a3 i h) ?_
          intro n h1 _
          exact absurd ⟨n, h1⟩ hs
        · obtain ⟨b1, b2⟩ := a4 fun i u' vs' h1 h2 h3 => by
            refine el1_2 (a3 i h1) ?_
            intro n h4 _
            exact absurd ⟨n, h4⟩ hs
          refine ⟨by simp only [LV]; exact ⟨L1.mono W X (hfil u), b1⟩, ?_⟩
          unfold Ups
          exact in0_4 rfl (fun _ _ h => h) (fun k p h h' => (by rw [h] at h'; exact nsE h')) b2
    · rw [q] at hf
      simp only [Prod.mk.injEq] at hf
      refine el0_2 hf ?_
      try clear hf
      intro hE1 hE2
      obtain rfl := hE1
      obtain rfl := hE2
      unfold Mean at M
      rw [q] at M
      refine in0_4 ?_ ?_ ?_ (fun _ => ⟨LL.mono W X fun v _ => hfil v, .refl⟩)
      · rintro rfl
        rcases p0 with n | t
        · obtain ⟨i, h, _⟩ := M; exact nsE h
        · obtain ⟨h, _⟩ := M; exact nsE h
      · rintro t rfl
        rcases p0 with n | t'
        · obtain ⟨i, h, _⟩ := M; cases h
        · obtain ⟨h, h'⟩ := M; cases h; exact ⟨rfl, h'⟩
      · rintro i rfl
        rcases p0 with n | t'
        · obtain ⟨i', h, h'⟩ := M; cases h; exact in1_2 n rfl h'
        · obtain ⟨h, h'⟩ := M; cases h
end

section
variable {seen : List (Fin 5 × Nat)} {s s' : VS}
noncomputable def CLo (seen : List (Fin 5 × Nat)) (s : VS) (v : Nat) : Prop := ∀ (p : Int) (C : List (Nat × Nat × Fin 5)) (S : Nat), s.subs[v]? = some (p, C, S) →
  ((s.mys.filter (fun x => x.1 = v)).map (fun x => x.2.1) ++ C.map (fun x => x.2.1)).Perm (List.range S) ∧ (C.map fun x => x.2.2).Nodup ∧ ∀ o n k, (o, n, k) ∈ C → ∃ i, Rt seen s p o i k ∧ Nd s v i k
theorem ext_sub_back (x : VExt s s') {v : Nat} (hv : v < s.subs.length) {y : Int × List (Nat × Nat × Fin 5) × Nat} (h : s'.subs[v]? = some y) : s.subs[v]? = some y := by
  have : s.subs[v]? = some s.subs[v] := List.getElem?_eq_getElem hv
  have h2 := x.sub this
  rw [h] at h2; (have hE0 := Option.some.inj h2; subst hE0; clear h2); exact this
theorem CLo.mono {v : Nat} (c : CLo seen s v) (W : VW seen s) (x : VExt s s') (hv : v < s.subs.length) (hf : s'.mys.filter (fun x => x.1 = v) = s.mys.filter (fun x => x.1 = v)) : CLo seen s' v := fun p C S h => by
  refine el0_3 (c p C S (ext_sub_back x hv h)) ?_
  intro h1 h2 h3
  exact in0_3 (by rw [hf]; exact h1) h2 (fun o n k hm => let ⟨i, a, b⟩ := h3 o n k hm; ⟨i, a.mono x, b.mono W x⟩)
structure LI (seen : List (Fin 5 × Nat)) (s : VS) (stk : List PS) (us : List Nat) : Prop where
  w : VW seen s
  lv : LV seen s stk us
  cl : ∀ v, v < s.subs.length → v ∉ us → CLo seen s v
noncomputable def EI (seen : List (Fin 5 × Nat)) (s : VS) (stk : List PS) (us : List Nat) (e : WE) : Prop := ∀ k, Mean seen s stk us k (eget e k)
structure Out (seen : List (Fin 5 × Nat)) (s s' : VS) (stk stk' : List PS) (us : List Nat) (e' : WE) : Prop where
  x : VExt s s'
  li : LI seen s' stk' us
  ei : EI seen s' stk' us e'
  up : Ups seen s s' (topS PS.pop stk) (topS PS.pop stk') us
theorem eget_put (k : Fin 5) (p : Tg) (x : Fin 5) : ∀ b : WE, eget (eput b k p) x = if x = k then some p else eget b x
  | [] => by
    simp only [eput, eget]
    by_cases h : k = x
    · subst h; simp
    · rw [if_neg h, if_neg (Ne.symm h)]
  | (y, u) :: r => by
    have ih := eget_put k p x r
    simp only [eput]
    by_cases hy : y = k
    · subst hy
      simp only [if_pos, eget]
      by_cases h : y = x
      · subst h; simp
      · rw [if_neg h, if_neg (Ne.symm h), if_neg h]
    · rw [if_neg hy]
      simp only [eget]
      by_cases h : y = x
      · subst h; simp [hy]
      · rw [if_neg h, if_neg h]; exact ih
theorem VW.move (W : VW seen s) (x : VExt s s') (hu : s'.uses = s.uses) (hsub : s'.subs = s.subs) (hm : ∀ (j t n : Nat) (k : Fin 5), s'.mys[j]? = some (t, n, k) → t < s.subs.length) : VW seen s' :=
  ⟨fun v p C S h => W.par v p C S (by rw [← hsub]; exact h), fun u n i k h => by
    rw [hu] at h
    refine el0_2 (W.uses u n i k h) ?_
    intro a b
    exact ⟨by rw [hsub]; exact a, b.mono x⟩, fun j t n k h => by rw [hsub]; exact hm j t n k h⟩

/-- one use -/
noncomputable def sUse (s : VS) (u n : Nat) (i : Int) (k : Fin 5) : VS := { s with uses := s.uses ++ [(u, n, i, k)] }
theorem use_ext {u n : Nat} {i : Int} {k : Fin 5} : VExt s (sUse s u n i k) := ⟨⟨[], by simp [sUse]⟩, ⟨[_], rfl⟩, ⟨[], by simp [sUse]⟩⟩
theorem topS_intro {u : Nat} {us : List Nat} : ∀ {stk : List PS}, LV seen s stk (u :: us) → topS PS.intro stk = stk
  | [], _ => rfl
  | ps :: r, h => by
    simp only [LV] at h
    have h1 := h.1.inner
    have h2 := h.1.pend
    refine hide fun PZ kZ => ?_
    obtain ⟨base, inner, pend, size, caps⟩ := ps
    refine kZ ?_
    clear kZ PZ
    simp only at h1 h2
    subst h2
    cases inner with
    | nil => exact absurd rfl h1
    | cons b t => rfl
theorem use_step {stk : List PS} {u : Nat} {us : List Nat} {e : WE} {k : Fin 5} (I : LI seen s stk (u :: us)) (E : EI seen s stk (u :: us) e) (hc : CapIn s (findName stk k).2 (u :: us)) :
    ∃ s', wUse e s.ws u k (findName stk k).1 = some s'.ws ∧ VExt s s' ∧ LI seen s' (findName stk k).2 (u :: us) ∧ EI seen s' (findName stk k).2 (u :: us) e ∧ Ups seen s s' stk (findName stk k).2 (u :: us) := by
  generalize hq : findName stk k = q at hc
  refine hide fun PZ kZ => ?_
  obtain ⟨p, stk1⟩ := q
  refine kZ ?_
  clear kZ PZ
  refine el0_4 (find_spec I.w .refl rfl hq I.lv (E k) hc) ?_
  intro a1 a2 a3 _
  have plain : (∀ i, eget e k ≠ some (.int i)) → LI seen s stk1 (u :: us) ∧ EI seen s stk1 (u :: us) e ∧ Ups seen s s stk stk1 (u :: us) := fun hn => by
    refine el0_4 (find_spec I.w .refl rfl hq I.lv (E k) hc) ?_
    intro _ _ _ a4
    refine el0_2 (a4 fun i u' vs' h => absurd h (hn i)) ?_
    intro b1 b2
    exact in0_3 (⟨I.w, b1, I.cl⟩) (fun k' => (E k').ups .refl b2) b2
  unfold wUse
  rcases q : eget e k with _ | (i | t)
  · refine el0_3 (plain fun i h => by rw [q] at h; exact nsE h) ?_
    intro b1 b2 b3
    refine in1_5 s ?_ (.refl) b1 b2 b3
    have := a1 q
    subst this
    simp
  · refine el1_2 (a3 i q) ?_
    intro n hE1 hR
    obtain rfl := hE1
    have X : VExt s (sUse s u n i k) := use_ext
    refine el0_4 (find_spec (s' := sUse s u n i k) I.w X rfl hq I.lv (E k) hc) ?_
    intro _ _ _ a4
    obtain ⟨b1, b2⟩ := a4 fun i' u' vs' h1 h2 h3 => by
      rw [q] at h1; cases h1; cases h2
      exact .use (n := n) (by simp [sUse]) h3
    have hul : u < s.subs.length := by
      have := I.lv
      cases stk with
      | nil => simp only [LV] at this
      | cons ps r =>
        simp only [LV] at this
        refine el2_1 this.1.sub ?_
        intro C S h
        exact (List.getElem?_eq_some_iff.mp h).1
    refine ⟨sUse s u n i k, rfl, X, ⟨⟨I.w.par, fun u' n' i' k' h => ?_, I.w.mysub⟩, b1, fun v hv hn => (I.cl v hv hn).mono I.w X hv rfl⟩, fun k' => (E k').ups X b2, b2⟩
    rcases List.mem_append.mp h with h | h
    · refine el0_2 (I.w.uses _ _ _ _ h) ?_
      intro c1 c2
      exact ⟨c1, c2.mono X⟩
    · simp at h; obtain ⟨rfl, rfl, rfl, rfl⟩ := h
      exact ⟨hul, hR.mono X⟩
  · refine el0_3 (plain fun i h => by rw [q] at h; cases h) ?_
    intro b1 b2 b3
    refine el0_2 (a2 t q) ?_
    intro hE1 ht
    obtain rfl := hE1
    refine in1_5 s ?_ (.refl) b1 b2 b3
    simp [ht]

noncomputable def sMy (s : VS) (u n : Nat) (k : Fin 5) : VS := { s with mys := s.mys ++ [(u, n, k)] }
theorem my_ext {u n : Nat} {k : Fin 5} : VExt s (sMy s u n k) := ⟨⟨[_], rfl⟩, ⟨[], by simp [sMy]⟩, ⟨[], by simp [sMy]⟩⟩
theorem my_filter {u n v : Nat} {k : Fin 5} (h : v ≠ u) : (sMy s u n k).mys.filter (fun x => x.1 = v) = s.mys.filter (fun x => x.1 = v) := by
  unfold sMy
  rw [List.filter_append, List.filter_cons_of_neg (by simpa using Ne.symm h)]
  simp
theorem my_step {stk : List PS} {u : Nat} {us : List Nat} {e : WE} {k : Fin 5} (I : LI seen s stk (u :: us)) (E : EI seen s stk (u :: us) e) :
    ∃ e' s', wStmt (.my k) (rStmt (.my k) stk).1 e s.ws u = some (e', s'.ws) ∧ Out seen s s' stk (topS PS.intro (rStmt (.my k) stk).2) (u :: us) e' := by
  cases stk with
  | nil => have := I.lv; simp only [LV] at this
  | cons ps r =>
    have L := I.lv
    have Llt := LV.lt I.w L
    simp only [LV] at L
    refine el0_2 L ?_
    try clear L
    intro L1 L2
    have h1 := L1.inner
    have h2 := L1.pend
    refine el2_1 L1.sub ?_
    intro C S hsub
    have hul := (List.getElem?_eq_some_iff.mp hsub).1
    have hpar := I.w.par _ _ _ _ hsub
    have Llt2 := LV.lt I.w L2
    have X : VExt s (sMy s u ps.size k) := my_ext
    obtain ⟨b, t, hb⟩ : ∃ b t, ps.inner = b :: t := by
      cases q : ps.inner with
      | nil => exact absurd q h1
      | cons b t => exact in2_1 b t rfl
    have estk : topS PS.intro (rStmt (.my k) (ps :: r)).2 = { base := ps.base, inner := bput b k (.slot ps.size) :: t, pend := [], size := ps.size + 1, caps := ps.caps } :: r := by
      simp only [rStmt, topS, PS.told, PS.intro, hb, h2, List.nil_append, putAll]
    rw [estk]
    refine ⟨eput e k (.int s.mys.length), sMy s u ps.size k, ?_, X, ⟨I.w.move X rfl rfl ?_, ?_, fun v hv hn => (I.cl v hv hn).mono I.w X hv (my_filter fun z => hn (z ▸ .head _))⟩, ?_, ?_⟩
    · simp only [rStmt, wStmt, List.head?_cons, Option.elim, if_pos]
      simp [VS.ws, sMy]
    · intro j t n k' h
      unfold sMy at h
      rw [List.getElem?_append] at h
      split at h
      · exact I.w.mysub _ _ _ _ h
      · have := List.mem_of_getElem? h
        simp at this; obtain ⟨rfl, _, _⟩ := this; exact hul
    · simp only [LV]
      refine ⟨⟨⟨C, S, hsub⟩, ?_, L1.nd, L1.base, fun o n k' h => let ⟨i, a, b⟩ := L1.caps o n k' h; ⟨i, a.mono X, b.mono I.w X⟩, nofun, rfl⟩, L2.mono I.w X fun v hv => my_filter fun z => ?_⟩
      · show ((((s.mys ++ [(u, ps.size, k)]).filter fun x => x.1 = u).map fun x => x.2.1) ++ _).Perm _
        rw [List.filter_append, List.map_append, List.filter_cons_of_pos (by simp)]
        exact perm_mid' L1.slots
      · have := Llt2 v hv
        (first | (simp +arith only; done) | lia | omega)
    · intro k'
      rw [eget_put]
      have hold := E k'
      unfold Mean at hold ⊢
      simp only [PS.here, List.cons_append, hereL, bget_put]
      by_cases hk : k' = k
      · subst hk
        simp only [if_pos]
        exact in1_2 _ rfl (.my (n := ps.size) (by simp [sMy]))
      · simp only [if_neg hk]
        simp only [PS.here, hb, List.cons_append, hereL] at hold
        cases q : bget b k' with
        | some p =>
          rw [q] at hold
          rcases p with n | w
          · obtain ⟨i, a, b⟩ := hold; exact in1_2 i a (b.mono X)
          · exact hold
        | none =>
          rw [q] at hold
          simp only at hold ⊢
          rcases q2 : hereL (t ++ [ps.base]) k' with _ | (n | w)
          · rw [q2] at hold; exact hold.mono X
          · rw [q2] at hold; obtain ⟨i, a, b⟩ := hold; exact in1_2 i a (b.mono X)
          · rw [q2] at hold; exact hold
    · simp only [topS]
      unfold Ups
      refine in0_4 (by simp [PS.pop, hb]) (fun _ _ h => h) (fun k p h h' => ?_) (.refl)
      simp only [PS.pop] at h h'
      rw [h] at h'; exact nsE h'

theorem LV_cons {ps : PS} {r : List PS} {u : Nat} {us : List Nat} : LV seen s (ps :: r) (u :: us) ↔ Lvl seen s ps u (hid us) ∧ LV seen s r us := by simp only [LV]
theorem pop_push : ∀ stk : List PS, topS PS.pop (topS PS.push stk) = stk
  | [] => rfl
  | ps :: r => rfl
theorem LV.push {u : Nat} {us : List Nat} : ∀ {stk : List PS}, LV seen s stk (u :: us) → LV seen s (topS PS.push stk) (u :: us)
  | [], h => h
  | ps :: r, h => by
    simp only [LV, topS] at h ⊢
    exact ⟨⟨h.1.sub, h.1.slots, h.1.nd, h.1.base, h.1.caps, nofun, h.1.pend⟩, h.2⟩
theorem Mean.push {us : List Nat} {k : Fin 5} {tg : Option Tg} : ∀ {stk : List PS}, Mean seen s stk us k tg → Mean seen s (topS PS.push stk) us k tg
  | [], h => h
  | ps :: r, h => by
    unfold Mean at h ⊢
    exact h
theorem CapIn.cap {f : PS → PS} (hf : ∀ p, (f p).caps = p.caps) {us : List Nat} {stk : List PS} (h : CapIn s (topS f stk) us) : CapIn s stk us := h.grow (.top hf)
theorem Ups.same {stk stk' : List PS} {us : List Nat} (h : LV seen s stk us) (x : VExt s s') (u : Ups seen s s' stk stk' us) : Ups seen s s' (topS PS.pop stk) (topS PS.pop stk') us := u.pop

mutual
theorem plain_t : ∀ (t : Tr) {s : VS} {stk : List PS} {u : Nat} {us : List Nat} {e : WE}, LI seen s stk (u :: us) → EI seen s stk (u :: us) e → CapIn s (rStmt t stk).2 (u :: us) →
    ∃ e' s', wStmt t (rStmt t stk).1 e s.ws u = some (e', s'.ws) ∧ Out seen s s' stk (topS PS.intro (rStmt t stk).2) (u :: us) e'
  | .my k, s, stk, u, us, e, I, E, hc => my_step I E
  | .use k1 k2, s, stk, u, us, e, I, E, hc => by
    simp only [rStmt] at hc ⊢
    refine el1_5 (use_step I E (hc.grow .find)) ?_
    intro s1 a1 a2 a3 a4 a5
    refine el1_5 (use_step a3 a4 (hc.mono a2)) ?_
    intro s2 b1 b2 b3 b4 b5
    rw [topS_intro b3.lv]
    refine ⟨e, s2, ?_, a2.trans b2, b3, b4, (a5.trans a2 b2 b5).pop⟩
    simp only [wStmt, and_self, if_pos, a1, Option.bind_some, b1, Option.map_some]
  | .anon b, s, stk, u, us, e, I, E, hc => by
    simp only [rStmt] at hc ⊢
    have G := grow_l b (topS PS.push (PS.new :: stk))
    generalize hq : rStmts b (topS PS.push (PS.new :: stk)) = q at hc G
    refine hide fun PZ kZ => ?_
    obtain ⟨ds, st⟩ := q
    refine kZ ?_
    clear kZ PZ
    cases st with
    | nil => simp only [topS, Grow] at G
    | cons ps' stk' =>
      simp only [List.tail_cons, List.head?_cons, Option.elim] at hc ⊢
      let v := s.subs.length
      let s1 : VS := { s with subs := s.subs ++ [((u : Int), ps'.caps, ps'.size)] }
      have X : VExt s s1 := ⟨⟨[], by simp [s1]⟩, ⟨[], by simp [s1]⟩, ⟨[_], rfl⟩⟩
      have hsv : s1.subs[v]? = some ((u : Int), ps'.caps, ps'.size) := by simp [s1, v]
      have hul : u < s.subs.length := by
        have := I.lv
        cases stk with
        | nil => simp only [LV] at this
        | cons ps r =>
          simp only [LV] at this
          refine el2_1 this.1.sub ?_
          intro C S h
          exact (List.getElem?_eq_some_iff.mp h).1
      have hfv : s.mys.filter (fun x => x.1 = v) = [] := by
        rw [List.filter_eq_nil_iff]
        intro x hx
        refine hide fun PZ kZ => ?_
        obtain ⟨j, hj, e⟩ := List.getElem_of_mem hx
        refine kZ ?_
        clear kZ PZ
        have := I.w.mysub j x.1 x.2.1 x.2.2 (by rw [List.getElem?_eq_getElem hj, e])
        simp only [decide_eq_true_eq]
        show x.1 ≠ s.subs.length
        (first | (simp +arith only; done) | lia | omega)
      have I1 : LI seen s1 (topS PS.push (PS.new :: stk)) (v :: u :: us) := by
        refine ⟨⟨fun w p C S h => ?_, fun u' n i k h => ?_, fun j t n k h => ?_⟩, ?_, fun w hw hn => ?_⟩
        · by_cases hw : w < s.subs.length
          · exact I.w.par w p C S (ext_sub_back X hw h)
          · have : w = v := by
              have := (List.getElem?_eq_some_iff.mp h).1
              simp [s1] at this
              show w = s.subs.length
              (first | (simp +arith only; done) | lia | omega)
            subst this
            rw [hsv] at h; cases h
            constructor
            · (first | (simp +arith only; done) | lia | omega)
            · show (u : Int) < (s.subs.length : Int)
              (first | (simp +arith only; done) | lia | omega)
        · refine el0_2 (I.w.uses _ _ _ _ h) ?_
          intro a b
          exact ⟨Nat.lt_of_lt_of_le a X.len, b.mono X⟩
        · exact Nat.lt_of_lt_of_le (I.w.mysub _ _ _ _ h) X.len
        · simp only [topS]
          refine LV_cons.mpr ⟨⟨⟨_, _, hsv⟩, ?_, .nil, nofun, nofun, nofun, rfl⟩, I.lv.mono I.w X fun _ _ => rfl⟩
          show ((s.mys.filter (fun x => x.1 = v)).map _ ++ _).Perm _
          rw [hfv]; exact .refl _
        · have hv' : w ≠ v := fun z => hn (z ▸ .head _)
          have : w < s.subs.length := by
            simp [s1] at hw
            have : w ≠ s.subs.length := hv'
            (first | (simp +arith only; done) | lia | omega)
          exact (I.cl w this fun z => hn (.tail _ z)).mono I.w X this rfl
      have E1 : EI seen s1 (topS PS.push (PS.new :: stk)) (v :: u :: us) e := fun k => by
        simp only [topS]
        unfold Mean
        exact (E k).mono X
      obtain ⟨e', s', c1, c2⟩ := plain_l b I1 E1 (by
        rw [hq]
        unfold CapIn
        exact ⟨⟨_, _, _, hsv, fun _ h => h⟩, hc.mono X⟩)
      rw [hq] at c1 c2
      simp only at c1 c2
      have LV' := LV_cons.mp c2.li.lv
      have X2 := X.trans c2.x
      have up := c2.up
      simp only [topS] at up
      unfold Ups at up
      have up2 : Ups seen s s' stk stk' (u :: us) := Ups.trans X c2.x .refl up.2.2.2
      rw [topS_intro LV'.2]
      refine ⟨e, s', ?_, X2, ⟨c2.li.w, LV'.2, fun w hw hn => ?_⟩, fun k => (E k).ups X2 up2, up2.pop⟩
      · simp only [wStmt]
        have : wStmts b ds e { mys := s.ws.mys, uses := s.ws.uses, subs := s.ws.subs ++ [((u : Int), ps'.caps, ps'.size)] } s.ws.subs.length = some (e', s'.ws) := c1
        rw [this]; rfl
      · by_cases hwv : w = v
        · subst hwv
          intro p C S h
          rw [c2.x.sub hsv] at h; cases h
          exact in0_3 LV'.1.slots LV'.1.nd LV'.1.caps
        · exact c2.li.cl w hw fun z => by
            rcases List.mem_cons.mp z with z | z
            · exact hwv z
            · exact hn z
  | .bare b, s, stk, u, us, e, I, E, hc => by
    simp only [rStmt] at hc ⊢
    refine el2_2 (plain_l b (s := s) (e := e) (stk := topS PS.push stk) (u := u) (us := us) ⟨I.w, I.lv.push, I.cl⟩ (fun k => (E k).push) (hc.grow (.top (f := PS.pop) fun _ => rfl))) ?_
    intro e' s' c1 c2
    have up := c2.up
    rw [pop_push] at up
    have LVp : LV seen s' (topS PS.pop (rStmts b (topS PS.push stk)).2) (u :: us) := by
      have h1 := c2.li.lv
      have h0 := I.lv
      generalize (rStmts b (topS PS.push stk)).2 = st at h1 up ⊢
      cases st with
      | nil => simp only [LV] at h1
      | cons p1 r1 =>
        cases stk with
        | nil => simp only [LV] at h0
        | cons ps r =>
          simp only [topS] at up ⊢
          unfold Ups at up
          refine el0_2 (LV_cons.mp h1) ?_
          intro h2 h3
          exact LV_cons.mpr ⟨⟨h2.sub, h2.slots, h2.nd, h2.base, h2.caps, by rw [up.1]; exact (LV_cons.mp h0).1.inner, h2.pend⟩, h3⟩
    rw [topS_intro LVp]
    refine ⟨e, s', ?_, c2.x, ⟨c2.li.w, LVp, c2.li.cl⟩, fun k => (E k).ups c2.x up, up.pop⟩
    simp only [wStmt, c1, Option.map_some]
theorem plain_l : ∀ (ts : List Tr) {s : VS} {stk : List PS} {u : Nat} {us : List Nat} {e : WE}, LI seen s stk (u :: us) → EI seen s stk (u :: us) e → CapIn s (rStmts ts stk).2 (u :: us) →
    ∃ e' s', wStmts ts (rStmts ts stk).1 e s.ws u = some (e', s'.ws) ∧ Out seen s s' stk (rStmts ts stk).2 (u :: us) e'
  | [], s, stk, u, us, e, I, E, hc => by
    simp only [rStmts, wStmts]
    exact ⟨e, s, rfl, .refl, I, E, .refl⟩
  | t :: ts, s, stk, u, us, e, I, E, hc => by
    simp only [rStmts] at hc ⊢
    refine el2_2 (plain_t t I E ((hc.grow (grow_l ts _)).cap intro_caps)) ?_
    intro e1 s1 a1 a2
    refine el2_2 (plain_l ts a2.li a2.ei (hc.mono a2.x)) ?_
    intro e2 s2 b1 b2
    refine ⟨e2, s2, ?_, a2.x.trans b2.x, b2.li, b2.ei, a2.up.trans a2.x b2.x b2.up⟩
    simp only [wStmts, a1, Option.bind_some, b1]
end
end

noncomputable def Pl.tg : Pl → Tg
  | .slot n => .int (-1 - (n : Int))
  | .whole s => .str s
noncomputable def seenE (l : List (Fin 5 × Pl)) : WE := l.map fun x => (x.1, x.2.tg)
noncomputable def seenN : List (Fin 5 × Pl) → List (Fin 5 × Nat)
  | [] => []
  | (k, .slot n) :: r => (k, n) :: seenN r
  | (_, .whole _) :: r => seenN r
theorem seenN_mem {k : Fin 5} {n : Nat} : ∀ {l : List (Fin 5 × Pl)}, (k, Pl.slot n) ∈ l → (k, n) ∈ seenN l
  | [], h => nomatch h
  | (k', .slot n') :: r, h => by
    unfold seenN
    rcases List.mem_cons.mp h with h | h
    · cases h; exact .head _
    · exact .tail _ (seenN_mem h)
  | (k', .whole t) :: r, h => by
    unfold seenN
    rcases List.mem_cons.mp h with h | h
    · cases h
    · exact seenN_mem h
theorem putPl_app : ∀ (l : List (Fin 5 × Pl)) (b : Blk), ((b ++ l).map (·.1)).Nodup → putPl b l = b ++ l
  | [], b, _ => by simp [putPl]
  | (k, p) :: r, b, h => by
    have hn : bget b k = none := by
      have : k ∉ b.map (·.1) := fun z => by
        rw [List.map_append, List.nodup_append] at h
        exact h.2.2 k z k (by simp) rfl
      clear h
      induction b with
      | nil => rfl
      | cons x b ih =>
        refine hide fun PZ kZ => ?_
        obtain ⟨x1, x2⟩ := x
        refine kZ ?_
        clear kZ PZ
        simp only [List.map_cons, List.mem_cons, not_or] at this
        unfold bget
        rw [if_neg (Ne.symm this.1)]
        exact ih this.2
    unfold putPl
    rw [bput_new k p b hn, putPl_app r (b ++ [(k, p)]) (by rw [List.append_assoc]; exact h), List.append_assoc]
    rfl
theorem eget_seen (k : Fin 5) : ∀ l : List (Fin 5 × Pl), eget (seenE l) k = (bget l k).map Pl.tg
  | [] => rfl
  | (x, v) :: r => by
    have ih := eget_seen k r
    unfold seenE at ih ⊢
    simp only [List.map_cons, eget, bget]
    by_cases h : x = k
    · subst h; simp
    · rw [if_neg h, if_neg h]; exact ih
theorem bget_mem {k : Fin 5} {p : Pl} : ∀ {l : List (Fin 5 × Pl)}, bget l k = some p → (k, p) ∈ l
  | [], h => by simp [bget] at h
  | (x, v) :: r, h => by
    unfold bget at h
    split at h
    · rename_i e; subst e; (have hE0 := Option.some.inj h; subst hE0; clear h); exact .head _
    · exact .tail _ (bget_mem h)
structure SeenOK (l : List (Fin 5 × Pl)) : Prop where
  keys : (l.map (·.1)).Nodup
  slots : ((seenN l).map (·.2)).Nodup
  whol : ∀ k t, (k, Pl.whole t) ∈ l → PyData.strOk t = true

theorem plain (ts : List Tr) {l : List (Fin 5 × Pl)} (O : SeenOK l) {ps' : PS} {r' : List PS} (h : (evalS ts l).2 = ps' :: r') :
    ∃ e' v, wStmts ts (evalS ts l).1 (seenE l) ⟨[], [], [(-1, ps'.caps, ps'.size)]⟩ 0 = some (e', v.ws) ∧ FOK (seenN l) v := by
  let s : VS := ⟨[], [], [(-1, ps'.caps, ps'.size)]⟩
  have I : LI (seenN l) s (topS PS.push [PS.new, seenS l]) [0] := by
    refine ⟨⟨fun v p C S h => ?_, fun _ _ _ _ h => (nomatch h), fun j _ _ _ h => by simp [s] at h⟩, LV_cons.mpr ⟨⟨⟨_, _, rfl⟩, .refl _, .nil, nofun, nofun, nofun, rfl⟩, by simp only [LV]⟩, fun v hv hn => ?_⟩
    · cases v with
      | zero => simp [s] at h; obtain ⟨rfl, _⟩ := h; constructor <;> (first | (simp +arith only; done) | lia | omega)
      | succ v => simp [s] at h
    · simp [s] at hv
      subst hv
      exact absurd (List.Mem.head _) hn
  have E : EI (seenN l) s (topS PS.push [PS.new, seenS l]) [0] (seenE l) := fun k => by
    simp only [topS]
    unfold Mean
    show Mean _ _ [seenS l] [] k _
    unfold Mean
    have hh : (seenS l).here k = bget l k := by
      have := putPl_app l [] (by simpa using O.keys)
      simp only [seenS, PS.here, List.nil_append, hereL, this]
      cases bget l k <;> rfl
    rw [hh, eget_seen]
    rcases q : bget l k with _ | (n | t)
    · simp only [Option.map_none, List.tail_nil, Mean]
    · exact in1_2 _ rfl (.base (seenN_mem (bget_mem q)))
    · exact ⟨rfl, O.whol _ _ (bget_mem q)⟩
  obtain ⟨e', v, a1, a2⟩ := plain_l ts I E (by
    show CapIn s (evalS ts l).2 [0]
    rw [h]
    unfold CapIn
    exact ⟨⟨_, _, _, rfl, fun _ h => h⟩, by simp only [CapIn]⟩)
  refine in2_2 e' v a1 ?_
  have lv := a2.li.lv
  have : (rStmts ts (topS PS.push [PS.new, seenS l])).2 = ps' :: r' := h
  rw [this] at lv
  have L := (LV_cons.mp lv).1
  have cl : ∀ u, u < v.subs.length → CLo (seenN l) v u := fun u hu => by
    by_cases h0 : u = 0
    · subst h0
      intro p C S hs
      have : v.subs[0]? = some (-1, ps'.caps, ps'.size) := a2.x.sub rfl
      rw [this] at hs; cases hs
      exact in0_3 L.slots L.nd L.caps
    · exact a2.li.cl u hu fun z => by simp at z; exact h0 z
  have W := a2.li.w
  refine ⟨W.par, fun u p C S hs => ?_, fun u p C S hs => ?_, W.uses, W.mysub, O.slots⟩
  · exact (cl u (List.getElem?_eq_some_iff.mp hs).1 p C S hs).1
  · exact (cl u (List.getElem?_eq_some_iff.mp hs).1 p C S hs).2


/-- the lists of _law_right that are filled -/
structure NI (H0 H1 : AH) (nd : Addr) (na : List Addr) (N : Nat → List (Int × Str)) : Prop where
  sub : Sub H0 H1
  hn : H1 nd = some (.list (na.map .ref))
  ne : nd ∉ na
  nodup : na.Nodup
  new : ∀ a ∈ na, H0 a = none
  rows : ∀ (v : Nat) (a : Addr), na[v]? = some a → ∃ us, H1 a = some (.list us) ∧ AllR (pP H1) (N v) us
theorem pP.mono {F F' : AH} (s : TSub F F') (x : Int × Str) (v : AV) : pP F x v → pP F' x v := fun ⟨t, e, h⟩ => ⟨t, e, s _ _ h⟩
theorem NI.mono {H0 H1 H2 : AH} {nd : Addr} {na : List Addr} {N : Nat → List (Int × Str)} (I : NI H0 H1 nd na N) (s : Sub H1 H2) : NI H0 H2 nd na N :=
  ⟨I.sub.trans s, s _ _ I.hn, I.ne, I.nodup, I.new, fun v a h => let ⟨us, a1, a2⟩ := I.rows v a h; ⟨us, s _ _ a1, a2.mono fun x y => pP.mono s.t x y⟩⟩
theorem NI.add {H0 H1 : AH} {nd : Addr} {na : List Addr} {N : Nat → List (Int × Str)} (I : NI H0 H1 nd na N) {v : Nat} {a t : Addr} {us : List AV} {x : Int × Str} (ha : na[v]? = some a) (hu : H1 a = some (.list us)) (hr : AllR (pP H1) (N v) us)
    (ht : H1 t = some (.tup [.int x.1, .str x.2])) : NI H0 (AH.put H1 a (.list (us ++ [.ref t]))) nd na (nAdd N v x) := by
  have hm := List.mem_of_getElem? ha
  have tsub : TSub H1 (AH.put H1 a (.list (us ++ [.ref t]))) := fun b xs hb => by
    rw [put_ne]
    · exact hb
    · rintro rfl; rw [hu] at hb; cases hb
  refine ⟨fun b o hb => ?_, ?_, I.ne, I.nodup, I.new, fun v' a' ha' => ?_⟩
  · rw [put_ne]
    · exact I.sub _ _ hb
    · rintro rfl; rw [I.new _ hm] at hb; exact nsE hb
  · rw [put_ne]
    · exact I.hn
    · rintro rfl; exact I.ne hm
  · by_cases hv : v' = v
    · subst hv
      rw [ha] at ha'; (have hE0 := Option.some.inj ha'; subst hE0; clear ha')
      refine in1_2 _ put_same ?_
      unfold nAdd
      rw [if_pos rfl]
      exact (hr.mono fun x y => pP.mono tsub x y).snoc ⟨t, rfl, tsub _ _ ht⟩
    · refine el1_2 (I.rows v' a' ha') ?_
      intro us' a1 a2
      refine in1_2 us' ?_ ?_
      · rw [put_ne]
        · exact a1
        · rintro rfl
          have h1 := (List.getElem?_eq_some_iff.mp ha)
          have h2 := (List.getElem?_eq_some_iff.mp ha')
          refine hide fun PZ kZ => ?_
          obtain ⟨l1, e1⟩ := h1
          refine kZ ?_
          clear kZ PZ
          refine hide fun PZ kZ => ?_
          obtain ⟨l2, e2⟩ := h2
          refine kZ ?_
          clear kZ PZ
          exact hv ((List.getElem_inj I.nodup (h₀ := l2) (h₁ := l1)).mp (by rw [e1, e2]))
      · unfold nAdd
        rw [if_neg hv]
        exact a2.mono fun x y => pP.mono tsub x y
theorem On.end {F : VS} {i c : Int} {v : Nat} (h : On F i c v) : c ≠ ownerOf F i := by
  cases h with
  | here h => exact h
  | up h _ _ => exact h
theorem On.ways {F : VS} {i c : Int} {x : Nat} (h : On F i c x) : c = x ∨ ∃ (u : Nat) (p : Int) (caps : List (Nat × Nat × Fin 5)) (size : Nat), c = u ∧ F.subs[u]? = some (p, caps, size) ∧ On F i p x := by
  cases h with
  | here h => exact .inl rfl
  | up h1 h2 h3 => exact .inr ⟨_, _, _, _, rfl, h2, h3⟩
theorem path {seen : List (Fin 5 × Nat)} {F : VS} (ok : FOK seen F) {c i : Int} {n : Nat} {k : Fin 5} (h : Rt seen F c n i k) (hne : c ≠ ownerOf F i) :
    ∃ (v : Nat) (p : Int) (caps : List (Nat × Nat × Fin 5)) (size o : Nat), c = v ∧ F.subs[v]? = some (p, caps, size) ∧ Rt seen F p o i k ∧ (i, sgS k) ∈ needs seen F v := by
  cases h with
  | my hm => exact absurd (by unfold ownerOf; simp [hm]) hne
  | base hm => exact absurd (by unfold ownerOf; rw [if_neg (by (first | (simp +arith only; done) | lia | omega))]) hne
  | @cap sub p caps size o _ _ _ hs hc hr => exact in5_4 sub p caps size o rfl hs hr (by rw [needs_eq hs]; exact List.mem_map.mpr ⟨_, hc, by rw [rt_eq ok hr]⟩)
theorem Rt.idx {seen : List (Fin 5 × Nat)} {F : VS} {c i : Int} {n : Nat} {k : Fin 5} (h : Rt seen F c n i k) : ∀ j : Nat, i = j → ∃ x, F.mys[j]? = some x := fun j hj => by
  rcases h.ival with ⟨j', s, m, e, hm⟩ | ⟨m, e, hm⟩
  · have : j = j' := by (first | (simp +arith only; done) | lia | omega)
    subst this; exact ⟨_, hm⟩
  · (first | (simp +arith only; done) | lia | omega)
section
variable {ad : Ads} {w : World} {sc : Scope} {d : Nat} {loc : Loc} {H : AH}
theorem sp_right {sd m u b : Addr} {seen : List (Fin 5 × Nat)} {F : VS} {Q : AV → AH → Prop} (ok : FOK seen F) (S : SR H sd m u b F.ws)
    (hz : F.mys.length ≤ 24) (hzu : F.uses.length ≤ 400) (hzs : F.subs.length ≤ 400) (q : ∀ H', Q (.bool true) H') :
    CallV ad w sc (d + 4) (.ref (ad.fn 52)) [.ref sd] loc H Q := by
  refine CallV.fn1 (by conv => lhs; whnf) (by decide) rfl (fun _ _ _ _ => rfl) (by decide) (by decide) ?_
  walk_at "go"
  refine SX.assign_comp false (by decide) rfl ?_ (fun env he => by obtain ⟨sc1, g1, b1, kd, f1⟩ := he; cases env; dsimp only at sc1; subst sc1; rfl)
  walk_at "go"
  refine SubT.dict S.d (x := .ref b) rfl ?_
  refine el1_2 S.ib ?_
  intro bs hb ab
  have hbl : bs.length = F.subs.length := ab.len
  refine ⟨b, bs, fun j acc H' => Sub H H' ∧ ∃ na : List Addr, acc = na.map .ref ∧ na.length = j ∧ na.Nodup ∧ (∀ a ∈ na, H a = none) ∧ (∀ a ∈ na, H' a = some (.list [])), rfl, by (first | (simp +arith only; done) | lia | omega), ⟨.refl, [], rfl, rfl, .nil, nofun, nofun⟩, fun j acc H' ⟨T', _⟩ => T' _ _ hb, ?_, ?_⟩
  · rintro j acc x l H' hx hI0 hl
    refine hide fun PZ kZ => ?_
    obtain ⟨T', na, hE1, hj, h1, h2, h3⟩ := hI0
    refine kZ ?_
    clear kZ PZ
    obtain rfl := hE1
    refine AT.name (by rfl) ?_
    refine TE.nil ?_
    refine pick_t ?_
    walk_at "go"
    refine ⟨Nat.le_of_ble_eq_true rfl, fun n hn => ?_⟩
    have hn0 : H n = none := none_of_sub T' hn
    refine ⟨T'.trans (Sub.fresh hn), na ++ [n], by simp, by simp [hj], ?_, ?_, ?_⟩
    · rw [List.nodup_append]
      refine in0_3 h1 (by simp) (fun a ha c hc => ?_)
      simp at hc; subst hc
      rintro rfl
      rw [h3 _ ha] at hn; exact snE hn
    · intro a ha
      rcases List.mem_append.mp ha with ha | ha
      · exact h2 a ha
      · simp at ha; subst ha; exact hn0
    · intro a ha
      rcases List.mem_append.mp ha with ha' | ha'
      · rw [put_ne]
        · exact h3 a ha'
        · intro z; subst z; rw [h3 _ ha'] at hn; exact snE hn
      · simp at ha'; subst ha'; exact put_same
  rintro acc H1 nd hI0 _ hnd
  refine hide fun PZ kZ => ?_
  obtain ⟨T1, na, hE1, hna, h1, h2, h3⟩ := hI0
  refine kZ ?_
  clear kZ PZ
  obtain rfl := hE1
  have I0 : NI H (AH.put H1 nd (.list (na.map .ref))) nd na (fun _ => []) := by
    have hne : nd ∉ na := fun z => by rw [h3 _ z] at hnd; exact snE hnd
    exact ⟨T1.trans (Sub.fresh hnd), put_same, hne, h1, h2, fun v a ha => ⟨[], by rw [put_ne]; exact h3 _ (List.mem_of_getElem? ha); (rintro rfl; exact hne (List.mem_of_getElem? ha)), rfl⟩⟩
  clear T1 h1 h2 h3 hnd
  generalize AH.put H1 nd (.list (na.map .ref)) = H2 at I0
  clear H1
  walk_at "go"
  refine SX.for_list' ?_
  walk_at "go"
  refine SubT.dict (I0.sub _ _ S.d) (x := .ref u) rfl ?_
  refine el1_2 S.iu ?_
  intro xs hu au
  have hul : xs.length = F.uses.length := au.len
  refine ⟨u, xs, fun p lc H3 => lc "state" = some (.ref sd) ∧ lc "needed" = some (.ref nd) ∧ ∃ N, NI H H3 nd na N ∧ NOK seen F N ∧ NDone F p N, rfl, ⟨rfl, rfl, _, I0, ⟨fun _ _ h => (nomatch h), fun _ => .nil⟩, fun q _ _ _ _ h => absurd h (Nat.not_lt_zero _)⟩, ?_, ?_, ?_⟩
  · rintro p lc H3 ⟨_, _, N, I, _⟩; exact I.sub _ _ hu
  · rintro p x lc H3 M hx hI0 hM
    refine hide fun PZ kZ => ?_
    obtain ⟨c1, c2, N, I, hN, hD⟩ := hI0
    refine kZ ?_
    clear kZ PZ
    refine hide fun PZ kZ => ?_
    obtain ⟨hE1, hux, t, hE2, ht⟩ := au.get p x hx
    refine kZ ?_
    clear kZ PZ
    refine hide fun PZ kZ => ?_
    obtain ⟨us, un, ui, uk⟩ := hE1
    refine kZ ?_
    clear kZ PZ
    obtain rfl := hE2
    have S3 := S.mono I.sub
    refine AT.tuple (I.sub _ _ ht) rfl ?_
    dsimp only [AS]
    refine AT.name_cell rfl rfl ?_
    walk_at "go"
    refine el0_2 (ok.uses us un ui uk (List.mem_of_getElem? hux)) ?_
    intro hus hR
    have hzu2 : F.subs.length ≤ 400 := hzs
    refine CallV.room (d' := d + 3) (sp_root (d := d) ok S3 hR (by (first | (simp +arith only; done) | lia | omega)) hzs fun H4 T4 => ?_) (by (first | (simp +arith only; done) | lia | omega))
    walk_at "go"
    refine Cmp.ne_int ?_
    rw [show (ui != ui) = false by simp]
    refine pick_f ?_
    walk_at "go"
    have I4 := I.mono T4
    refine SX.while' (fun n lc H5 => ∃ (c : Int) (sl : Nat), n = (c + 1).toNat ∧ lc "sub" = some (.int c) ∧ lc "target" = some (.int ui) ∧ lc "sigil" = some (.str (sgS uk)) ∧ lc "state" = some (.ref sd) ∧ lc "needed" = some (.ref nd) ∧ Rt seen F c sl ui uk ∧
      ∃ N, NI H H5 nd na N ∧ NOK seen F N ∧ NDone F p N ∧ ∀ v, On F ui us v → (ui, sgS uk) ∈ N v ∨ On F ui c v) ((us : Int) + 1).toNat ⟨us, un, rfl, rfl, rfl, rfl, c1, c2, hR, N, I4, hN, hD, fun v h => .inr h⟩ ?_
    clear c1 c2 I hN hD I4 hR S3 T4 N
    rintro n lc H5 M2 hI0 hM2
    refine hide fun PZ kZ => ?_
    obtain ⟨c, sl, hE1, c1, c2, c3, c4, c5, hR, N, I, hN, hD, hP⟩ := hI0
    refine kZ ?_
    clear kZ PZ
    obtain rfl := hE1
    walk_at "go"
    refine CallV.room (d' := 1) (sp_owner (d := 0) (S.mono I.sub) hR.idx (by (first | (simp +arith only; done) | lia | omega)) ?_) (by (first | (simp +arith only; done) | lia | omega))
    refine Cmp.ne_int ?_
    by_cases hc : c = ownerOf F ui
    · rw [show (c != ownerOf F ui) = false by simp [hc]]
      refine pick_f ?_
      walk_at "go"
      refine hM.nx _ _ ⟨c4, c5, N, I, hN, fun q u' n' i' k' hq hu' v hv => ?_⟩
      by_cases hqp : q = p
      · subst hqp
        have e : F.uses[q]? = some (us, un, ui, uk) := hux
        rw [hu'] at e; cases e
        rcases hP v hv with h | h
        · exact h
        · exact absurd hc h.end
      · exact hD q u' n' i' k' (by (first | (simp +arith only; done) | lia | omega)) hu' v hv
    · rw [show (c != ownerOf F ui) = true by simpa using hc]
      refine pick_t ?_
      refine el5_4 (path ok hR hc) ?_
      intro v pp caps size o hE1 hs hr hmem
      obtain rfl := hE1
      have hvl := (List.getElem?_eq_some_iff.mp hs).1
      obtain ⟨a, ha⟩ : ∃ a, na[v]? = some a := ⟨_, List.getElem?_eq_getElem (by (first | (simp +arith only; done) | lia | omega))⟩
      refine SX.seq (fun l H' => l = lc ∧ ∃ N', NI H H' nd na N' ∧ NOK seen F N' ∧ NDone F p N' ∧ (∀ x, On F ui us x → (ui, sgS uk) ∈ N' x ∨ On F ui v x) ∧ (ui, sgS uk) ∈ N' v) ?_ ?_
      · walk_at "go"
        refine ⟨Nat.le_of_ble_eq_true rfl, fun t6 ht6 => ?_⟩
        have I6 := I.mono (Sub.fresh (o := .tup [.int ui, .str (sgS uk)]) ht6)
        have x6 : AH.put H5 t6 (.tup [.int ui, .str (sgS uk)]) t6 = some (.tup [.int ui, .str (sgS uk)]) := put_same
        generalize AH.put H5 t6 (.tup [.int ui, .str (sgS uk)]) = H6 at I6 x6
        walk_at "go"
        refine SubT.list I6.hn (by (first | (simp +arith only; done) | lia | omega)) (x := .ref a) (by simp [ha]) ?_ (by (first | (simp +arith only; done) | lia | omega))
        refine el1_2 (I6.rows v a ha) ?_
        intro us6 hu6 hr6
        refine Cmp.notin_data (dx := dP (ui, sgS uk)) hu6 (dP_rds hr6) ⟨t6, _, rfl, x6, _, _, rfl, rfl, _, _, rfl, rfl, rfl⟩ ?_ (dP_lay fun x hx => needs_ok x (hN.sub _ _ hx)) (by simp only [dP, PyData.canLay0, PyData.canLayAll0, needs_ok _ hmem, Bool.and_self]) (by simp [dP, PyData.depth, PyData.depthAll]) (by (first | (simp +arith only; done) | lia | omega))
        rw [dP_any]
        by_cases hin : (ui, sgS uk) ∈ N v
        · rw [decide_eq_true hin]
          refine pick_f ?_
          walk_at "go"
          exact ⟨rfl, rfl, N, I6, hN, hD, hP, hin⟩
        · rw [decide_eq_false hin]
          refine pick_t ?_
          walk_at "go"
          refine SubT.list I6.hn (by (first | (simp +arith only; done) | lia | omega)) (x := .ref a) (by simp [ha]) ?_ (by (first | (simp +arith only; done) | lia | omega))
          refine in1_2 _ (GetM.append hu6) ?_
          walk_at "go"
          refine ⟨Nat.le_of_ble_eq_true rfl, fun t7 ht7 => ?_⟩
          have I7 := I6.mono (Sub.fresh (o := .tup [.int ui, .str (sgS uk)]) ht7)
          have x7 : AH.put H6 t7 (.tup [.int ui, .str (sgS uk)]) t7 = some (.tup [.int ui, .str (sgS uk)]) := put_same
          have y7 := Sub.fresh (o := .tup [.int ui, .str (sgS uk)]) ht7 _ _ hu6
          generalize AH.put H6 t7 (.tup [.int ui, .str (sgS uk)]) = H7 at I7 x7 y7
          walk_at "go"
          refine el1_2 (I7.rows v a ha) ?_
          intro us7 hu7 hr7
          rw [y7] at hu7; (have hE0 := slE hu7; subst hE0; clear hu7)
          have hNl := hN.len ok v
          have hl7 := hr7.len
          refine CallV.append y7 (by (first | (simp +arith only; done) | lia | omega)) ?_
          walk_at "go"
          refine ⟨rfl, rfl, nAdd N v (ui, sgS uk), I7.add ha y7 hr7 x7, hN.add hmem hin ok, fun q u' n' i' k' hq hu' x hx => nAdd_mem.mpr (.inl (hD q u' n' i' k' hq hu' x hx)), fun x hx => ?_, nAdd_mem.mpr (.inr ⟨rfl, rfl⟩)⟩
          rcases hP x hx with h | h
          · exact .inl (nAdd_mem.mpr (.inl h))
          · exact .inr h
      · rintro l H6 hI0 
        refine hide fun PZ kZ => ?_
        obtain ⟨hE1, N', I6, hN', hD', hP', hin⟩ := hI0
        refine kZ ?_
        clear kZ PZ
        obtain rfl := hE1
        walk_at "go"
        refine SubT.dict (I6.sub _ _ S.d) (x := .ref b) rfl ?_
        walk_at "go"
        refine el1_2 ((S.mono I6.sub).ib) ?_
        intro bs6 hb6 ab6
        refine hide fun PZ kZ => ?_
        obtain ⟨v6, hv6, t6, cp6, cs6, hE1, g1, g2, g3⟩ := ab6.at v _ hs
        refine kZ ?_
        clear kZ PZ
        obtain rfl := hE1
        refine SubT.list hb6 (by (first | (simp +arith only; done) | lia | omega)) hv6 ?_ (by (first | (simp +arith only; done) | lia | omega))
        walk_at "go"
        refine SubT.tup g1 (by decide) (x := .int pp) rfl ?_ (by decide)
        walk_at "go"
        have hpar := ok.par _ _ _ _ hs
        refine hM2.nx _ _ ⟨(pp + 1).toNat, by (first | (simp +arith only; done) | lia | omega), pp, o, rfl, rfl, c2, c3, c4, c5, hr, N', I6, hN', hD', fun x hx => ?_⟩
        rcases hP' x hx with h | h
        · exact .inl h
        · rcases h.ways with e | ⟨u2, p2, caps2, size2, e, h2, h3⟩
          · have : v = x := by (first | (simp +arith only; done) | lia | omega)
            subst this; exact .inl hin
          · have : v = u2 := by (first | (simp +arith only; done) | lia | omega)
            subst this
            rw [hs] at h2; cases h2
            exact .inr h3
  · rintro lc H3 hI0 
    refine hide fun PZ kZ => ?_
    obtain ⟨c1, c2, N, I, hN, hD⟩ := hI0
    refine kZ ?_
    clear kZ PZ
    rw [hul] at hD
    have hall := fun v => hD.all ok v
    walk_at "go"
    refine SX.for_range' ?_
    walk_at "go"
    refine CallV.len_list I.hn ?_ (by simp; (first | (simp +arith only; done) | lia | omega))
    walk_at "go"
    refine CallV.range fun rg hrg => ?_
    rw [show (((na.map AV.ref).length : Nat) : Int) = (F.subs.length : Int) by simp; (first | (simp +arith only; done) | lia | omega)]
    have I4 := I.mono (Sub.fresh (o := .rng F.subs.length) hrg)
    have x4 : AH.put H3 rg (.rng F.subs.length) rg = some (.rng F.subs.length) := put_same
    generalize AH.put H3 rg (.rng F.subs.length) = H4 at I4 x4
    refine in3_6 rg F.subs.length (fun v lc H5 => lc "state" = some (.ref sd) ∧ lc "needed" = some (.ref nd) ∧ NI H H5 nd na N) rfl x4 (by (first | (simp +arith only; done) | lia | omega)) (⟨c1, c2, I4⟩) ?_ ?_
    · clear c1 c2 I I4 x4 hrg
      rintro v lc H5 M hv hI0 hM
      refine el0_3 hI0 ?_
      try clear hI0
      intro c1 c2 I
      obtain ⟨pp, caps, size, hs⟩ : ∃ p c s, F.subs[v]? = some (p, c, s) := ⟨_, _, _, List.getElem?_eq_getElem hv⟩
      obtain ⟨a, ha⟩ : ∃ a, na[v]? = some a := ⟨_, List.getElem?_eq_getElem (by (first | (simp +arith only; done) | lia | omega))⟩
      refine AT.name_cell rfl rfl ?_
      walk_at "go"
      refine SubT.dict (I.sub _ _ S.d) (x := .ref b) rfl ?_
      walk_at "go"
      refine el1_2 ((S.mono I.sub).ib) ?_
      intro bs6 hb6 ab6
      refine hide fun PZ kZ => ?_
      obtain ⟨v6, hv6, t6, cp, cs, hE1, g1, g2, g3⟩ := ab6.at v _ hs
      refine kZ ?_
      clear kZ PZ
      obtain rfl := hE1
      refine SubT.list hb6 (by (first | (simp +arith only; done) | lia | omega)) hv6 ?_ (by (first | (simp +arith only; done) | lia | omega))
      refine AT.tuple g1 rfl ?_
      refine AT.name_cell rfl rfl ?_
      walk_at "go"
      refine el0_2 (ok.caps _ _ _ _ hs) ?_
      intro hnd hcaps
      have hcl := five hnd
      simp only [List.length_map] at hcl
      have hlen : cs.length = caps.length := g3.len
      refine SX.assign_comp false (by decide) rfl ?_ (fun env he => by obtain ⟨sc1, gg1, b1, kd, f1⟩ := he; cases env; dsimp only at sc1; subst sc1; rfl)
      walk_at "go"
      refine in3_6 cp cs (fun j acc H' => Sub H5 H' ∧ AllR (pP H') ((caps.take j).map fun c => (rt seen F pp c.1, sgS c.2.2)) acc) rfl (by (first | (simp +arith only; done) | lia | omega)) (⟨.refl, rfl⟩) (fun j acc H' ⟨T', _⟩ => T' _ _ g2) ?_ ?_
      · rintro j acc x l H' hx hI0 hl
        refine el0_2 hI0 ?_
        try clear hI0
        intro T' hr
        refine el4_3 (g3.at _ _ hx) ?_
        intro o n k t hcj hE1 ht
        obtain rfl := hE1
        refine el1_2 (hcaps o n k (List.mem_of_getElem? hcj)) ?_
        intro i hRt _
        have l1 : l "state" = some (.ref sd) := (hl "state" rfl).trans c1
        have l2 : l "parent" = some (.int pp) := (hl "parent" rfl).trans rfl
        refine AT.tuple (T' _ _ ht) rfl ?_
        walk_at "go"
        refine TE.nil ?_
        refine pick_t ?_
        walk_at "go"
        refine CallV.room (d' := d + 3) (sp_root (d := d) ok (S.mono (I.sub.trans T')) hRt (by (first | (simp +arith only; done) | lia | omega)) hzs fun H6 T6 => ?_) (by (first | (simp +arith only; done) | lia | omega))
        walk_at "go"
        refine ⟨Nat.le_of_ble_eq_true rfl, fun n6 hn6 => ?_⟩
        refine ⟨T'.trans (T6.trans (Sub.fresh hn6)), ?_⟩
        rw [take_snoc hcj, List.map_append, List.map_cons, List.map_nil]
        refine (hr.mono fun x y => pP.mono (T6.trans (Sub.fresh hn6)).t x y).snoc ⟨n6, rfl, ?_⟩
        rw [rt_eq ok hRt]
        exact put_same
      rintro acc H6 n6 hI0 _ hn6
      refine el0_2 hI0 ?_
      try clear hI0
      intro T6 hr
      have e1 : caps.take cs.length = caps := by rw [hlen]; exact List.take_length
      rw [e1, ← needs_eq hs] at hr
      have I7 := I.mono (T6.trans (Sub.fresh (o := .list acc) hn6))
      have T7 := T6.trans (Sub.fresh (o := .list acc) hn6)
      have hr7 := hr.mono fun x y => pP.mono (Sub.fresh (o := .list acc) hn6).t x y
      have x7 : AH.put H6 n6 (.list acc) n6 = some (.list acc) := put_same
      generalize AH.put H6 n6 (.list acc) = H7 at I7 T7 hr7 x7
      clear hr T6 hn6 H6
      walk_at "go"
      refine CallV.sorted_pairs x7 hr7 (needs_len ok v) (needs_nd ok v) fun n8 ys vs8 y1 y2 y3 y4 => ?_
      have I8 := I7.mono (Sub.fresh (o := .list vs8) y4)
      have T8 := T7.trans (Sub.fresh (o := .list vs8) y4)
      have hy8 := y1.mono fun x y => pP.mono (Sub.fresh (o := .list vs8) y4).t x y
      have x8 : AH.put H7 n8 (.list vs8) n8 = some (.list vs8) := put_same
      generalize AH.put H7 n8 (.list vs8) = H8 at I8 T8 hy8 x8
      clear y1 y4
      walk_at "go"
      refine SubT.list I8.hn (by (first | (simp +arith only; done) | lia | omega)) (x := .ref a) (by simp [ha]) ?_ (by (first | (simp +arith only; done) | lia | omega))
      refine el1_2 (I8.rows v a ha) ?_
      intro us9 hu9 hr9
      walk_at "go"
      refine CallV.sorted_pairs hu9 hr9 (hN.len ok v) (hN.nd v) fun n9 zs vs9 z1 z2 z3 z4 => ?_
      have I9 := I8.mono (Sub.fresh (o := .list vs9) z4)
      have T9 := T8.trans (Sub.fresh (o := .list vs9) z4)
      have hy9 := hy8.mono fun x y => pP.mono (Sub.fresh (o := .list vs9) z4).t x y
      have hz9 := z1.mono fun x y => pP.mono (Sub.fresh (o := .list vs9) z4).t x y
      have w9 := Sub.fresh (o := .list vs9) z4 _ _ x8
      have x9 : AH.put H8 n9 (.list vs9) n9 = some (.list vs9) := put_same
      generalize AH.put H8 n9 (.list vs9) = H9 at I9 T9 hy9 hz9 w9 x9
      clear z1 z4
      have eyz : ys = zs := sorted_same y3 z3 fun x => by
        rw [y2.mem_iff, z2.mem_iff]
        exact ⟨hall v x, hN.sub v x⟩
      subst eyz
      have hok : ∀ x ∈ ys, PyData.strOk x.2 = true := fun x hx => needs_ok x (y2.mem_iff.mp hx)
      have hdep := dP_depth ys
      refine Cmp.ne_data (da := .list (ys.map dP)) (db := .list (ys.map dP)) ⟨n8, _, rfl, w9, dP_rds hy9⟩ ⟨n9, _, rfl, x9, dP_rds hz9⟩ ?_ (by simpa only [PyData.canLay0] using dP_lay hok) (by simpa only [PyData.canLay0] using dP_lay hok) (by simp only [PyData.depth]; (first | (simp +arith only; done) | lia | omega)) (by (first | (simp +arith only; done) | lia | omega))
      rw [show PyData.eqv (.list (ys.map dP)) (.list (ys.map dP)) = true by simp only [PyData.eqv, dP_all]]
      refine pick_f ?_
      walk_at "go"
      refine el1_2 ((S.mono I9.sub).im) ?_
      intro ms hm9 am9
      have hml : ms.length = F.mys.length := by have := am9.len; simpa [VS.ws] using this
      refine EV.listcomp false (by decide) ?_
      walk_at "go"
      refine SubT.dict (I9.sub _ _ S.d) (x := .ref m) rfl ?_
      refine in3_6 m ms (fun j acc H' => Sub H9 H' ∧ acc = ((F.mys.take j).filter fun y => y.1 = v).map fun y => AV.int (y.2.1 : Int)) rfl (by (first | (simp +arith only; done) | lia | omega)) (⟨.refl, by simp⟩) (fun j acc H' ⟨T', _⟩ => T' _ _ hm9) ?_ ?_
      · rintro j acc x l H' hx hI0 hl
        refine el0_2 hI0 ?_
        try clear hI0
        intro T' hE1
        obtain rfl := hE1
        refine hide fun PZ kZ => ?_
        obtain ⟨y, hy, t, hE1, ht⟩ := am9.get j x hx
        refine kZ ?_
        clear kZ PZ
        obtain rfl := hE1
        obtain ⟨⟨s1, n1, k1⟩, hj, rfl⟩ : ∃ z, F.mys[j]? = some z ∧ (z.1, z.2.1) = y := by
          simp only [VS.ws, List.getElem?_map, Option.map_eq_some_iff] at hy
          exact hy
        have l1 : l "sub" = some (.int v) := (hl "sub" rfl).trans rfl
        refine AT.tuple (T' _ _ ht) rfl ?_
        walk_at "go"
        refine TE.one ?_
        walk_at "go"
        refine Cmp.eq_int ?_
        rw [take_snoc hj]
        refine ⟨fun z => ?_, fun z => ?_⟩
        · walk_at "go"
          simp only [beq_iff_eq, Int.natCast_inj] at z
          refine ⟨T', ?_⟩
          rw [List.filter_append, List.map_append, List.filter_cons_of_pos (by simpa using z)]
          rfl
        · refine ⟨T', ?_⟩
          simp only [beq_eq_false_iff_ne, ne_eq, Int.natCast_inj] at z
          rw [List.filter_append, List.map_append, List.filter_cons_of_neg (by simpa using z)]
          simp
      rintro acc H10 n10 hI0 _ hn10
      refine el0_2 hI0 ?_
      try clear hI0
      intro T10 hE1
      obtain rfl := hE1
      have e2 : F.mys.take ms.length = F.mys := by rw [hml]; exact List.take_length
      rw [e2]
      have T11 := T10.trans (Sub.fresh (o := .list ((F.mys.filter fun y => y.1 = v).map fun y => AV.int (y.2.1 : Int))) hn10)
      have x11 : AH.put H10 n10 (.list ((F.mys.filter fun y => y.1 = v).map fun y => AV.int (y.2.1 : Int))) n10 = some (.list ((F.mys.filter fun y => y.1 = v).map fun y => AV.int (y.2.1 : Int))) := put_same
      generalize AH.put H10 n10 (.list ((F.mys.filter fun y => y.1 = v).map fun y => AV.int (y.2.1 : Int))) = H11 at T11 x11
      clear T10 hn10 H10
      have g11 := T11 _ _ (T9 _ _ g2)
      have g3' := g3.mono (T9.trans T11)
      refine EV.listcomp false (by decide) ?_
      walk_at "go"
      refine in3_6 cp cs (fun j acc H' => Sub H11 H' ∧ acc = (caps.take j).map fun y => AV.int (y.2.1 : Int)) rfl (by (first | (simp +arith only; done) | lia | omega)) (⟨.refl, by simp⟩) (fun j acc H' ⟨T', _⟩ => T' _ _ g11) ?_ ?_
      · rintro j acc x l H' hx hI0 hl
        refine el0_2 hI0 ?_
        try clear hI0
        intro T' hE1
        obtain rfl := hE1
        refine el4_3 (g3'.at _ _ hx) ?_
        intro o n k t hcj hE1 ht
        obtain rfl := hE1
        refine AT.tuple (T' _ _ ht) rfl ?_
        walk_at "go"
        refine TE.nil ?_
        refine pick_t ?_
        walk_at "go"
        refine ⟨T', ?_⟩
        have hcj' : caps[j]? = some (o, n, k) := hcj
        rw [take_snoc hcj', List.map_append]
        rfl
      rintro acc H12 n12 hI0 _ hn12
      refine el0_2 hI0 ?_
      try clear hI0
      intro T12 hE1
      obtain rfl := hE1
      rw [e1]
      have T13 := T12.trans (Sub.fresh (o := .list (caps.map fun y => AV.int (y.2.1 : Int))) hn12)
      have x13 : AH.put H12 n12 (.list (caps.map fun y => AV.int (y.2.1 : Int))) n12 = some (.list (caps.map fun y => AV.int (y.2.1 : Int))) := put_same
      generalize AH.put H12 n12 (.list (caps.map fun y => AV.int (y.2.1 : Int))) = H13 at T13 x13
      clear T12 hn12 H12
      have hslots := ok.slots _ _ _ _ hs
      have hsl := hslots.length_eq
      have hfl := List.length_filter_le (fun x : Nat × Nat × Fin 5 => decide (x.1 = v)) F.mys
      simp only [List.length_append, List.length_map, List.length_range] at hsl
      refine Bin.add_list (T13 _ _ x11) x13 (by simp only [List.length_map]; (first | (simp +arith only; done) | lia | omega)) fun n14 hn14 => ?_
      have eL : ((F.mys.filter fun y => y.1 = v).map fun y => AV.int (y.2.1 : Int)) ++ (caps.map fun y => AV.int (y.2.1 : Int)) =
          (((F.mys.filter fun y => y.1 = v).map (fun x => x.2.1) ++ caps.map (fun x => x.2.1)).map fun (i : Nat) => (i : Int)).map AV.int := by
        simp only [List.map_append, List.map_map]; rfl
      rw [eL]
      generalize (F.mys.filter fun y => y.1 = v).map (fun x => x.2.1) ++ caps.map (fun x => x.2.1) = L at hslots
      have hLl : L.length = size := by have := hslots.length_eq; simpa using this
      have T15 := T13.trans (Sub.fresh (o := .list ((L.map fun (i : Nat) => (i : Int)).map AV.int)) hn14)
      have x15 : AH.put H13 n14 (.list ((L.map fun (i : Nat) => (i : Int)).map AV.int)) n14 = some (.list ((L.map fun (i : Nat) => (i : Int)).map AV.int)) := put_same
      generalize AH.put H13 n14 (.list ((L.map fun (i : Nat) => (i : Int)).map AV.int)) = H15 at T15 x15
      clear T13 x13 hn14 H13
      walk_at "go"
      refine CallV.sorted_ints x15 (by simp; (first | (simp +arith only; done) | lia | omega)) fun n16 ns16 s1 s2 hn16 => ?_
      have T17 := T15.trans (Sub.fresh (o := .list (ns16.map .int)) hn16)
      have x17 : AH.put H15 n16 (.list (ns16.map .int)) n16 = some (.list (ns16.map .int)) := put_same
      generalize AH.put H15 n16 (.list (ns16.map .int)) = H17 at T17 x17
      clear T15 x15 hn16 H15
      have e16 := ints_same s1 hslots s2
      subst e16
      walk_at "go"
      refine CallV.range fun n18 hn18 => ?_
      have T19 := T17.trans (Sub.fresh (o := .rng size) hn18)
      have y19 := Sub.fresh (o := .rng size) hn18 _ _ x17
      have x19 : AH.put H17 n18 (.rng size) n18 = some (.rng size) := put_same
      generalize AH.put H17 n18 (.rng size) = H19 at T19 x19 y19
      clear T17 x17 hn18 H17
      walk_at "go"
      refine CallV.list_rng x19 (by (first | (simp +arith only; done) | lia | omega)) fun n20 hn20 => ?_
      have eR : ((List.range size).map fun (i : Nat) => AV.int i) = ((List.range size).map fun (i : Nat) => (i : Int)).map .int := by simp only [List.map_map]; rfl
      rw [eR]
      have T21 := T19.trans (Sub.fresh (o := .list (((List.range size).map fun (i : Nat) => (i : Int)).map .int)) hn20)
      have y21 := Sub.fresh (o := .list (((List.range size).map fun (i : Nat) => (i : Int)).map .int)) hn20 _ _ y19
      have x21 : AH.put H19 n20 (.list (((List.range size).map fun (i : Nat) => (i : Int)).map .int)) n20 = some (.list (((List.range size).map fun (i : Nat) => (i : Int)).map .int)) := put_same
      generalize AH.put H19 n20 (.list (((List.range size).map fun (i : Nat) => (i : Int)).map .int)) = H21 at T21 x21 y21
      clear T19 x19 y19 hn20 H19
      have hdi := dI_depth ((List.range size).map fun (i : Nat) => (i : Int))
      refine Cmp.ne_data (da := .list (((List.range size).map fun (i : Nat) => (i : Int)).map .int)) (db := .list (((List.range size).map fun (i : Nat) => (i : Int)).map .int)) ⟨n16, _, rfl, y21, dI_rds⟩ ⟨n20, _, rfl, x21, dI_rds⟩ ?_ (by simpa only [PyData.canLay0] using dI_lay) (by simpa only [PyData.canLay0] using dI_lay) (by simp only [PyData.depth]; (first | (simp +arith only; done) | lia | omega)) (by (first | (simp +arith only; done) | lia | omega))
      rw [show PyData.eqv (.list (((List.range size).map fun (i : Nat) => (i : Int)).map .int)) (.list (((List.range size).map fun (i : Nat) => (i : Int)).map .int)) = true by simp only [PyData.eqv, dI_all]]
      refine pick_f ?_
      walk_at "go"
      exact hM.nx _ _ ⟨c1, c2, I9.mono (T11.trans T21)⟩
    · rintro lc H5 _
      walk_at "go"
      exact q _
end


theorem wUse_mys {e : WE} {k : Fin 5} {p : Option Pl} {sub : Nat} {s s' : WS} (h : wUse e s sub k p = some s') : s'.mys = s.mys := by
  unfold wUse at h
  split at h
  · split at h
    · (have hE0 := Option.some.inj h; subst hE0; clear h); rfl
    · exact nsE h
  · split at h
    · (have hE0 := Option.some.inj h; subst hE0; clear h); rfl
    · exact nsE h
  · (have hE0 := Option.some.inj h; subst hE0; clear h); rfl
  · exact nsE h
mutual
theorem wStmt_mys : ∀ {t : Tr} {d : Dn} {e : WE} {s : WS} {sub : Nat} {r : WE × WS}, wStmt t d e s sub = some r → r.2.mys.length ≤ s.mys.length + cnt t
  | .my k, .my k' p, e, s, sub, r, h => by
    simp only [wStmt] at h
    split at h
    · (have hE0 := Option.some.inj h; subst hE0; clear h); simp [cnt]
    · exact nsE h
  | .use k1 k2, .use k1' p1 k2' p2, e, s, sub, r, h => by
    simp only [wStmt] at h
    split at h
    · refine el1_2 (Option.bind_eq_some_iff.mp h) ?_
      intro s1 h1 h2
      refine el1_2 (Option.map_eq_some_iff.mp h2) ?_
      intro s2 h3 hE1
      obtain rfl := hE1
      simp only [wUse_mys h3, wUse_mys h1]; (first | (simp +arith only; done) | lia | omega)
    · exact nsE h
  | .anon t, .anon ds size caps, e, s, sub, r, h => by
    simp only [wStmt] at h
    refine el1_2 (Option.map_eq_some_iff.mp h) ?_
    intro r1 h1 hE1
    obtain rfl := hE1
    have := wStmts_mys h1
    simp only [cnt] at this ⊢; (first | (simp +arith only; done) | lia | omega)
  | .bare t, .bare ds, e, s, sub, r, h => by
    simp only [wStmt] at h
    refine el1_2 (Option.map_eq_some_iff.mp h) ?_
    intro r1 h1 hE1
    obtain rfl := hE1
    have := wStmts_mys h1
    simp only [cnt] at this ⊢; (first | (simp +arith only; done) | lia | omega)
  | .my _, .use _ _ _ _, _, _, _, _, h => by simp [wStmt] at h
  | .my _, .anon _ _ _, _, _, _, _, h => by simp [wStmt] at h
  | .my _, .bare _, _, _, _, _, h => by simp [wStmt] at h
  | .use _ _, .my _ _, _, _, _, _, h => by simp [wStmt] at h
  | .use _ _, .anon _ _ _, _, _, _, _, h => by simp [wStmt] at h
  | .use _ _, .bare _, _, _, _, _, h => by simp [wStmt] at h
  | .anon _, .my _ _, _, _, _, _, h => by simp [wStmt] at h
  | .anon _, .use _ _ _ _, _, _, _, _, h => by simp [wStmt] at h
  | .anon _, .bare _, _, _, _, _, h => by simp [wStmt] at h
  | .bare _, .my _ _, _, _, _, _, h => by simp [wStmt] at h
  | .bare _, .use _ _ _ _, _, _, _, _, h => by simp [wStmt] at h
  | .bare _, .anon _ _ _, _, _, _, _, h => by simp [wStmt] at h
theorem wStmts_mys : ∀ {ts : List Tr} {ds : List Dn} {e : WE} {s : WS} {sub : Nat} {r : WE × WS}, wStmts ts ds e s sub = some r → r.2.mys.length ≤ s.mys.length + cnts ts
  | [], [], e, s, sub, r, h => by simp only [wStmts] at h; (have hE0 := Option.some.inj h; subst hE0; clear h); simp
  | [], _ :: _, _, _, _, _, h => by simp [wStmts] at h
  | _ :: _, [], _, _, _, _, h => by simp [wStmts] at h
  | t :: ts, d :: ds, e, s, sub, r, h => by
    simp only [wStmts] at h
    refine el1_2 (Option.bind_eq_some_iff.mp h) ?_
    intro r1 h1 h2
    have a1 := wStmt_mys h1
    have a2 := wStmts_mys h2
    simp only [cnts] at a2 ⊢; (first | (simp +arith only; done) | lia | omega)
end

noncomputable def kyInv (s : Str) : Fin 5 := if s = kyS 0 then 0 else if s = kyS 1 then 1 else if s = kyS 2 then 2 else if s = kyS 3 then 3 else 4
theorem kyInv_ky : ∀ k, kyInv (kyS k) = k := by decide
theorem keys_perm {ss : List Str} (h : ss.Perm keysL) : ∃ ks : List (Fin 5), ss = ks.map kyS ∧ ks.Nodup := by
  refine in1_2 (ss.map kyInv) ?_ ?_
  · have : ∀ s ∈ ss, kyS (kyInv s) = s := fun s hs => by
      have := h.mem_iff.mp hs
      simp only [keysL, List.mem_cons, List.not_mem_nil, or_false] at this
      rcases this with rfl | rfl | rfl | rfl | rfl <;> decide
    rw [List.map_map]
    conv => lhs; rw [← List.map_id ss]
    exact List.map_congr_left fun s hs => (this s hs).symm
  · exact (h.map kyInv).nodup_iff.mpr (by decide)
noncomputable def qOf (k : Fin 5) : Str := "Q::" ++ nmS k
theorem q_ok : ∀ k, PyData.strOk (qOf k) = true := by
  decide +kernel
theorem q_line : ∀ k, (("Q::" : Str) ++ nmS k).length ≤ sizeLine := by
  decide +kernel

/-- what the law's first loop keeps -/
structure LSeen (l : List (Fin 5 × Pl)) (ks : List (Fin 5)) : Prop where
  nd : (l.map (·.1)).Nodup
  sub : ∀ x ∈ l, x.1 ∈ ks
  slots : ((seenN l).map (·.2)).Nodup
  lt : ∀ k n, (k, Pl.slot n) ∈ l → n < 3 * l.length
  whol : ∀ k t, (k, Pl.whole t) ∈ l → PyData.strOk t = true
theorem seenN_snoc (k : Fin 5) (n : Nat) : ∀ l, seenN (l ++ [(k, Pl.slot n)]) = seenN l ++ [(k, n)]
  | [] => rfl
  | (_, .slot _) :: r => by simp only [List.cons_append, seenN, seenN_snoc k n r]
  | (_, .whole _) :: r => by simp only [List.cons_append, seenN, seenN_snoc k n r]
theorem seenN_snocW (k : Fin 5) (t : Str) : ∀ l, seenN (l ++ [(k, Pl.whole t)]) = seenN l
  | [] => rfl
  | (_, .slot _) :: r => by simp only [List.cons_append, seenN, seenN_snocW k t r]
  | (_, .whole _) :: r => by simp only [List.cons_append, seenN, seenN_snocW k t r]
theorem seenN_back {k : Fin 5} {n : Nat} : ∀ {l : List (Fin 5 × Pl)}, (k, n) ∈ seenN l → (k, Pl.slot n) ∈ l
  | [], h => nomatch h
  | (k', .slot n') :: r, h => by
    unfold seenN at h
    rcases List.mem_cons.mp h with h | h
    · (have hE0 := prE h; clear h; refine el0_2 hE0 ?_; clear hE0; intro hE1 hE2; subst hE1; subst hE2); exact .head _
    · exact .tail _ (seenN_back h)
  | (k', .whole t) :: r, h => by
    unfold seenN at h
    exact .tail _ (seenN_back h)
theorem LSeen.nil {ks : List (Fin 5)} : LSeen [] ks := ⟨.nil, nofun, .nil, nofun, nofun⟩
theorem LSeen.up {l : List (Fin 5 × Pl)} {ks : List (Fin 5)} {k : Fin 5} (L : LSeen l ks) : LSeen l (ks ++ [k]) := ⟨L.nd, fun x hx => List.mem_append_left _ (L.sub x hx), L.slots, L.lt, L.whol⟩
theorem LSeen.keyed {l : List (Fin 5 × Pl)} {ks : List (Fin 5)} {k : Fin 5} {p : Pl} (L : LSeen l ks) (hk : k ∉ ks) : ((l ++ [(k, p)]).map (·.1)).Nodup := by
  rw [List.map_append, List.nodup_append]
  refine in0_3 L.nd (by simp) (fun a ha b hb => ?_)
  simp at hb; subst hb
  rintro rfl
  refine el1_2 (List.mem_map.mp ha) ?_
  intro x hx e
  exact hk (e ▸ L.sub x hx)
theorem LSeen.slot {l : List (Fin 5 × Pl)} {ks : List (Fin 5)} {k : Fin 5} {n : Nat} (L : LSeen l ks) (hk : k ∉ ks) (h1 : 3 * l.length ≤ n) (h2 : n < 3 * l.length + 3) : LSeen (l ++ [(k, Pl.slot n)]) (ks ++ [k]) := by
  refine ⟨L.keyed hk, fun x hx => ?_, ?_, fun k' n' h => ?_, fun k' t h => ?_⟩
  · rcases List.mem_append.mp hx with hx | hx
    · exact List.mem_append_left _ (L.sub x hx)
    · simp at hx; subst hx; simp
  · rw [seenN_snoc, List.map_append, List.nodup_append]
    refine in0_3 L.slots (by simp) (fun a ha b hb => ?_)
    simp at hb; subst hb
    rintro rfl
    refine el1_2 (List.mem_map.mp ha) ?_
    intro x hx e
    have := L.lt x.1 x.2 (seenN_back hx)
    (first | (simp +arith only; done) | lia | omega)
  · rcases List.mem_append.mp h with h | h
    · have := L.lt _ _ h; simp; (first | (simp +arith only; done) | lia | omega)
    · simp at h; obtain ⟨_, rfl⟩ := h; simp; (first | (simp +arith only; done) | lia | omega)
  · rcases List.mem_append.mp h with h | h
    · exact L.whol _ _ h
    · simp at h
theorem LSeen.whole {l : List (Fin 5 × Pl)} {ks : List (Fin 5)} {k : Fin 5} {t : Str} (L : LSeen l ks) (hk : k ∉ ks) (ht : PyData.strOk t = true) : LSeen (l ++ [(k, Pl.whole t)]) (ks ++ [k]) := by
  refine ⟨L.keyed hk, fun x hx => ?_, ?_, fun k' n' h => ?_, fun k' t h => ?_⟩
  · rcases List.mem_append.mp hx with hx | hx
    · exact List.mem_append_left _ (L.sub x hx)
    · simp at hx; subst hx; simp
  · rw [seenN_snocW]; exact L.slots
  · rcases List.mem_append.mp h with h | h
    · have := L.lt _ _ h; simp; (first | (simp +arith only; done) | lia | omega)
    · simp at h
  · rcases List.mem_append.mp h with h | h
    · exact L.whol _ _ h
    · simp at h; obtain ⟨_, rfl⟩ := h; exact ht
theorem LSeen.ok {l : List (Fin 5 × Pl)} {ks : List (Fin 5)} (L : LSeen l ks) : SeenOK l := ⟨L.nd, L.slots, L.whol⟩
theorem LSeen.len {l : List (Fin 5 × Pl)} {ks : List (Fin 5)} (L : LSeen l ks) : l.length ≤ 5 := by have := five L.nd; simpa using this
theorem eput_app {k : Fin 5} {p : Tg} : ∀ {l : List (Fin 5 × Tg)}, k ∉ l.map (·.1) → eput l k p = l ++ [(k, p)]
  | [], _ => rfl
  | (x, v) :: r, h => by
    simp only [List.map_cons, List.mem_cons, not_or] at h
    unfold eput
    rw [if_neg (Ne.symm h.1), eput_app h.2]; rfl
theorem seenE_snoc {l : List (Fin 5 × Pl)} {ks : List (Fin 5)} {k : Fin 5} {p : Pl} (L : LSeen l ks) (hk : k ∉ ks) : eput (seenE l) k p.tg = seenE (l ++ [(k, p)]) := by
  rw [eput_app]
  · simp [seenE]
  · intro z
    simp only [seenE, List.map_map] at z
    refine el1_2 (List.mem_map.mp z) ?_
    intro x hx e
    exact hk (e ▸ L.sub x hx)
theorem SeenR.snoc {F : AH} {k : Fin 5} {p : Pl} {t : Addr} (h : F t = some (.tup [.str (kyS k), p.av])) : ∀ {l : List (Fin 5 × Pl)} {vs : List AV}, SeenR F l vs → SeenR F (l ++ [(k, p)]) (vs ++ [.ref t])
  | [], _, e => by simp only [SeenR] at e; subst e; exact in2_3 t ([]) rfl h rfl
  | (k', p') :: r, _, ⟨t', us, e, h', q⟩ => by subst e; exact in2_3 t' (us ++ [.ref t]) rfl h' (q.snoc h)

structure LW (H H' : AH) (p e sn : Addr) (a c : Int) (l l' : List (Fin 5 × Pl)) (vs : List AV) : Prop where
  sub : Sub H H'
  hp : H' p = some (.arr [.int a, .int c, .int 0])
  he : H' e = some (.dict (eAV (seenE l')))
  hs : H' sn = some (.list vs)
  sr : SeenR H' l vs
  np : H p = none
  ne : H e = none
  ns : H sn = none
theorem SeenR.monoT {F F' : AH} (s : TSub F F') : ∀ {l : List (Fin 5 × Pl)} {vs : List AV}, SeenR F l vs → SeenR F' l vs
  | [], _, h => h
  | (k, n) :: r, _, ⟨t, us, e, h, q⟩ => ⟨t, us, e, s _ _ h, q.monoT s⟩
theorem LW.draw {H H1 H2 : AH} {p e sn : Addr} {a c a' c' : Int} {l l' : List (Fin 5 × Pl)} {vs : List AV} (L : LW H H1 p e sn a c l l' vs) (s : Sub (fz (own1 p) H1) (fz (own1 p) H2)) (hp : H2 p = some (.arr [.int a', .int c', .int 0])) : LW H H2 p e sn a' c' l l' vs := by
  have st : ∀ x o, H1 x = some o → x ≠ p → H2 x = some o := fun x o h n => (fz_some (s _ _ (fz1_of h n))).1
  have h1 : e ≠ p := fun z => by have := L.he; rw [z, L.hp] at this; cases this
  have h2 : sn ≠ p := fun z => by have := L.hs; rw [z, L.hp] at this; cases this
  refine ⟨fun x o h => st x o (L.sub _ _ h) fun z => ?_, hp, st _ _ L.he h1, st _ _ L.hs h2, L.sr.monoT fun x xs h => st _ _ h fun z => ?_, L.np, L.ne, L.ns⟩
  · subst z; rw [L.np] at h; exact nsE h
  · subst z; rw [L.hp] at h; cases h
theorem LW.fresh {H H1 : AH} {p e sn n : Addr} {o : AO} {a c : Int} {l l' : List (Fin 5 × Pl)} {vs : List AV} (L : LW H H1 p e sn a c l l' vs) (hn : H1 n = none) : LW H (AH.put H1 n o) p e sn a c l l' vs := by
  have s := Sub.fresh (o := o) hn
  exact ⟨L.sub.trans s, s _ _ L.hp, s _ _ L.he, s _ _ L.hs, L.sr.mono s, L.np, L.ne, L.ns⟩
theorem LW.app {H H1 : AH} {p e sn t : Addr} {a c : Int} {l l' : List (Fin 5 × Pl)} {vs : List AV} {k : Fin 5} {pl : Pl} (L : LW H H1 p e sn a c l l' vs) (ht : H1 t = some (.tup [.str (kyS k), pl.av])) :
    LW H (AH.put H1 sn (.list (vs ++ [.ref t]))) p e sn a c (l ++ [(k, pl)]) l' (vs ++ [.ref t]) := by
  have st : ∀ x o, H1 x = some o → x ≠ sn → AH.put H1 sn (.list (vs ++ [.ref t])) x = some o := fun x o h n => by rw [put_ne n]; exact h
  have tt : TSub H1 (AH.put H1 sn (.list (vs ++ [.ref t]))) := fun x xs h => st _ _ h fun z => by subst z; rw [L.hs] at h; cases h
  refine ⟨fun x o h => st x o (L.sub _ _ h) fun z => ?_, st _ _ L.hp fun z => ?_, st _ _ L.he fun z => ?_, put_same, (L.sr.monoT tt).snoc (tt _ _ ht), L.np, L.ne, L.ns⟩
  · subst z; rw [L.ns] at h; exact nsE h
  · have := L.hs; rw [← z, L.hp] at this; cases this
  · have := L.hs; rw [← z, L.he] at this; cases this
theorem LW.env {H H1 : AH} {p e sn : Addr} {a c : Int} {l l' l2 : List (Fin 5 × Pl)} {vs : List AV} (L : LW H H1 p e sn a c l l' vs) : LW H (AH.put H1 e (.dict (eAV (seenE l2)))) p e sn a c l l2 vs := by
  have st : ∀ x o, H1 x = some o → x ≠ e → AH.put H1 e (.dict (eAV (seenE l2))) x = some o := fun x o h n => by rw [put_ne n]; exact h
  have tt : TSub H1 (AH.put H1 e (.dict (eAV (seenE l2)))) := fun x xs h => st _ _ h fun z => by subst z; rw [L.he] at h; cases h
  refine ⟨fun x o h => st x o (L.sub _ _ h) fun z => ?_, st _ _ L.hp fun z => ?_, put_same, st _ _ L.hs fun z => ?_, L.sr.monoT tt, L.np, L.ne, L.ns⟩
  · subst z; rw [L.ne] at h; exact nsE h
  · have := L.he; rw [← z, L.hp] at this; cases this
  · have := L.he; rw [← z, L.hs] at this; cases this
theorem LW.len {H H1 : AH} {p e sn : Addr} {a c : Int} {l l' : List (Fin 5 × Pl)} {vs : List AV} (L : LW H H1 p e sn a c l l' vs) : vs.length = l.length := L.sr.get.1
section
variable {ad : Ads} {w : World} {sc : Scope} {d : Nat} {loc : Loc} {H : AH}
set_option maxHeartbeats 0 in
theorem sp_law {Q : AF → Loc → AH → Prop} (hl : ad.ns.length ≤ 63) (q : ∀ l H', Q (.ret (.bool true)) l H') :
    SX ad w (fnScope 53) (d + 200) (execs (fnBody 53)) (Loc.set Loc.nil "script" (.ref ad.scr)) H Q := by
  have g : GH ad H := ⟨trivial⟩
  refine SX.run (b := ?b) (by conv => lhs; whnf) ?_
  walk_at "go"
  refine CallV.room (d' := 1) (sp_pen (d := 0) hl fun H1 p0 i s1 hp0 hp1 => ?_) (by (first | (simp +arith only; done) | lia | omega))
  walk_at "go"
  refine ⟨Nat.le_of_ble_eq_true rfl, fun p1 hp1n => ?_⟩
  have s2 := s1.trans (Sub.fresh (o := .list [.int 0]) hp1n)
  have x2 : AH.put H1 p1 (.list [.int 0]) p1 = some (.list [.int 0]) := put_same
  have y2 := Sub.fresh (o := .list [.int 0]) hp1n _ _ hp1
  generalize AH.put H1 p1 (.list [.int 0]) = H2 at s2 x2 y2
  refine Bin.add_list_arr y2 x2 (by simp) fun p hpn => ?_
  have s3 := s2.trans (Sub.fresh (o := .arr ([.int i, .int 0] ++ [.int 0])) hpn)
  have x3 : AH.put H2 p (.arr ([.int i, .int 0] ++ [.int 0])) p = some (.arr [.int i, .int 0, .int 0]) := put_same
  have np := none_of_sub s2 hpn
  generalize AH.put H2 p (.arr ([.int i, .int 0] ++ [.int 0])) = H3 at s3 x3
  clear hp1 hp1n s1 y2 x2 hpn s2 hp0 H1 H2
  walk_at "go"
  refine SX.assign_swapped (a := "env") (b := "seen") ?_ rfl rfl (fun _ => rfl) (fun env he => by obtain ⟨sc1, g1, b1, kd, f1⟩ := he; cases env; dsimp only at sc1; subst sc1; rfl)
  walk_at "go"
  intro e hen
  have ne := none_of_sub s3 hen
  have s4 := s3.trans (Sub.fresh (o := .dict []) hen)
  have x4 := Sub.fresh (o := .dict []) hen _ _ x3
  have e4 : AH.put H3 e (.dict []) e = some (.dict []) := put_same
  generalize AH.put H3 e (.dict []) = H4 at s4 x4 e4
  clear s3 x3 hen H3
  walk_at "go"
  refine ⟨Nat.le_of_ble_eq_true rfl, fun sn hsn => ?_⟩
  have L5 : LW H (AH.put H4 sn (.list [])) p e sn i 0 [] [] [] := by
    have s5 := Sub.fresh (o := .list []) hsn
    exact ⟨s4.trans s5, s5 _ _ x4, s5 _ _ e4, put_same, rfl, np, ne, none_of_sub s4 hsn⟩
  generalize AH.put H4 sn (.list []) = H5 at L5
  clear s4 x4 e4 hsn H4 np ne
  walk_at "go"
  refine ⟨Nat.le_of_ble_eq_true rfl, fun tt htt => ⟨tt, .ref e, .ref sn, rfl, put_same, ?_⟩⟩
  have L6 := L5.fresh (o := .tup [.ref e, .ref sn]) htt
  generalize AH.put H5 tt (.tup [.ref e, .ref sn]) = H6 at L6
  clear L5 htt H5
  walk_at "go"
  refine SX.for_list' ?_
  walk_at "go"
  refine CallV.sorted_keysG fun sk ss hss hsk => ?_
  refine el1_2 (keys_perm hss) ?_
  intro ks hE1 hks
  obtain rfl := hE1
  have L7 := L6.fresh (o := .list ((ks.map kyS).map .str)) hsk
  have x7 : AH.put H6 sk (.list ((ks.map kyS).map .str)) sk = some (.list ((ks.map kyS).map .str)) := put_same
  have nsk : sk ≠ sn := fun z => by have := L6.hs; rw [← z, hsk] at this; exact nsE this
  have nse : sk ≠ e := fun z => by have := L6.he; rw [← z, hsk] at this; exact nsE this
  have nsp : sk ≠ p := fun z => by have := L6.hp; rw [← z, hsk] at this; exact nsE this
  generalize AH.put H6 sk (.list ((ks.map kyS).map .str)) = H7 at L7 x7
  clear L6 hsk H6
  refine ⟨sk, (ks.map kyS).map .str, fun j lc H8 => lc "pen" = some (.ref p) ∧ lc "env" = some (.ref e) ∧ lc "seen" = some (.ref sn) ∧ H8 sk = some (.list ((ks.map kyS).map .str)) ∧ ∃ a c l vs, LW H H8 p e sn a c l l vs ∧ LSeen l (ks.take j), rfl, ⟨rfl, rfl, rfl, x7, i, 0, [], [], L7, .nil⟩, ?_, ?_, ?_⟩
  · rintro j lc H8 ⟨_, _, _, h, _⟩; exact h
  · clear L7 x7
    rintro j x lc H8 M hx hI0 hM
    refine hide fun PZ kZ => ?_
    obtain ⟨c1, c2, c3, hsk, a, c, l, vs, L, LS⟩ := hI0
    refine kZ ?_
    clear kZ PZ
    obtain ⟨k, hk, rfl⟩ : ∃ k, ks[j]? = some k ∧ AV.str (kyS k) = x := by
      simp only [List.getElem?_map, Option.map_eq_some_iff] at hx
      refine el1_2 hx ?_
      try clear hx
      intro _ hE1 e
      refine el1_2 hE1 ?_
      try clear hE1
      intro k hk hE2
      obtain rfl := hE2
      exact in1_2 k hk e
    have hkn : k ∉ ks.take j := fun z => by
      refine hide fun PZ kZ => ?_
      obtain ⟨j', hj', e'⟩ := List.getElem_of_mem z
      refine kZ ?_
      clear kZ PZ
      refine hide fun PZ kZ => ?_
      obtain ⟨hj, ej⟩ := List.getElem?_eq_some_iff.mp hk
      refine kZ ?_
      clear kZ PZ
      simp only [List.length_take] at hj'
      rw [List.getElem_take] at e'
      have := (List.getElem_inj (h₀ := by (first | (simp +arith only; done) | lia | omega)) (h₁ := hj) hks).mp (e'.trans ej.symm)
      (first | (simp +arith only; done) | lia | omega)
    refine AT.name (by rfl) ?_
    walk_at "go"
    refine CallV.room (d' := 1) (sp_draw (d := 0) L.hp (by decide) (by decide) fun H9 r a' c' r0 r1 hp9 s9 => ?_) (by (first | (simp +arith only; done) | lia | omega))
    have L9 := L.draw s9 hp9
    have hsk9 := (fz_some (s9 _ _ (fz1_of hsk nsp))).1
    walk_at "go"
    refine Cmp.gt_int ?_
    refine ⟨fun z => ?_, fun z => ?_⟩
    · walk_at "go"
      refine in1_2 _ (GetM.append L9.hs) ?_
      walk_at "go"
      have hvl := L.len
      have hll := LS.len
      refine CallV.len_list L9.hs ?_ (by (first | (simp +arith only; done) | lia | omega))
      refine Bin.mul_int (mul_left (by decide) (by decide)) ?_
      walk_at "go"
      refine CallV.room (d' := 1) (sp_draw (d := 0) L9.hp (by decide) (by decide) fun H10 r2 a2 c2' q0 q1 hp10 s10 => ?_) (by (first | (simp +arith only; done) | lia | omega))
      have L10 := L9.draw s10 hp10
      have hsk10 := (fz_some (s10 _ _ (fz1_of hsk9 nsp))).1
      walk_at "go"
      refine ⟨Nat.le_of_ble_eq_true rfl, fun t ht => ?_⟩
      obtain ⟨n, hn⟩ : ∃ n : Nat, 3 * (vs.length : Int) + r2 = (n : Int) := ⟨3 * l.length + r2.toNat, by (first | (simp +arith only; done) | lia | omega)⟩
      rw [hn]
      have L11 := L10.fresh (o := .tup [.str (kyS k), .int n]) ht
      have hsk11 := keep_new (o := .tup [.str (kyS k), .int n]) hsk10 ht
      have x11 : AH.put H10 t (.tup [.str (kyS k), .int n]) t = some (.tup [.str (kyS k), (Pl.slot n).av]) := put_same
      generalize AH.put H10 t (.tup [.str (kyS k), .int n]) = H11 at L11 hsk11 x11
      walk_at "go"
      refine CallV.append L11.hs (by (first | (simp +arith only; done) | lia | omega)) ?_
      have L12 := L11.app x11
      have hsk12 : AH.put H11 sn (.list (vs ++ [.ref t])) sk = some (.list ((ks.map kyS).map .str)) := by rw [put_ne nsk]; exact hsk11
      have x12 : AH.put H11 sn (.list (vs ++ [.ref t])) t = some (.tup [.str (kyS k), .int n]) := by
        rw [put_ne]
        · exact x11
        · intro z; rw [z, L11.hs] at x11; cases x11
      generalize AH.put H11 sn (.list (vs ++ [.ref t])) = H12 at L12 hsk12 x12
      walk_at "go"
      refine SubT.list_neg L12.hs (by decide) (by simp; (first | (simp +arith only; done) | lia | omega)) (x := .ref t) ?_ ?_ (by decide)
      · have : ((-1 : Int) + ((vs ++ [AV.ref t]).length : Int)).toNat = vs.length := by simp; (first | (simp +arith only; done) | lia | omega)
        rw [this]; simp
      walk_at "go"
      refine SubT.tup x12 (by decide) (x := .int n) rfl ?_ (by decide)
      walk_at "go"
      have hLS : LSeen (l ++ [(k, Pl.slot n)]) (ks.take j ++ [k]) := LS.slot hkn (by (first | (simp +arith only; done) | lia | omega)) (by (first | (simp +arith only; done) | lia | omega))
      refine SetT.dict L12.he (by simp [eAV, seenE]; (first | (simp +arith only; done) | lia | omega)) ?_
      have eE : kvPut (eAV (seenE l)) (kyS k) (.int (-1 - (n : Int))) = eAV (seenE (l ++ [(k, Pl.slot n)])) := by
        rw [← seenE_snoc LS hkn]; exact eAV_put k (.int (-1 - (n : Int))) (seenE l)
      have L13 := L12.env (l2 := l ++ [(k, Pl.slot n)])
      rw [← eE] at L13
      walk_at "go"
      refine hM.nx _ _ ⟨c1, c2, c3, ?_, a2, c2', _, _, L13, by rw [take_snoc hk]; exact hLS⟩
      rw [put_ne nse]; exact hsk12
    · walk_at "go"
      refine Cmp.eq_int ?_
      refine ⟨fun z => ?_, fun z => ?_⟩
      · walk_at "go"
        refine in1_2 _ (GetM.append L9.hs) ?_
        walk_at "go"
        have hvl := L.len
        have hll := LS.len
        refine SliceT.str_from (by rw [ky_len]; decide) ?_
        rw [ky_nm]
        refine Bin.add_str (q_line k) ?_
        walk_at "go"
        refine ⟨Nat.le_of_ble_eq_true rfl, fun t ht => ?_⟩
        have L11 := L9.fresh (o := .tup [.str (kyS k), .str (qOf k)]) ht
        have hsk11 := keep_new (o := .tup [.str (kyS k), .str (qOf k)]) hsk9 ht
        have x11 : AH.put H9 t (.tup [.str (kyS k), .str (qOf k)]) t = some (.tup [.str (kyS k), (Pl.whole (qOf k)).av]) := put_same
        show AR _ _ _ _ _ _ _ (AH.put H9 t (.tup [.str (kyS k), .str (qOf k)])) _
        generalize AH.put H9 t (.tup [.str (kyS k), .str (qOf k)]) = H11 at L11 hsk11 x11
        walk_at "go"
        refine CallV.append L11.hs (by (first | (simp +arith only; done) | lia | omega)) ?_
        have L12 := L11.app x11
        have hsk12 : AH.put H11 sn (.list (vs ++ [.ref t])) sk = some (.list ((ks.map kyS).map .str)) := by rw [put_ne nsk]; exact hsk11
        generalize AH.put H11 sn (.list (vs ++ [.ref t])) = H12 at L12 hsk12
        walk_at "go"
        refine SliceT.str_from (by rw [ky_len]; decide) ?_
        rw [ky_nm]
        refine Bin.add_str (q_line k) ?_
        walk_at "go"
        have hLS : LSeen (l ++ [(k, Pl.whole (qOf k))]) (ks.take j ++ [k]) := LS.whole hkn (q_ok k)
        refine SetT.dict L12.he (by simp [eAV, seenE]; (first | (simp +arith only; done) | lia | omega)) ?_
        have eE : kvPut (eAV (seenE l)) (kyS k) (.str (qOf k)) = eAV (seenE (l ++ [(k, Pl.whole (qOf k))])) := by
          rw [← seenE_snoc LS hkn]; exact eAV_put k (.str (qOf k)) (seenE l)
        have L13 := L12.env (l2 := l ++ [(k, Pl.whole (qOf k))])
        rw [← eE] at L13
        walk_at "go"
        refine hM.nx _ _ ⟨c1, c2, c3, ?_, a', c', _, _, L13, by rw [take_snoc hk]; exact hLS⟩
        rw [put_ne nse]; exact hsk12
      · walk_at "go"
        refine hM.nx _ _ ⟨c1, c2, c3, hsk9, a', c', l, vs, L9, ?_⟩
        rw [take_snoc hk]; exact LS.up
  · rintro lc H8 hI0 
    refine hide fun PZ kZ => ?_
    obtain ⟨c1, c2, c3, hsk, a, c, l, vs, L, LS⟩ := hI0
    refine kZ ?_
    clear kZ PZ
    rw [List.length_map, List.length_map, List.take_length] at LS
    walk_at "go"
    have gp : Sub H (fz (own1 p) H8) := fun x o h => fz1_of (L.sub _ _ h) fun z => by subst z; rw [L.np] at h; exact nsE h
    refine CallV.room (d' := 3 + 4) ?_ (by (first | (simp +arith only; done) | lia | omega))
    refine sp_block 3 0 _ _ H8 p a c 0 _ (g.mono gp) L.hp (by decide) fun H9 y ts a9 c9 k9 hp9 s9 hB hz hd hw hc hk => ?_
    have st9 : ∀ x o, H8 x = some o → x ≠ p → H9 x = some o := fun x o h n => (fz_some (s9 _ _ (fz1_of h n))).1
    have hep : e ≠ p := fun z => by have := L.he; rw [z, L.hp] at this; cases this
    have hsp : sn ≠ p := fun z => by have := L.hs; rw [z, L.hp] at this; cases this
    have g9 : Sub H H9 := fun x o h => (fz_some (s9 _ _ (gp _ _ h))).1
    have he9 := st9 _ _ L.he hep
    have hs9 := st9 _ _ L.hs hsp
    have sr9 : SeenR H9 l vs := L.sr.monoT fun x xs h => st9 _ _ h fun z => by subst z; rw [L.hp] at h; cases h
    have hB9 : BlkR ts y H9 := BlkR.mono _ _ _ _ (fun x o h => (fz_some (dif_some h).1).1) hB
    clear hB s9 st9 hp9 gp
    walk_at "go"
    refine ⟨Nat.le_of_ble_eq_true rfl, fun rd hrd => ?_⟩
    have f10 := Sub.fresh (o := .tup [.str "program", y, .int 0]) hrd
    have g10 := g9.trans f10
    have he10 := f10 _ _ he9
    have hs10 := f10 _ _ hs9
    have sr10 := sr9.mono f10
    have hB10 := BlkR.mono _ _ _ _ f10 hB9
    have x10 : AH.put H9 rd (.tup [.str "program", y, .int 0]) rd = some (.tup [.str "program", y, .int 0]) := put_same
    generalize AH.put H9 rd (.tup [.str "program", y, .int 0]) = H10 at g10 he10 hs10 sr10 hB10 x10
    clear f10 g9 he9 hs9 sr9 hB9 hrd
    walk_at "go"
    have hvl := L.len
    have hll := LS.len
    refine CallV.tuple_list hs10 (by (first | (simp +arith only; done) | lia | omega)) fun se hse => ?_
    have f11 := Sub.fresh (o := .tup vs) hse
    have g11 := g10.trans f11
    have he11 := f11 _ _ he10
    have sr11 := sr10.mono f11
    have hB11 := BlkR.mono _ _ _ _ f11 hB10
    have y11 := f11 _ _ x10
    have x11 : AH.put H10 se (.tup vs) se = some (.tup vs) := put_same
    generalize AH.put H10 se (.tup vs) = H11 at g11 he11 sr11 hB11 x11 y11
    clear f11 g10 he10 hs10 sr10 hB10 x10 hse
    walk_at "go"
    refine CallV.room (d' := 16 * deps ts + 40) ?_ (by (first | (simp +arith only; done) | lia | omega))
    refine CallV.room (d' := 0 + 16 * deps ts + 40) (sp_resolve_eval (d := 0) (g.mono g11) hw (by (first | (simp +arith only; done) | lia | omega)) (by (first | (simp +arith only; done) | lia | omega)) (by (first | (simp +arith only; done) | lia | omega)) y11 hB11 x11 sr11 fun own' H12 z ps' r' hev s12 hD => ?_) (by (first | (simp +arith only; done) | lia | omega))
    have t12 : Sub H11 H12 := fun x o h => (fz_some (s12 _ _ h)).1
    obtain ⟨da, db, dc, cs, rfl, d1, d2, d3, d4⟩ := hD
    have D1 := (fz_some (dif_some d1).1).1
    have D3 := (fz_some (dif_some d3).1).1
    have D2 : BlkD (evalS ts l).1 H12 H12 db := BlkD.mono _ _ _ _ _ _ (fun x o h => (fz_some (dif_some h).1).1) (fun x o h => (fz_some h).1) d2
    have D4 : CapsR H12 ps'.caps cs := d4.mono fun x o h => (fz_some h).1
    have g12 := g11.trans t12
    have he12 := t12 _ _ he11
    have hB12 := BlkR.mono _ _ _ _ t12 hB11
    have y12 := t12 _ _ y11
    clear d1 d2 d3 d4 s12 t12 g11 he11 sr11 hB11 y11 x11
    have hpl := plain ts LS.ok (ps' := ps') (r' := r') (congrArg Prod.snd hev)
    with_reducible refine el2_2 hpl ?_
    clear hpl
    intro e' v hwk fok
    walk_at "go"
    have k1 : Str.ofString "mys" ≠ Str.ofString "uses" := by decide +kernel
    have k2 : Str.ofString "mys" ≠ Str.ofString "subs" := by decide +kernel
    have k3 : Str.ofString "uses" ≠ Str.ofString "subs" := by decide +kernel
    with_reducible refine EV.dict3 k1 k2 k3 ?_
    walk_at "go"
    refine ⟨Nat.le_of_ble_eq_true rfl, fun m hm => ?_⟩
    have f13 := Sub.fresh (o := .list []) hm
    have em13 : AH.put H12 m (.list []) m = some (.list []) := put_same
    generalize AH.put H12 m (.list []) = H13 at f13 em13
    walk_at "go"
    refine ⟨Nat.le_of_ble_eq_true rfl, fun u hu => ?_⟩
    have nmu : m ≠ u := fun z => by rw [z, hu] at em13; exact nsE em13
    have hu0 : H12 u = none := none_of_sub f13 hu
    have f14 := f13.trans (Sub.fresh (o := .list []) hu)
    have em14 := Sub.fresh (o := .list []) hu _ _ em13
    have eu14 : AH.put H13 u (.list []) u = some (.list []) := put_same
    generalize AH.put H13 u (.list []) = H14 at f14 em14 eu14
    clear f13 em13 hu H13
    walk_at "go"
    refine SubT.tup (f14 _ _ D1) (by decide) (x := .ref dc) rfl ?_ (by decide)
    walk_at "go"
    refine SubT.tup (f14 _ _ D1) (by decide) (x := .int ps'.size) rfl ?_ (by decide)
    walk_at "go"
    refine ⟨Nat.le_of_ble_eq_true rfl, fun t15 ht15 => ?_⟩
    have f15 := f14.trans (Sub.fresh (o := .tup [.int (-1), .ref dc, .int ps'.size]) ht15)
    have em15 := Sub.fresh (o := .tup [.int (-1), .ref dc, .int ps'.size]) ht15 _ _ em14
    have eu15 := Sub.fresh (o := .tup [.int (-1), .ref dc, .int ps'.size]) ht15 _ _ eu14
    have x15 : AH.put H14 t15 (.tup [.int (-1), .ref dc, .int ps'.size]) t15 = some (.tup [.int (-1), .ref dc, .int ps'.size]) := put_same
    generalize AH.put H14 t15 (.tup [.int (-1), .ref dc, .int ps'.size]) = H15 at f15 em15 eu15 x15
    clear f14 em14 eu14 ht15 H14
    walk_at "go"
    refine ⟨Nat.le_of_ble_eq_true rfl, fun b hb => ?_⟩
    have nmb : m ≠ b := fun z => by rw [z, hb] at em15; exact nsE em15
    have nub : u ≠ b := fun z => by rw [z, hb] at eu15; exact nsE eu15
    have ntb : t15 ≠ b := fun z => by rw [z, hb] at x15; exact nsE x15
    have ntm : t15 ≠ m := fun z => by rw [z, em15] at x15; cases x15
    have ntu : t15 ≠ u := fun z => by rw [z, eu15] at x15; cases x15
    have hb0 : H12 b = none := none_of_sub f15 hb
    have f16 := f15.trans (Sub.fresh (o := .list [.ref t15]) hb)
    have em16 := Sub.fresh (o := .list [.ref t15]) hb _ _ em15
    have eu16 := Sub.fresh (o := .list [.ref t15]) hb _ _ eu15
    have x16 := Sub.fresh (o := .list [.ref t15]) hb _ _ x15
    have eb16 : AH.put H15 b (.list [.ref t15]) b = some (.list [.ref t15]) := put_same
    generalize AH.put H15 b (.list [.ref t15]) = H16 at f16 em16 eu16 x16 eb16
    clear f15 em15 eu15 x15 hb H15
    walk_at "go"
    intro sd hsd
    have ndm : sd ≠ m := fun z => by rw [z, em16] at hsd; exact snE hsd
    have ndu : sd ≠ u := fun z => by rw [z, eu16] at hsd; exact snE hsd
    have ndb : sd ≠ b := fun z => by rw [z, eb16] at hsd; exact snE hsd
    have f17 := f16.trans (Sub.fresh (o := .dict (stD m u b)) hsd)
    have em17 := Sub.fresh (o := .dict (stD m u b)) hsd _ _ em16
    have eu17 := Sub.fresh (o := .dict (stD m u b)) hsd _ _ eu16
    have x17 := Sub.fresh (o := .dict (stD m u b)) hsd _ _ x16
    have eb17 := Sub.fresh (o := .dict (stD m u b)) hsd _ _ eb16
    have ed17 : AH.put H16 sd (.dict (stD m u b)) sd = some (.dict (stD m u b)) := put_same
    try with_reducible refine Nx.next ?_
    show SX _ _ _ _ _ _ (AH.put H16 sd (.dict (stD m u b))) _
    generalize AH.put H16 sd (.dict (stD m u b)) = H17 at f17 em17 eu17 x17 eb17 ed17
    clear f16 em16 eu16 x16 eb16 hsd H16
    have F17 : Sub H12 (fz (own3 m u b) H17) := fun x o h => fz_of (f17 _ _ h) (own3_of (fun z => by rw [z, hm] at h; exact nsE h) (fun z => by rw [z, hu0] at h; exact nsE h) (fun z => by rw [z, hb0] at h; exact nsE h))
    have W17 : WInv m u b H17 ⟨[], [], [(-1, ps'.caps, ps'.size)]⟩ :=
      ⟨nmu, nmb, nub, ⟨[], em17, rfl⟩, ⟨[], eu17, rfl⟩, ⟨[.ref t15], eb17, .ref t15, [], rfl, ⟨t15, dc, cs, rfl, fz_of x17 (own3_of ntm ntu ntb), F17 _ _ D3, D4.mono F17⟩, rfl⟩⟩
    have ed17' := fz_of ed17 (own3_of ndm ndu ndb)
    have g17 := F17 _ _ D1
    have he17 := F17 _ _ he12
    have hB17 := BlkR.mono _ _ _ _ F17 hB12
    have y17 := F17 _ _ y12
    have D17 : BlkD (evalS ts l).1 (fz (own3 m u b) H17) (fz (own3 m u b) H17) db := BlkD.mono _ _ _ _ _ _ F17 F17.t D2
    clear f17 em17 eu17 x17 eb17 ed17 F17 D1 D2 D3 D4 he12 hB12 y12 g12
    walk_at "go"
    refine SliceT.tup_upto (c := 2) (fz_some g17).1 (by simp) (by simp) fun n18 hn18 => ?_
    have W18 := W17.fresh (o := .tup [.str "subdef", .str ""]) hn18
    have S18 : Sub (fz (own3 m u b) H17) (fz (own3 m u b) (AH.put H17 n18 (.tup [.str "subdef", .str ""]))) := .new hn18
    have x18 : AH.put H17 n18 (.tup [.str "subdef", .str ""]) n18 = some (.tup [.str "subdef", .str ""]) := put_same
    show EV _ _ _ _ _ _ _ (AH.put H17 n18 (.tup [.str "subdef", .str ""])) _
    generalize AH.put H17 n18 (.tup [.str "subdef", .str ""]) = H18 at W18 S18 x18
    walk_at "go"
    refine ⟨Nat.le_of_ble_eq_true rfl, fun n19 hn19 => ?_⟩
    have W19 := W18.fresh (o := .tup [.str "subdef", .str ""]) hn19
    have S19 : Sub (fz (own3 m u b) H17) (fz (own3 m u b) (AH.put H18 n19 (.tup [.str "subdef", .str ""]))) := S18.trans (.new hn19)
    have y19 := Sub.fresh (o := .tup [.str "subdef", .str ""]) hn19 _ _ x18
    have x19 : AH.put H18 n19 (.tup [.str "subdef", .str ""]) n19 = some (.tup [.str "subdef", .str ""]) := put_same
    generalize AH.put H18 n19 (.tup [.str "subdef", .str ""]) = H19 at W19 S19 y19 x19
    refine Cmp.eq_data (da := .tuple [.str "subdef", .str ""]) (db := .tuple [.str "subdef", .str ""]) ⟨n18, _, rfl, y19, _, _, rfl, rfl, _, _, rfl, rfl, rfl⟩ ⟨n19, _, rfl, x19, _, _, rfl, rfl, _, _, rfl, rfl, rfl⟩ ?_ (by first | rfl | decide +kernel | simp [PyData.canLay0]) (by first | rfl | decide +kernel | simp [PyData.canLay0]) (by first | decide | rfl | decide +kernel | simp [PyData.depth]) (by (first | (simp +arith only; done) | lia | omega))
    rw [show PyData.eqv (.tuple [.str "subdef", .str ""]) (.tuple [.str "subdef", .str ""]) = true by decide +kernel]
    refine Tru.bool ?_
    refine pick_t ?_
    walk_at "go"
    refine SubT.tup (fz_some (S19 _ _ y17)).1 (by decide) (x := y) rfl ?_ (by decide)
    walk_at "go"
    refine SubT.tup (fz_some (S19 _ _ g17)).1 (by decide) (x := db) rfl ?_ (by decide)
    walk_at "go"
    have hnd : ((seenE l).map (·.1)).Nodup := by
      have := LS.nd
      simp only [seenE, List.map_map]
      exact this
    refine CallV.room (d' := 0 + 3 * deps ts + 8) ?_ (by (first | (simp +arith only; done) | lia | omega))
    have hbd : WBd ⟨[], [], [(-1, ps'.caps, ps'.size)]⟩ (cnts ts) := ⟨by simp; (first | (simp +arith only; done) | lia | omega), by simp; (first | (simp +arith only; done) | lia | omega), by simp; (first | (simp +arith only; done) | lia | omega)⟩
    refine sp_walk ts hw (evalS ts l).1 0 _ _ H19 m u b sd e y db (seenE l) ⟨[], [], [(-1, ps'.caps, ps'.size)]⟩ 0 e' v.ws _ W19 (S19 _ _ ed17') (BlkR.mono _ _ _ _ S19 hB17) (BlkD.mono _ _ _ _ _ _ S19 S19.t D17) (S19 _ _ he17) hnd hwk hbd (by (first | (simp +arith only; done) | lia | omega)) fun H20 W20 S20 => ?_
    refine Tru.bool ?_
    refine pick_t ?_
    walk_at "go"
    have hml := wStmts_mys hwk
    have hb2 := wStmts_bd (n := 0) hwk hbd
    have hmv : v.mys.length = v.ws.mys.length := by simp [VS.ws]
    have huv : v.uses.length = v.ws.uses.length := rfl
    have hsv : v.subs.length = v.ws.subs.length := rfl
    have hb2u : v.ws.uses.length + 2 * 0 ≤ 400 := hb2.u
    have hb2b : v.ws.subs.length + 0 ≤ 400 := hb2.b
    simp only [List.length_nil] at hml
    have F20 : NSub (fz (own3 m u b) H20) H20 := fun x o h _ => (fz_some h).1
    have SR20 : SR H20 sd m u b v.ws := by
      refine el1_2 W20.im ?_
      intro ms h1 r1
      refine el1_2 W20.iu ?_
      intro us h2 r2
      refine el1_2 W20.ib ?_
      intro bs h3 r3
      exact ⟨(fz_some (S20 _ _ (S19 _ _ ed17'))).1, ⟨ms, h1, r1.mono fun x y => mP.mono F20 x y⟩, ⟨us, h2, r2.mono fun x y => uP.mono F20 x y⟩, ⟨bs, h3, r3.mono fun x y => bP.mono F20 x y⟩⟩
    refine CallV.room (d' := 0 + 4) (sp_right (d := 0) fok SR20 (by (first | (simp +arith only; done) | lia | omega)) (by (first | (simp +arith only; done) | lia | omega)) (by (first | (simp +arith only; done) | lia | omega)) fun H21 => ?_) (by (first | (simp +arith only; done) | lia | omega))
    exact q _ _
end

/-! ## the join: what the written part of the heap says -/
noncomputable def refV : Option (Option Value) → Addr | some (some (.ref a)) => a | _ => 0
noncomputable def refAt (K : Frag) (x : Str) : Addr := refV (nsIn K mainGlobals x)
noncomputable def initAt (K : Frag) : Addr := refV (findIn K (.ref (refAt K "SubScope")) "__init__")
noncomputable def fdAt (K : Frag) (a : Addr) : Option FuncData := match K.lookup a with | some o => (match o.data with | .func fd => some fd | _ => none) | _ => none
noncomputable def pmAt (K : Frag) (a : Addr) : Value := match fdAt K a with | some fd => fd.pyModule | _ => .none
noncomputable def docAt (K : Frag) (a : Addr) : Value := match fdAt K a with | some fd => fd.doc | _ => .none
noncomputable def cdAt (K : Frag) (a : Addr) : Addr := match fdAt K a with | some fd => (match fd.code with | .ref c => c | _ => 0) | _ => 0
noncomputable def codeAt (K : Frag) (c : Addr) : Option Str := match K.lookup c with | some o => (match o.data with | .fields vs => (match vs[1]? with | some (Value.str q _) => some q | _ => none) | _ => none) | _ => none
noncomputable def tupAt (K : Frag) (a : Addr) : Option (List Value) := match K.lookup a with | some ⟨.type "tuple", _, .seq xs _, _⟩ => some xs.toList | _ => none
noncomputable def adOf (K : Frag) (scr : Addr) (ns : List Int) : Ads where
  fn := fun i => refAt K (fnName i)
  cls := refAt K "SubScope"
  init := initAt K
  keys := refAt K "_law_keys"
  forced := refAt K "FORCED"
  ends := refAt K "WORD_ENDS"
  res := refAt K "RESOLVERS"
  scr := scr
  ns := ns
noncomputable def refNames : List Str := ["SubScope", "_law_keys", "FORCED", "WORD_ENDS", "RESOLVERS"]
noncomputable def resNone : List Str := ["list", "anonsub", "bare"]
noncomputable def resHas : List Str := ["name", "my", "subdef", "block", "expr"]

noncomputable def DictK (K : Frag) (P : Params) (a : Addr) (kvs : List (Str × AV)) : Prop :=
  ∃ o es n, K.lookup a = some o ∧ o.ExactDict ∧ o.data = .dict es n ∧ es.toList.map (fun e => (e.hash, absV e.key, absV e.val)) = kvs.map fun x => (PyData.keyHash P x.1, AV.str x.1, x.2)
structure KFacts (K : Frag) (P : Params) : Prop where
  fnN : (fnList.map fun i => nsIn K mainGlobals (fnName i)) = fnList.map fun i => some (some (.ref (refAt K (fnName i))))
  refN : (refNames.map fun x => nsIn K mainGlobals x) = refNames.map fun x => some (some (.ref (refAt K x)))
  sign : ∃ t, nsIn K mainGlobals "NAME_SIGNS" = some (some (.str nameSigns t))
  blt : (builtinNames.map fun x => nsIn K mainGlobals x.1) = builtinNames.map fun _ => some none
  fnD : (fnList.map fun i => fdAt K (refAt K (fnName i))) = fnList.map fun i => some (Calls.docDef (fnName i) (fnParams i) (fnBody i) (fnScope i) (pmAt K (refAt K (fnName i))) (.ref (cdAt K (refAt K (fnName i)))) (docAt K (refAt K (fnName i))))
  fnC : (fnList.map fun i => codeAt K (cdAt K (refAt K (fnName i)))) = fnList.map fun i => some (fnName i)
  iniD : fdAt K (initAt K) = some { Calls.docDef (stName initSrc) (stParams initSrc) (stBody initSrc) (stScope initSrc) (pmAt K (initAt K)) (.ref (cdAt K (initAt K))) (docAt K (initAt K)) with qualname := "SubScope.__init__" }
  iniC : codeAt K (cdAt K (initAt K)) = some "SubScope.__init__"
  c1 : plainGet K (refAt K "SubScope") "blocks" = true
  c2 : hasDictIn K (refAt K "SubScope") = true
  c3 : (attrNames.map fun x => findIn K (.ref (refAt K "SubScope")) x) = attrNames.map fun _ => some Option.none
  c4 : findIn K (.ref (refAt K "SubScope")) "__setattr__" = some (some (.builtin "object.__setattr__"))
  c5 : plainOver K (refAt K "SubScope") = true
  c6 : (attrNames.map fun x => takerIn K (refAt K "SubScope") x) = attrNames.map fun _ => some Option.none
  c7 : makesIn K (refAt K "SubScope") = true
  c8 : findIn K (.ref (refAt K "SubScope")) "__init__" = some (some (.ref (initAt K)))
  c9 : typeIn K (.ref (initAt K)) = some (.type "function")
  c10 : keepIn K (.ref (refAt K "SubScope")) = true
  forced : (tupAt K (refAt K "FORCED")).map (·.map absV) = some (forcedL.map .str)
  keys : (tupAt K (refAt K "_law_keys")).map (·.map absV) = some (keysL.map .str)
  ends : DictK K P (refAt K "WORD_ENDS") endsL
  res : ∃ l, DictK K P (refAt K "RESOLVERS") l ∧ (l.map (·.1)).Nodup ∧ (∀ x ∈ resNone, kvGet l x = none) ∧ ∀ x ∈ resHas, kvGet l x = kvGet (resL (adOf K 0 [])) x
  low : (refAt K "RESOLVERS" == sysModules) = false

theorem map_at {α β : Type} {f g : α → β} {l : List α} (h : l.map f = l.map g) : ∀ x ∈ l, f x = g x := List.map_inj_left.mp h
theorem dict_in {K : Frag} {w : World} {h : Heap} {a : Addr} {kvs : List (Str × AV)} (X : K.In h) (e : DictK K w.params a kvs) (hn : (kvs.map (·.1)).Nodup) : Holds w h a (.dict kvs) := by
  refine el3_4 e ?_
  try clear e
  intro o es n e1 e2 e3 e4
  have key : ∀ (l : List DictEntry) (m : List (Str × AV)), l.map (fun e => (e.hash, absV e.key, absV e.val)) = m.map (fun x => (PyData.keyHash w.params x.1, AV.str x.1, x.2)) →
      ∃ vs : List (Str × Value), Pairs (sk w) l vs ∧ vs.map (fun p => (p.1, absV p.2)) = m ∧ ∀ e ∈ l, ∃ k, (sk w).is k e.key = true ∧ e.hash = (sk w).hash k := by
    intro l
    induction l with
    | nil =>
      intro m h
      cases m with
      | nil => exact in1_3 ([]) (.nil) rfl (fun e he => absurd he List.not_mem_nil)
      | cons _ _ => simp at h
    | cons e l ih =>
      intro m h
      cases m with
      | nil => simp at h
      | cons x m =>
        simp only [List.map_cons, List.cons.injEq, Prod.mk.injEq] at h
        refine el0_2 h ?_
        try clear h
        intro hE1 h4
        refine el0_3 hE1 ?_
        try clear hE1
        intro h1 h2 h3
        refine el1_3 (ih m h4) ?_
        intro vs a1 a2 a3
        refine el1_1 (absV_str h2) ?_
        intro t ht
        have hk : (sk w).is x.1 e.key = true := by rw [ht]; exact strKind_is prog w x.1 t
        refine in1_3 ((x.1, e.val) :: vs) (.cons hk rfl a1) (by simp only [List.map_cons, a2, h3]) (fun e' he' => ?_)
        rcases List.mem_cons.mp he' with rfl | he'
        · exact in1_2 x.1 hk (h1.trans rfl)
        · exact a3 e' he'
  refine el1_3 (key _ _ e4) ?_
  intro vs a1 a2 a3
  refine ⟨vs, ⟨o, es, n, X _ _ e1, e2, e3, fun e he => a3 e (Array.mem_toList_iff.mpr he), a1, ?_⟩, a2⟩
  rw [← a2, List.map_map] at hn
  exact hn
theorem tup_in {K : Frag} {w : World} {h : Heap} {a : Addr} {xs : List AV} (X : K.In h) (e : (tupAt K a).map (·.map absV) = some xs) : Holds w h a (.tup xs) := by
  refine el1_2 (Option.map_eq_some_iff.mp e) ?_
  intro vs h1 h2
  unfold tupAt at h1
  split at h1
  · rename_i x d ys n sl hl
    (have hE0 := Option.some.inj h1; subst hE0; clear h1)
    exact in1_2 ys.toList (⟨_, X _ _ hl, rfl, n, by simp⟩) h2
  · exact nsE h1
theorem fd_in {K : Frag} {h : Heap} {a : Addr} {fd : FuncData} (X : K.In h) (e : fdAt K a = some fd) : ∃ o, h.get? a = some o ∧ o.data = .func fd := by
  unfold fdAt at e
  split at e
  · rename_i o ho
    split at e
    · rename_i fd' hd; (have hE0 := Option.some.inj e; subst hE0; clear e); exact in1_2 o (X _ _ ho) hd
    · exact nsE e
  · exact nsE e
theorem code_in {K : Frag} {h : Heap} {c : Addr} {q : Str} (X : K.In h) (e : codeAt K c = some q) : CodeB (fun b => h.get? b) (.ref c) q := by
  unfold codeAt at e
  split at e
  · rename_i o ho
    split at e
    · rename_i vs hd
      split at e
      · rename_i q' t hq; (have hE0 := Option.some.inj e; subst hE0; clear e); exact in4_4 c o vs t rfl (X _ _ ho) hd hq
      · exact nsE e
    · exact nsE e
  · exact nsE e
theorem gx_of {K : Frag} {w : World} {p : Program} {loose : List Str} {mean : ExcName → Option Value} {mg mb : Str → Option Value} {h : Heap} (T : Top p loose mean mg mb h) (seer : h.NoSeer) (X : K.In h) (kf : KFacts K w.params)
    {pa : Addr} {vs : List Value} {ns : List Int} (hL : h.IsList pa vs.toArray) (hI : IntsAre vs ns) : Gx (adOf K pa ns) w (fun b => h.get? b) := by
  have inb : ∀ {a : Addr} {ao : AO}, (∀ h' : Heap, (∀ b o, h.get? b = some o → h'.get? b = some o) → Holds w h' a ao) → InB w (fun b => h.get? b) a ao := fun f h' k => f h' k
  have xk : ∀ {h' : Heap}, (∀ b o, h.get? b = some o → h'.get? b = some o) → K.In h' := fun k a o e => k _ _ (X a o e)
  refine ⟨⟨mg, mb, T.g, T.b, fun x v hv => ?_⟩, T.nolimit, fun i hi => ?_, ?_, ⟨K, X, ?_⟩, ?_, ?_, ?_, ?_, ?_, kf.low, ?_⟩
  · unfold gval at hv
    split at hv
    · rename_i i hi
      (have hE0 := Option.some.inj hv; subst hE0; clear hv)
      have hm := List.mem_of_find?_eq_some hi
      have hx : fnName i = x := by simpa using List.find?_some hi
      subst hx
      exact in1_2 _ rfl (.inl (mg_of X T.g (map_at kf.fnN i hm)))
    · split at hv
      · rename_i v' hl
        have hvv := Option.some.inj hv
        subst hvv
        have ref : ∀ y ∈ refNames, mg y = some (.ref (refAt K y)) := fun y hy => mg_of X T.g (map_at kf.refN y hy)
        have : (x, v') ∈ ([("SubScope", AV.ref (adOf K pa ns).cls), ("_law_keys", AV.ref (adOf K pa ns).keys), ("FORCED", AV.ref (adOf K pa ns).forced), ("WORD_ENDS", AV.ref (adOf K pa ns).ends), ("RESOLVERS", AV.ref (adOf K pa ns).res), ("NAME_SIGNS", AV.str nameSigns)] : List (Str × AV)) := by
          generalize ([("SubScope", AV.ref (adOf K pa ns).cls), ("_law_keys", AV.ref (adOf K pa ns).keys), ("FORCED", AV.ref (adOf K pa ns).forced), ("WORD_ENDS", AV.ref (adOf K pa ns).ends), ("RESOLVERS", AV.ref (adOf K pa ns).res), ("NAME_SIGNS", AV.str nameSigns)] : List (Str × AV)) = L at hl
          induction L with
          | nil => exact nsE hl
          | cons y L ih =>
            refine hide fun PZ kZ => ?_
            obtain ⟨y1, y2⟩ := y
            refine kZ ?_
            clear kZ PZ
            simp only [List.lookup] at hl
            split at hl
            · rename_i q; (have hE0 := Option.some.inj hl; subst hE0; clear hl); rw [beq_iff_eq.mp q]; exact .head _
            · exact .tail _ (ih hl)
        simp only [List.mem_cons, Prod.mk.injEq, List.not_mem_nil, or_false] at this
        rcases this with ⟨rfl, rfl⟩ | ⟨rfl, rfl⟩ | ⟨rfl, rfl⟩ | ⟨rfl, rfl⟩ | ⟨rfl, rfl⟩ | ⟨rfl, rfl⟩
        · exact in1_2 _ rfl (.inl (ref _ (by simp [refNames])))
        · exact in1_2 _ rfl (.inl (ref _ (by simp [refNames])))
        · exact in1_2 _ rfl (.inl (ref _ (by simp [refNames])))
        · exact in1_2 _ rfl (.inl (ref _ (by simp [refNames])))
        · exact in1_2 _ rfl (.inl (ref _ (by simp [refNames])))
        · refine el1_1 kf.sign ?_
          intro t ht
          exact in1_2 (.str nameSigns t) rfl (.inl (mg_of X T.g ht))
      · refine el1_2 (Option.map_eq_some_iff.mp hv) ?_
        intro u hu hE1
        obtain rfl := hE1
        have hm : (x, u) ∈ builtinNames := by
          generalize builtinNames = L at hu
          induction L with
          | nil => exact nsE hu
          | cons y L ih =>
            refine hide fun PZ kZ => ?_
            obtain ⟨y1, y2⟩ := y
            refine kZ ?_
            clear kZ PZ
            simp only [List.lookup] at hu
            split at hu
            · rename_i q; (have hE0 := Option.some.inj hu; subst hE0; clear hu); rw [beq_iff_eq.mp q]; exact .head _
            · exact .tail _ (ih hu)
        have hb : builtinNames.all (fun y => (bootBuiltins y.1 == some y.2) && decide (y.1 ≠ ("__name__" : Str)) && (match y.2 with | .builtin _ => true | .type _ => true | _ => false)) = true := by decide +kernel
        have := List.all_eq_true.mp hb _ hm
        simp only [Bool.and_eq_true, beq_iff_eq, decide_eq_true_eq] at this
        refine el0_2 this ?_
        try clear this
        intro hE1 h3
        refine el0_2 hE1 ?_
        try clear hE1
        intro h1 h2
        refine in1_2 u ?_ (.inr ⟨mg_none_of X T.g (map_at kf.blt _ hm), (T.builtins x h2).trans h1⟩)
        cases u <;> first | rfl | exact ftE h3
  · refine el1_2 (fd_in X (map_at kf.fnD i hi)) ?_
    intro o h1 h2
    exact ⟨o, _, _, _, h1, h2, code_in X (map_at kf.fnC i hi)⟩
  · refine el1_2 seer.mods ?_
    intro mm hE1 _
    refine el3_2 hE1 ?_
    try clear hE1
    intro o es ep h1 _
    exact ⟨o, h1⟩
  · exact ⟨kf.c1, kf.c2, map_at kf.c3, kf.c4, kf.c5, map_at kf.c6, kf.c7, kf.c8, kf.c9, kf.c10⟩
  · refine el1_2 (fd_in X kf.iniD) ?_
    intro o h1 h2
    exact in4_3 o _ _ _ h1 h2 (code_in X kf.iniC)
  · exact inb fun h' k => tup_in (xk k) kf.forced
  · exact inb fun h' k => dict_in (w := w) (xk k) kf.ends (by decide)
  · exact inb fun h' k => tup_in (xk k) kf.keys
  · refine el1_4 kf.res ?_
    intro l l1 l2 l3 l4
    refine ⟨l, inb fun h' k => dict_in (w := w) (xk k) l1 l2, fun x v hv => ?_, l3⟩
    have hx : x ∈ resHas := by
      unfold resL at hv
      simp only [kvGet] at hv
      unfold resHas
      by_cases e1 : x = "name"
      · simp [e1]
      · by_cases e2 : x = "my"
        · simp [e2]
        · by_cases e3 : x = "subdef"
          · simp [e3]
          · by_cases e4 : x = "block"
            · simp [e4]
            · by_cases e5 : x = "expr"
              · simp [e5]
              · rw [if_neg (Ne.symm e1), if_neg (Ne.symm e2), if_neg (Ne.symm e3), if_neg (Ne.symm e4), if_neg (Ne.symm e5)] at hv
                exact nsE hv
    exact (l4 x hx).trans hv
  · refine inb fun h' k => ⟨vs, ?_, ints_map hI⟩
    refine el1_2 hL ?_
    try clear hL
    intro o e r
    exact in1_2 o (k _ _ e) r

theorem join {K : Frag} {w : World} {p : Program} {loose : List Str} {mean : ExcName → Option Value} {mg mb : Str → Option Value} {s : Shared} {h₀ : Heap} (T : Top p loose mean mg mb h₀) (seer : h₀.NoSeer) (X : K.In h₀) (kf : KFacts K w.params)
    {pa fa : Addr} {cd : Value} {name : Str} {vs : List Value} {ns : List Int} (hL : h₀.IsList pa vs.toArray) (hI : IntsAre vs ns) (hl : ns.length ≤ 63)
    (F : Fr h₀ h₀.objs.size s.heap (fun x => List.lookup x [("script", Value.ref pa)])) {Q : Flow → Shared → Prop} {E : Value → Shared → Prop}
    (q : ∀ h' k' m, Fr h₀ h₀.objs.size h' m → Q (.ret (.bool true)) { s with heap := h', toks := k' }) :
    wpAny (model prog w) (callerA.deeper (envOf name (fnScope 53) h₀.objs.size fa cd)) (execs (fnBody 53) (envOf name (fnScope 53) h₀.objs.size fa cd)) Q E s := by
  have G := gx_of T seer X kf hL hI
  have nocell : ∀ x, (envOf name (fnScope 53) h₀.objs.size fa cd).kindOf x ≠ some .cell := fun x hx => by
    have key : (fnScope 53).names.all (fun y => y.2 != .cell) = true := by decide +kernel
    have hx' : (fnScope 53).names.lookup x = some .cell := hx
    generalize (fnScope 53).names = L at key hx'
    induction L with
    | nil => exact nsE hx'
    | cons y L ih =>
      refine hide fun PZ kZ => ?_
      obtain ⟨y1, y2⟩ := y
      refine kZ ?_
      clear kZ PZ
      simp only [List.all_cons, Bool.and_eq_true] at key
      simp only [List.lookup] at hx'
      split at hx'
      · (have hE0 := Option.some.inj hx'; subst hE0; clear hx'); exact absurd key.1 (by decide)
      · exact ih key.2 hx'
  have R : Rep w (fun b => h₀.get? b) (envOf name (fnScope 53) h₀.objs.size fa cd) s.heap (Loc.set Loc.nil "script" (.ref (adOf K pa ns).scr)) (fun _ => none) := by
    refine ⟨⟨_, F.ns, fun x _ => ?_⟩, fun x hx => absurd hx (nocell x), nofun, nofun, F.keep, get_none_of_le (Nat.le_refl _), fun _ x c hx => absurd hx (nocell x), fun x y c hx => absurd hx (nocell x)⟩
    unfold Loc.set
    by_cases h : x = "script"
    · subst h; rfl
    · rw [if_neg h]
      have : (x == ("script" : Str)) = false := beq_eq_false_iff_ne.mpr h
      simp only [List.lookup, this]
      rfl
  have e : EnvIs (fnScope 53) (envOf name (fnScope 53) h₀.objs.size fa cd) := ⟨rfl, rfl, rfl, rfl, fun _ => rfl⟩
  have r : Room (callerA.deeper (envOf name (fnScope 53) h₀.objs.size fa cd)) 200 := ⟨rfl, by show 1 + claimMargin + 1 + 200 < recursionLimit; decide, by show 4 + 3 + 20 * 200 < cLine; decide⟩
  refine wpAny_mono ((sp_law (ad := adOf K pa ns) (d := 0) (H := fun _ => none) (Q := fun f _ _ => f = .ret (.bool true)) hl fun _ _ => rfl) _ _ _ s r G e R) (fun v s' hq => ?_) fun _ _ z => z.elim
  refine el4_3 hq ?_
  try clear hq
  intro h' k' loc' H' hE1 R' hv
  obtain rfl := hE1
  have : v = .ret (.bool true) := by
    cases v with
    | ret u => simp only [absF, AF.ret.injEq] at hv; rw [absV_bool hv]
    | _ => cases hv
  subst this
  refine el1_2 R'.ns ?_
  intro m hm _
  exact q h' k' m ⟨hm, R'.keep, Nat.le_refl _⟩

/-! ## the hook: the heap's facts as one look -/
noncomputable def frGo (h : Heap) : Nat → Frag
  | 0 => []
  | n + 1 => match h.get? n with
    | some o => (n, o) :: frGo h n
    | none => frGo h n
theorem frGo_in {h : Heap} : ∀ n, Frag.In (frGo h n) h
  | 0, a, o, e => by exact nsE e
  | n + 1, a, o, e => by
    unfold frGo at e
    split at e
    · rename_i ob ho
      simp only [List.lookup] at e
      split at e
      · rename_i q; (have hE0 := Option.some.inj e; subst hE0; clear e); rw [beq_iff_eq.mp q]; exact ho
      · exact frGo_in n a o e
    · exact frGo_in n a o e
noncomputable def isRef : Option (Option Value) → Bool
  | some (some (.ref _)) => true
  | _ => false
noncomputable def isNo : Option (Option Value) → Bool
  | some none => true
  | _ => false
noncomputable def isSign : Option (Option Value) → Bool
  | some (some (.str s _)) => s == nameSigns
  | _ => false
noncomputable def ers (fd : FuncData) : FuncData := { fd with pyModule := .none, code := .none, doc := .none }
noncomputable def isCd (x : Option FuncData) : Bool := match x with | some fd => (match fd.code with | .ref _ => true | _ => false) | none => false
noncomputable def isHere (n : Addr) : Option AV → Bool
  | some (.ref a) => a == n
  | _ => false
noncomputable def kOf (e : DictEntry) : Str := match e.key with | .str k _ => k | _ => ""
noncomputable def esAt (K : Frag) (a : Addr) : List DictEntry := match K.lookup a with | some o => (match o.data with | .dict es _ => es.toList | _ => []) | none => []
noncomputable def shAt (K : Frag) (a : Addr) : Option (Value × Option Addr × Array (Option Value) × Bool) := (K.lookup a).map fun o => (o.cls, o.dict, o.slots, match o.data with | .dict _ _ => true | _ => false)
noncomputable def resAV (K : Frag) : List (Str × AV) := (esAt K (refAt K "RESOLVERS")).map fun e => (kOf e, absV e.val)
noncomputable def resTab : List (Str × Nat) := [("name", 21), ("my", 23), ("subdef", 29), ("block", 30), ("expr", 31)]
noncomputable def resKeys : List Str := ["name", "my", "our", "local", "sort", "evalstr", "subdef", "block", "expr", "if", "while", "cfor", "foreach", "package"]
noncomputable def chkK (K : Frag) : Bool :=
  (fnList.all fun i => isRef (nsIn K mainGlobals (fnName i))) && ((refNames.all fun x => isRef (nsIn K mainGlobals x)) && (isSign (nsIn K mainGlobals "NAME_SIGNS") && ((builtinNames.all fun x => isNo (nsIn K mainGlobals x.1)) &&
  ((fnList.all fun i => isCd (fdAt K (refAt K (fnName i)))) && (isCd (fdAt K (initAt K)) && (isRef (findIn K (.ref (refAt K "SubScope")) "__init__") && (plainGet K (refAt K "SubScope") "blocks" && (hasDictIn K (refAt K "SubScope") &&
  (plainOver K (refAt K "SubScope") && (makesIn K (refAt K "SubScope") && (keepIn K (.ref (refAt K "SubScope")) && (!(refAt K "RESOLVERS" == sysModules) && ((resTab.all fun x => isHere (refAt K (fnName x.2)) (kvGet (resAV K) x.1)) &&
  (resNone.all fun x => (kvGet (resAV K) x).isNone))))))))))))))
noncomputable abbrev ObsT := Bool × List (Option FuncData) × List (Option Str) × Option FuncData × Option Str × List (Option (Option Value)) × Option (Option Value) × List (Option (Option Value)) × Option Value × Option (List AV) × Option (List AV) ×
  Option (Value × Option Addr × Array (Option Value) × Bool) × List (Int × AV × AV) × Option (Value × Option Addr × Array (Option Value) × Bool) × List (Int × AV)
noncomputable def obsK (K : Frag) : ObsT :=
  (chkK K, (fnList.map fun i => (fdAt K (refAt K (fnName i))).map ers), (fnList.map fun i => codeAt K (cdAt K (refAt K (fnName i)))), (fdAt K (initAt K)).map ers, codeAt K (cdAt K (initAt K)),
    (attrNames.map fun x => findIn K (.ref (refAt K "SubScope")) x), findIn K (.ref (refAt K "SubScope")) "__setattr__", (attrNames.map fun x => takerIn K (refAt K "SubScope") x), typeIn K (.ref (initAt K)),
    (tupAt K (refAt K "FORCED")).map (·.map absV), (tupAt K (refAt K "_law_keys")).map (·.map absV),
    shAt K (refAt K "WORD_ENDS"), (esAt K (refAt K "WORD_ENDS")).map (fun e => (e.hash, absV e.key, absV e.val)), shAt K (refAt K "RESOLVERS"), (esAt K (refAt K "RESOLVERS")).map (fun e => (e.hash, absV e.key)))
noncomputable def valK (P : Params) : ObsT :=
  (true, (fnList.map fun i => some (Calls.docDef (fnName i) (fnParams i) (fnBody i) (fnScope i) .none .none .none)), (fnList.map fun i => some (fnName i)),
    some { Calls.docDef (stName initSrc) (stParams initSrc) (stBody initSrc) (stScope initSrc) .none .none .none with qualname := "SubScope.__init__" }, some "SubScope.__init__",
    (attrNames.map fun _ => some Option.none), some (some (.builtin "object.__setattr__")), (attrNames.map fun _ => some Option.none), some (.type "function"),
    some (forcedL.map .str), some (keysL.map .str),
    some (.type "dict", none, #[], true), (endsL.map fun x => (PyData.keyHash P x.1, AV.str x.1, x.2)), some (.type "dict", none, #[], true), (resKeys.map fun x => (PyData.keyHash P x, AV.str x)))

theorem isRef_some {y : Option (Option Value)} (h : isRef y = true) : y = some (some (.ref (refV y))) := by
  cases y with
  | none => exact ftE h
  | some y =>
    cases y with
    | none => exact ftE h
    | some v => cases v <;> first | rfl | exact ftE h
theorem isRef_of {K : Frag} {x : Str} (h : isRef (nsIn K mainGlobals x) = true) : nsIn K mainGlobals x = some (some (.ref (refAt K x))) := by
  unfold refAt
  generalize nsIn K mainGlobals x = y at h
  exact isRef_some h
theorem isRef_init {K : Frag} (h : isRef (findIn K (.ref (refAt K "SubScope")) "__init__") = true) : findIn K (.ref (refAt K "SubScope")) "__init__" = some (some (.ref (initAt K))) := by
  unfold initAt
  generalize findIn K (.ref (refAt K "SubScope")) "__init__" = y at h
  exact isRef_some h
theorem isNo_of {x : Option (Option Value)} (h : isNo x = true) : x = some none := by
  cases x with
  | none => exact ftE h
  | some x =>
    cases x with
    | none => rfl
    | some x => exact ftE h
theorem isSign_of {x : Option (Option Value)} (h : isSign x = true) : ∃ t, x = some (some (.str nameSigns t)) := by
  cases x with
  | none => exact ftE h
  | some x =>
    cases x with
    | none => exact ftE h
    | some v =>
      cases v with
      | str s t => exact ⟨t, by rw [beq_iff_eq.mp (show (s == nameSigns) = true from h)]⟩
      | _ => exact ftE h
theorem fd_of {K : Frag} {a : Addr} {n q : Str} {p : Arguments} {b : List Stmt} {sc : Scope} (h : (fdAt K a).map ers = some { Calls.docDef n p b sc .none .none .none with qualname := q }) (hc : isCd (fdAt K a) = true) :
    fdAt K a = some { Calls.docDef n p b sc (pmAt K a) (.ref (cdAt K a)) (docAt K a) with qualname := q } := by
  unfold pmAt cdAt docAt
  generalize fdAt K a = y at h hc
  match y, h, hc with
  | some fd, h, hc =>
    simp only [Option.map_some, Option.some.injEq] at h
    have hcd : ∃ c, fd.code = .ref c := by
      unfold isCd at hc
      simp only at hc
      split at hc
      · rename_i c e; exact ⟨c, e⟩
      · exact ftE hc
    refine el1_1 hcd ?_
    try clear hcd
    intro c hcd
    simp only [hcd]
    refine hide fun PZ kZ => ?_
    obtain ⟨f1, f2, f3, f4, f5, f6, f7, f8, f9, f10, f11, f12, f13, f14, f15⟩ := fd
    refine kZ ?_
    clear kZ PZ
    simp only [ers, Calls.docDef, FuncData.mk.injEq] at h hcd ⊢
    simp only [Option.some.injEq, FuncData.mk.injEq]
    simp_all
theorem dictK_of {K : Frag} {P : Params} {a : Addr} {kvs : List (Str × AV)} (h : shAt K a = some (.type "dict", none, #[], true)) (e : (esAt K a).map (fun e => (e.hash, absV e.key, absV e.val)) = kvs.map fun x => (PyData.keyHash P x.1, AV.str x.1, x.2)) : DictK K P a kvs := by
  unfold shAt at h
  unfold esAt at e
  unfold DictK
  generalize K.lookup a = y at h e
  match y, h, e with
  | some o, h, e =>
    simp only [Option.map_some, Option.some.injEq, Prod.mk.injEq] at h
    refine el0_4 h ?_
    try clear h
    intro h1 h2 h3 h4
    cases hd : o.data with
    | dict es n =>
      simp only [hd] at e
      exact in3_4 o es n rfl (⟨h1, h2, h3⟩) hd e
    | _ => rw [hd] at h4; exact ftE h4
theorem keys_of {P : Params} : ∀ {es : List DictEntry} {ks : List Str}, es.map (fun e => (e.hash, absV e.key)) = ks.map (fun x => (PyData.keyHash P x, AV.str x)) →
    es.map (fun e => (e.hash, absV e.key, absV e.val)) = (es.map fun e => (kOf e, absV e.val)).map (fun x => (PyData.keyHash P x.1, AV.str x.1, x.2)) ∧ (es.map fun e => (kOf e, absV e.val)).map (·.1) = ks
  | [], [], _ => ⟨rfl, rfl⟩
  | [], _ :: _, h => by simp at h
  | _ :: _, [], h => by simp at h
  | e :: es, k :: ks, h => by
    simp only [List.map_cons, List.cons.injEq, Prod.mk.injEq] at h ⊢
    refine el0_2 h ?_
    try clear h
    intro hE1 h3
    refine el0_2 hE1 ?_
    try clear hE1
    intro h1 h2
    refine el0_2 (keys_of h3) ?_
    intro a1 a2
    refine el1_1 (absV_str h2) ?_
    intro t ht
    have hk : kOf e = k := by unfold kOf; rw [ht]
    rw [hk]
    exact in0_3 (⟨⟨h1, h2, trivial⟩, a1⟩) rfl a2
theorem all_at {α : Type} {f : α → Bool} {l : List α} (h : l.all f = true) : ∀ x ∈ l, f x = true := List.all_eq_true.mp h
theorem map_all {α β : Type} {f g : α → β} {l : List α} (h : ∀ x ∈ l, f x = g x) : l.map f = l.map g := List.map_inj_left.mpr h
theorem kfacts_of {K : Frag} {P : Params} (h : obsK K = valK P) : KFacts K P := by
  unfold obsK valK at h
  simp only [Prod.mk.injEq] at h
  refine el0_15 h ?_
  try clear h
  intro o0 o1 o2 o3 o4 o5 o6 o7 o8 o9 o10 o11 o12 o13 o14
  unfold chkK at o0
  simp only [Bool.and_eq_true] at o0
  refine el0_15 o0 ?_
  try clear o0
  intro b1 b2 b3 b4 b5 b6 b7 b8 b9 b10 b11 b12 b13 b14 b15
  refine el0_2 (keys_of o14) ?_
  intro k1 k2
  refine ⟨map_all fun i hi => isRef_of (all_at b1 i hi), map_all fun x hx => isRef_of (all_at b2 x hx), isSign_of b3, map_all fun x hx => isNo_of (all_at b4 x hx), map_all fun i hi => ?_, o2, ?_, o4, b8, b9, o5, o6, b10, o7, b11, isRef_init b7, o8, b12, o9, o10, dictK_of o11 o12, ⟨resAV K, dictK_of o13 k1, ?_, fun x hx => Option.isNone_iff_eq_none.mp (all_at b15 x hx), fun x hx => ?_⟩, by simpa using b13⟩
  · exact fd_of (map_at o1 i hi) (all_at b5 i hi)
  · exact fd_of o3 b6
  · unfold resAV; rw [k2]; decide
  · have tab : ∀ (i : Nat), (x, i) ∈ resTab → kvGet (resAV K) x = some (.ref (refAt K (fnName i))) := fun i hi => by
      have := all_at b14 _ hi
      generalize kvGet (resAV K) x = y at this
      cases y with
      | none => exact ftE this
      | some y =>
        cases y with
        | ref a => rw [beq_iff_eq.mp (show (a == _) = true from this)]
        | _ => exact ftE this
    simp only [resHas, List.mem_cons, List.not_mem_nil, or_false] at hx
    rcases hx with rfl | rfl | rfl | rfl | rfl
    · exact tab 21 (by decide)
    · exact tab 23 (by decide)
    · exact tab 29 (by decide)
    · exact tab 30 (by decide)
    · exact tab 31 (by decide)
noncomputable def nObj : Nat := 357
noncomputable def hook : Hook where
  α := ObsT
  obs := fun s => obsK (frGo s.heap nObj)
  val := fun w => valK w.params
  says := fun w h => ∃ K : Frag, K.In h ∧ KFacts K w.params
  of := fun w s e => ⟨_, frGo_in _, kfacts_of e⟩
  keeps := fun w h h' ⟨K, a, b⟩ k => ⟨K, a.keeps k, b⟩

set_option maxHeartbeats 0
noncomputable def q0 : Program := PySem.W.view prog [53]
noncomputable def loo : List Str := (prog.main.scope.names.map (·.1)).filter fun x => !(x == ("law" : Str))
noncomputable abbrev rr : OpenRow := PySem.Challenge.rw_pc0239_01.row
noncomputable abbrev xt : Shared → Bool := fun s => xlAt q0 [] s && recOk (RowW.records rr.toRowW) s
noncomputable abbrev s0 (w : World) (os : OsState) : Shared := ⟨boot_heap w.params, Array.mk [], boot_drawn, boot_toks, os⟩
theorem leftF (w : World) (os : OsState) : ((topFrom treeTable prog (w.withFollow "special-get-raises" false) 2600 (s0 w os)).map fun s => (openSeen q0 loo (importedModules prog.main.body) xt true s, hook.obs s)) = some (openGood q0 loo, hook.val (w.withFollow "special-get-raises" false)) := by
  unfold topFrom
  rw [Fast.te14082659384304107361, Fast.te14364793385576792824, Fast.te4187177175401517315]
  kernel_rfl
theorem leftT (w : World) (os : OsState) : ((topFrom treeTable prog (w.withFollow "special-get-raises" true) 2600 (s0 w os)).map fun s => (openSeen q0 loo (importedModules prog.main.body) xt true s, hook.obs s)) = some (openGood q0 loo, hook.val (w.withFollow "special-get-raises" true)) := by
  unfold topFrom
  rw [Fast.te14082659384304107361, Fast.te14364793385576792824, Fast.te4187177175401517315]
  kernel_rfl
theorem left_of {p q : Program} {loose : List Str} {Xt : Shared → Bool} {α : Type} {Yf : Shared → α} {Ya : World → α} {N : Nat} {H₀ : Params → Heap} {gs₀ : Array GenState} {d₀ : Drawn} {k₀ : Nat} (row : String)
    (open_ : ∀ w : World, (fencedOpening treeTable p w N).map (fun s => (s.heap, s.gens, s.drawn, s.toks)) = some (H₀ w.params, gs₀, d₀, k₀))
    (hF : ∀ (w : World) (os : OsState), ((topFrom treeTable p (w.withFollow row false) N ⟨H₀ w.params, gs₀, d₀, k₀, os⟩).map fun s => (openSeen q loose (importedModules p.main.body) Xt true s, Yf s)) = some (openGood q loose, Ya (w.withFollow row false)))
    (hT : ∀ (w : World) (os : OsState), ((topFrom treeTable p (w.withFollow row true) N ⟨H₀ w.params, gs₀, d₀, k₀, os⟩).map fun s => (openSeen q loose (importedModules p.main.body) Xt true s, Yf s)) = some (openGood q loose, Ya (w.withFollow row true))) : LeftO p q loose Xt Yf Ya N := LeftO.of_split row fun w => by
  refine el1_2 (Option.map_eq_some_iff.mp (open_ w)) ?_
  intro hE1 e e'
  refine hide fun PZ kZ => ?_
  obtain ⟨hp, gs, d, k, os⟩ := hE1
  refine kZ ?_
  clear kZ PZ
  obtain ⟨rfl, rfl, rfl, rfl⟩ : hp = H₀ w.params ∧ gs = gs₀ ∧ d = d₀ ∧ k = k₀ := by simpa using e'
  rw [e, Option.map_some, hF w os, hT w os]
theorem left : LeftO prog q0 loo xt hook.obs hook.val 2600 :=
  left_of (H₀ := boot_heap) (gs₀ := Array.mk []) (d₀ := boot_drawn) (k₀ := boot_toks) "special-get-raises" (boot_open (p := prog) (N := 2600) (by kernel_rfl) (by rfl) (fun s => by kernel_rfl)) leftF leftT
noncomputable def ddPos : Pos := match srcSt 53 with | .FunctionDef _ _ _ _ _ _ _ _ _ p => p | _ => default
noncomputable def dd : DefRec := ⟨fnName 53, fnParams 53, fnBody 53, fnScope 53, ddPos⟩
theorem said0 : PySem.Challenge.rw_pc0239_01.wellSaid = true := by
  rw [Fast.te9446332074065402090]
  kernel_rfl
theorem head (call : WalkO q0 loo (XL q0 []) hook.says rr.toRowW dd [] (fun f vs => PySem.call f vs)) : PySem.Challenge.rw_pc0239_01.Holds :=
  holds_law said0 fun said => holds_open (q := q0) (loose := loo) (Xt := xt) (XP := XL q0 []) (Yf := hook.obs) (Ya := hook.val) (YP := hook.says) (N := 2600) (d := dd) (kwd := []) (show LeftO rr.prog q0 loo xt hook.obs hook.val 2600 from left) hook.of hook.keeps (fun s e => xl_of s (Bool.and_eq_true_iff.mp e).1) XL.keeps
    (by kernel_rfl) (by kernel_rfl) (by kernel_rfl) (fun s e => recFacts_of (Bool.and_eq_true_iff.mp e).2) (by rfl) said (by kernel_rfl) ⟨rfl, rfl, rfl, rfl, rfl, by decide +kernel⟩ ⟨[.list [.int 3, .int 1]], by decide +kernel, by decide +kernel⟩ call

theorem walk0 : WalkO q0 loo (XL q0 []) hook.says rr.toRowW dd [] (fun f vs => PySem.call f vs) := by
  intro w s₀ s₁ mg mb G Y fa o pm cd doc dV kV ho hd hcd hD hmg hg args vals as hpre hlay hrd hwl hlo
  refine el1_2 Y ?_
  try clear Y
  intro K KX kf
  have T := G.T
  have seer : s₁.heap.NoSeer := T.seer (by kernel_rfl)
  clear G hmg
  wrow_args hpre hlay hrd hwl hlo
  rename Heap.IsList _ _ _ => hL'
  rename IntsAre _ _ => hI'
  refine enter_call ?_
  refine codeAny_mono ?_ (fun _ _ g => GoodW.toG g)
  w_call any ho hd hcd hD T F
  show wpAny (model prog _) (callerA.deeper (envOf _ (fnScope 53) _ _ _)) (execs (fnBody 53) (envOf _ (fnScope 53) _ _ _)) _ _ _
  refine join T seer KX kf hL' hI' (by (first | (simp +arith only; done) | lia | omega)) F ?_
  intro h' k' m' F2
  show GoodW _ _ _ _ _ (.ok (.ret (.bool true))) _
  refine goodW_bool F2 hg (raisesW_false ?_) ?_
  · wrow_none_raised
  · wrow_post
end Mine
set_option maxRecDepth 100000 in
set_option maxHeartbeats 8000000 in
theorem PySem.Challenge.cw_pc0239_01_holds : PySem.Challenge.rw_pc0239_01.Holds := by
  exact Mine.head Mine.walk0
