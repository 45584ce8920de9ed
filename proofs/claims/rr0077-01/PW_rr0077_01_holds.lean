import PyProof.Rows.All
import Wide.All
import OpenK.AllK
import Wide.FinOn
import PySem.Challenge.RW_rr0077_01
set_option Elab.async false
set_option maxRecDepth 100000
set_option compiler.extract_closed false
namespace Mine
open PySem PySem.W PySem.Calls PyProof.Rows
set_option maxHeartbeats 0
set_option synthInstance.maxSize 1 in
open_top hd for PySem.Challenge.rw_rr0077_01
/-! part M0 -/

theorem mkE2 {a0 a1 : Type} {p0 : a0 → a1 → Prop} (x0 : a0) (x1 : a1) (h0 : p0 x0 x1) : (∃ x0, (∃ x1, p0 x0 x1)) := ⟨x0, x1, h0⟩
theorem mkE3 {a0 a1 a2 : Type} {p0 : a0 → a1 → a2 → Prop} (x0 : a0) (x1 : a1) (x2 : a2) (h0 : p0 x0 x1 x2) : (∃ x0, (∃ x1, (∃ x2, p0 x0 x1 x2))) := ⟨x0, x1, x2, h0⟩
theorem mkE4 {a0 a1 a2 a3 : Type} {p0 : a0 → a1 → a2 → a3 → Prop} (x0 : a0) (x1 : a1) (x2 : a2) (x3 : a3) (h0 : p0 x0 x1 x2 x3) : (∃ x0, (∃ x1, (∃ x2, (∃ x3, p0 x0 x1 x2 x3)))) := ⟨x0, x1, x2, x3, h0⟩
theorem mkE5 {a0 a1 a2 a3 a4 : Type} {p0 : a0 → a1 → a2 → a3 → a4 → Prop} (x0 : a0) (x1 : a1) (x2 : a2) (x3 : a3) (x4 : a4) (h0 : p0 x0 x1 x2 x3 x4) : (∃ x0, (∃ x1, (∃ x2, (∃ x3, (∃ x4, p0 x0 x1 x2 x3 x4))))) := ⟨x0, x1, x2, x3, x4, h0⟩
theorem mkE6 {a0 a1 a2 a3 a4 a5 : Type} {p0 : a0 → a1 → a2 → a3 → a4 → a5 → Prop} (x0 : a0) (x1 : a1) (x2 : a2) (x3 : a3) (x4 : a4) (x5 : a5) (h0 : p0 x0 x1 x2 x3 x4 x5) : (∃ x0, (∃ x1, (∃ x2, (∃ x3, (∃ x4, (∃ x5, p0 x0 x1 x2 x3 x4 x5)))))) := ⟨x0, x1, x2, x3, x4, x5, h0⟩
theorem mkE7 {a0 a1 a2 a3 a4 a5 a6 : Type} {p0 : a0 → a1 → a2 → a3 → a4 → a5 → a6 → Prop} (x0 : a0) (x1 : a1) (x2 : a2) (x3 : a3) (x4 : a4) (x5 : a5) (x6 : a6) (h0 : p0 x0 x1 x2 x3 x4 x5 x6) : (∃ x0, (∃ x1, (∃ x2, (∃ x3, (∃ x4, (∃ x5, (∃ x6, p0 x0 x1 x2 x3 x4 x5 x6))))))) := ⟨x0, x1, x2, x3, x4, x5, x6, h0⟩
theorem mkE8 {a0 a1 a2 a3 a4 a5 a6 a7 : Type} {p0 : a0 → a1 → a2 → a3 → a4 → a5 → a6 → a7 → Prop} (x0 : a0) (x1 : a1) (x2 : a2) (x3 : a3) (x4 : a4) (x5 : a5) (x6 : a6) (x7 : a7) (h0 : p0 x0 x1 x2 x3 x4 x5 x6 x7) : (∃ x0, (∃ x1, (∃ x2, (∃ x3, (∃ x4, (∃ x5, (∃ x6, (∃ x7, p0 x0 x1 x2 x3 x4 x5 x6 x7)))))))) := ⟨x0, x1, x2, x3, x4, x5, x6, x7, h0⟩
theorem exA1 {p0 : Prop} {p1 : Prop} {P : Prop} (h : (p0 ∧ p1)) (k : p0 → p1 → P) : P := k h.1 h.2
theorem exA2 {p0 : Prop} {p1 : Prop} {p2 : Prop} {P : Prop} (h : (p0 ∧ (p1 ∧ p2))) (k : p0 → p1 → p2 → P) : P := k h.1 h.2.1 h.2.2
theorem exA3 {p0 : Prop} {p1 : Prop} {p2 : Prop} {p3 : Prop} {P : Prop} (h : (p0 ∧ (p1 ∧ (p2 ∧ p3)))) (k : p0 → p1 → p2 → p3 → P) : P := k h.1 h.2.1 h.2.2.1 h.2.2.2
theorem exA4 {p0 : Prop} {p1 : Prop} {p2 : Prop} {p3 : Prop} {p4 : Prop} {P : Prop} (h : (p0 ∧ (p1 ∧ (p2 ∧ (p3 ∧ p4))))) (k : p0 → p1 → p2 → p3 → p4 → P) : P := k h.1 h.2.1 h.2.2.1 h.2.2.2.1 h.2.2.2.2
theorem exA5 {p0 : Prop} {p1 : Prop} {p2 : Prop} {p3 : Prop} {p4 : Prop} {p5 : Prop} {P : Prop} (h : (p0 ∧ (p1 ∧ (p2 ∧ (p3 ∧ (p4 ∧ p5)))))) (k : p0 → p1 → p2 → p3 → p4 → p5 → P) : P := k h.1 h.2.1 h.2.2.1 h.2.2.2.1 h.2.2.2.2.1 h.2.2.2.2.2
theorem exA6 {p0 : Prop} {p1 : Prop} {p2 : Prop} {p3 : Prop} {p4 : Prop} {p5 : Prop} {p6 : Prop} {P : Prop} (h : (p0 ∧ (p1 ∧ (p2 ∧ (p3 ∧ (p4 ∧ (p5 ∧ p6))))))) (k : p0 → p1 → p2 → p3 → p4 → p5 → p6 → P) : P := k h.1 h.2.1 h.2.2.1 h.2.2.2.1 h.2.2.2.2.1 h.2.2.2.2.2.1 h.2.2.2.2.2.2
theorem exA7 {p0 : Prop} {p1 : Prop} {p2 : Prop} {p3 : Prop} {p4 : Prop} {p5 : Prop} {p6 : Prop} {p7 : Prop} {P : Prop} (h : (p0 ∧ (p1 ∧ (p2 ∧ (p3 ∧ (p4 ∧ (p5 ∧ (p6 ∧ p7)))))))) (k : p0 → p1 → p2 → p3 → p4 → p5 → p6 → p7 → P) : P := k h.1 h.2.1 h.2.2.1 h.2.2.2.1 h.2.2.2.2.1 h.2.2.2.2.2.1 h.2.2.2.2.2.2.1 h.2.2.2.2.2.2.2
theorem exA8 {p0 : Prop} {p1 : Prop} {p2 : Prop} {p3 : Prop} {p4 : Prop} {p5 : Prop} {p6 : Prop} {p7 : Prop} {p8 : Prop} {P : Prop} (h : (p0 ∧ (p1 ∧ (p2 ∧ (p3 ∧ (p4 ∧ (p5 ∧ (p6 ∧ (p7 ∧ p8))))))))) (k : p0 → p1 → p2 → p3 → p4 → p5 → p6 → p7 → p8 → P) : P := k h.1 h.2.1 h.2.2.1 h.2.2.2.1 h.2.2.2.2.1 h.2.2.2.2.2.1 h.2.2.2.2.2.2.1 h.2.2.2.2.2.2.2.1 h.2.2.2.2.2.2.2.2
theorem exA9 {p0 : Prop} {p1 : Prop} {p2 : Prop} {p3 : Prop} {p4 : Prop} {p5 : Prop} {p6 : Prop} {p7 : Prop} {p8 : Prop} {p9 : Prop} {P : Prop} (h : (p0 ∧ (p1 ∧ (p2 ∧ (p3 ∧ (p4 ∧ (p5 ∧ (p6 ∧ (p7 ∧ (p8 ∧ p9)))))))))) (k : p0 → p1 → p2 → p3 → p4 → p5 → p6 → p7 → p8 → p9 → P) : P := k h.1 h.2.1 h.2.2.1 h.2.2.2.1 h.2.2.2.2.1 h.2.2.2.2.2.1 h.2.2.2.2.2.2.1 h.2.2.2.2.2.2.2.1 h.2.2.2.2.2.2.2.2.1 h.2.2.2.2.2.2.2.2.2
theorem exA11 {p0 : Prop} {p1 : Prop} {p2 : Prop} {p3 : Prop} {p4 : Prop} {p5 : Prop} {p6 : Prop} {p7 : Prop} {p8 : Prop} {p9 : Prop} {p10 : Prop} {p11 : Prop} {P : Prop} (h : (p0 ∧ (p1 ∧ (p2 ∧ (p3 ∧ (p4 ∧ (p5 ∧ (p6 ∧ (p7 ∧ (p8 ∧ (p9 ∧ (p10 ∧ p11)))))))))))) (k : p0 → p1 → p2 → p3 → p4 → p5 → p6 → p7 → p8 → p9 → p10 → p11 → P) : P := k h.1 h.2.1 h.2.2.1 h.2.2.2.1 h.2.2.2.2.1 h.2.2.2.2.2.1 h.2.2.2.2.2.2.1 h.2.2.2.2.2.2.2.1 h.2.2.2.2.2.2.2.2.1 h.2.2.2.2.2.2.2.2.2.1 h.2.2.2.2.2.2.2.2.2.2.1 h.2.2.2.2.2.2.2.2.2.2.2
theorem exE1 {a0 : Type} {p0 : a0 → Prop} {P : Prop} (h : (∃ x0, p0 x0)) (k : ∀ x0 : a0, p0 x0 → P) : P := h.elim (k )
theorem exE2 {a0 a1 : Type} {p0 : a0 → a1 → Prop} {P : Prop} (h : (∃ x0, (∃ x1, p0 x0 x1))) (k : ∀ x0 : a0, ∀ x1 : a1, p0 x0 x1 → P) : P := h.elim fun x0 gx0 => gx0.elim (k x0)
theorem exE3 {a0 a1 a2 : Type} {p0 : a0 → a1 → a2 → Prop} {P : Prop} (h : (∃ x0, (∃ x1, (∃ x2, p0 x0 x1 x2)))) (k : ∀ x0 : a0, ∀ x1 : a1, ∀ x2 : a2, p0 x0 x1 x2 → P) : P := h.elim fun x0 gx0 => gx0.elim fun x1 gx1 => gx1.elim (k x0 x1)
theorem exE4 {a0 a1 a2 a3 : Type} {p0 : a0 → a1 → a2 → a3 → Prop} {P : Prop} (h : (∃ x0, (∃ x1, (∃ x2, (∃ x3, p0 x0 x1 x2 x3))))) (k : ∀ x0 : a0, ∀ x1 : a1, ∀ x2 : a2, ∀ x3 : a3, p0 x0 x1 x2 x3 → P) : P := h.elim fun x0 gx0 => gx0.elim fun x1 gx1 => gx1.elim fun x2 gx2 => gx2.elim (k x0 x1 x2)
theorem exE5 {a0 a1 a2 a3 a4 : Type} {p0 : a0 → a1 → a2 → a3 → a4 → Prop} {P : Prop} (h : (∃ x0, (∃ x1, (∃ x2, (∃ x3, (∃ x4, p0 x0 x1 x2 x3 x4)))))) (k : ∀ x0 : a0, ∀ x1 : a1, ∀ x2 : a2, ∀ x3 : a3, ∀ x4 : a4, p0 x0 x1 x2 x3 x4 → P) : P := h.elim fun x0 gx0 => gx0.elim fun x1 gx1 => gx1.elim fun x2 gx2 => gx2.elim fun x3 gx3 => gx3.elim (k x0 x1 x2 x3)
theorem exE6 {a0 a1 a2 a3 a4 a5 : Type} {p0 : a0 → a1 → a2 → a3 → a4 → a5 → Prop} {P : Prop} (h : (∃ x0, (∃ x1, (∃ x2, (∃ x3, (∃ x4, (∃ x5, p0 x0 x1 x2 x3 x4 x5))))))) (k : ∀ x0 : a0, ∀ x1 : a1, ∀ x2 : a2, ∀ x3 : a3, ∀ x4 : a4, ∀ x5 : a5, p0 x0 x1 x2 x3 x4 x5 → P) : P := h.elim fun x0 gx0 => gx0.elim fun x1 gx1 => gx1.elim fun x2 gx2 => gx2.elim fun x3 gx3 => gx3.elim fun x4 gx4 => gx4.elim (k x0 x1 x2 x3 x4)
theorem exE7 {a0 a1 a2 a3 a4 a5 a6 : Type} {p0 : a0 → a1 → a2 → a3 → a4 → a5 → a6 → Prop} {P : Prop} (h : (∃ x0, (∃ x1, (∃ x2, (∃ x3, (∃ x4, (∃ x5, (∃ x6, p0 x0 x1 x2 x3 x4 x5 x6)))))))) (k : ∀ x0 : a0, ∀ x1 : a1, ∀ x2 : a2, ∀ x3 : a3, ∀ x4 : a4, ∀ x5 : a5, ∀ x6 : a6, p0 x0 x1 x2 x3 x4 x5 x6 → P) : P := h.elim fun x0 gx0 => gx0.elim fun x1 gx1 => gx1.elim fun x2 gx2 => gx2.elim fun x3 gx3 => gx3.elim fun x4 gx4 => gx4.elim fun x5 gx5 => gx5.elim (k x0 x1 x2 x3 x4 x5)
theorem exE8 {a0 a1 a2 a3 a4 a5 a6 a7 : Type} {p0 : a0 → a1 → a2 → a3 → a4 → a5 → a6 → a7 → Prop} {P : Prop} (h : (∃ x0, (∃ x1, (∃ x2, (∃ x3, (∃ x4, (∃ x5, (∃ x6, (∃ x7, p0 x0 x1 x2 x3 x4 x5 x6 x7))))))))) (k : ∀ x0 : a0, ∀ x1 : a1, ∀ x2 : a2, ∀ x3 : a3, ∀ x4 : a4, ∀ x5 : a5, ∀ x6 : a6, ∀ x7 : a7, p0 x0 x1 x2 x3 x4 x5 x6 x7 → P) : P := h.elim fun x0 gx0 => gx0.elim fun x1 gx1 => gx1.elim fun x2 gx2 => gx2.elim fun x3 gx3 => gx3.elim fun x4 gx4 => gx4.elim fun x5 gx5 => gx5.elim fun x6 gx6 => gx6.elim (k x0 x1 x2 x3 x4 x5 x6)
theorem mkA1E1 {a0 : Type} {p0 : Prop} {p1 : a0 → Prop} (h0 : p0) (x0 : a0) (h1 : p1 x0) : (p0 ∧ (∃ x0, p1 x0)) := ⟨h0, ⟨x0, h1⟩⟩
theorem mkE1A1 {a0 : Type} {p0 : a0 → Prop} {p1 : a0 → Prop} (x0 : a0) (h0 : p0 x0) (h1 : p1 x0) : (∃ x0, (p0 x0 ∧ p1 x0)) := ⟨x0, ⟨h0, h1⟩⟩
theorem mkE1A2 {a0 : Type} {p0 : a0 → Prop} {p1 : a0 → Prop} {p2 : a0 → Prop} (x0 : a0) (h0 : p0 x0) (h1 : p1 x0) (h2 : p2 x0) : (∃ x0, (p0 x0 ∧ (p1 x0 ∧ p2 x0))) := ⟨x0, ⟨h0, h1, h2⟩⟩
theorem mkE1A2E1 {a0 a1 : Type} {p0 : a0 → Prop} {p1 : a0 → Prop} {p2 : a0 → a1 → Prop} (x0 : a0) (h0 : p0 x0) (h1 : p1 x0) (x1 : a1) (h2 : p2 x0 x1) : (∃ x0, (p0 x0 ∧ (p1 x0 ∧ (∃ x1, p2 x0 x1)))) := ⟨x0, ⟨h0, h1, ⟨x1, h2⟩⟩⟩
theorem mkE2A1 {a0 a1 : Type} {p0 : a0 → a1 → Prop} {p1 : a0 → a1 → Prop} (x0 : a0) (x1 : a1) (h0 : p0 x0 x1) (h1 : p1 x0 x1) : (∃ x0, (∃ x1, (p0 x0 x1 ∧ p1 x0 x1))) := (mkE2 x0 x1 ⟨h0, h1⟩)
theorem mkE2A2 {a0 a1 : Type} {p0 : a0 → a1 → Prop} {p1 : a0 → a1 → Prop} {p2 : a0 → a1 → Prop} (x0 : a0) (x1 : a1) (h0 : p0 x0 x1) (h1 : p1 x0 x1) (h2 : p2 x0 x1) : (∃ x0, (∃ x1, (p0 x0 x1 ∧ (p1 x0 x1 ∧ p2 x0 x1)))) := (mkE2 x0 x1 ⟨h0, h1, h2⟩)
theorem mkE3A2 {a0 a1 a2 : Type} {p0 : a0 → a1 → a2 → Prop} {p1 : a0 → a1 → a2 → Prop} {p2 : a0 → a1 → a2 → Prop} (x0 : a0) (x1 : a1) (x2 : a2) (h0 : p0 x0 x1 x2) (h1 : p1 x0 x1 x2) (h2 : p2 x0 x1 x2) : (∃ x0, (∃ x1, (∃ x2, (p0 x0 x1 x2 ∧ (p1 x0 x1 x2 ∧ p2 x0 x1 x2))))) := (mkE3 x0 x1 x2 ⟨h0, h1, h2⟩)
theorem exA1E1A1 {a0 : Type} {p0 : Prop} {p1 : a0 → Prop} {p2 : a0 → Prop} {P : Prop} (h : (p0 ∧ (∃ x0, (p1 x0 ∧ p2 x0)))) (k : p0 → ∀ x0 : a0, p1 x0 → p2 x0 → P) : P := exA1 h fun h0 g0 => exE1 g0 fun x0 g1 => exA1 g1 (k h0 x0)
theorem exE1A1 {a0 : Type} {p0 : a0 → Prop} {p1 : a0 → Prop} {P : Prop} (h : (∃ x0, (p0 x0 ∧ p1 x0))) (k : ∀ x0 : a0, p0 x0 → p1 x0 → P) : P := exE1 h fun x0 g0 => exA1 g0 (k x0)
theorem exE1A2 {a0 : Type} {p0 : a0 → Prop} {p1 : a0 → Prop} {p2 : a0 → Prop} {P : Prop} (h : (∃ x0, (p0 x0 ∧ (p1 x0 ∧ p2 x0)))) (k : ∀ x0 : a0, p0 x0 → p1 x0 → p2 x0 → P) : P := exE1 h fun x0 g0 => exA2 g0 (k x0)
theorem exE1A2E2A1 {a0 a1 a2 : Type} {p0 : a0 → Prop} {p1 : a0 → Prop} {p2 : a0 → a1 → a2 → Prop} {p3 : a0 → a1 → a2 → Prop} {P : Prop} (h : (∃ x0, (p0 x0 ∧ (p1 x0 ∧ (∃ x1, (∃ x2, (p2 x0 x1 x2 ∧ p3 x0 x1 x2))))))) (k : ∀ x0 : a0, p0 x0 → p1 x0 → ∀ x1 : a1, ∀ x2 : a2, p2 x0 x1 x2 → p3 x0 x1 x2 → P) : P := exE1 h fun x0 g0 => exA2 g0 fun h0 h1 g1 => exE2 g1 fun x1 x2 g2 => exA1 g2 (k x0 h0 h1 x1 x2)
theorem exE2A1 {a0 a1 : Type} {p0 : a0 → a1 → Prop} {p1 : a0 → a1 → Prop} {P : Prop} (h : (∃ x0, (∃ x1, (p0 x0 x1 ∧ p1 x0 x1)))) (k : ∀ x0 : a0, ∀ x1 : a1, p0 x0 x1 → p1 x0 x1 → P) : P := exE2 h fun x0 x1 g0 => exA1 g0 (k x0 x1)
theorem exE2A2 {a0 a1 : Type} {p0 : a0 → a1 → Prop} {p1 : a0 → a1 → Prop} {p2 : a0 → a1 → Prop} {P : Prop} (h : (∃ x0, (∃ x1, (p0 x0 x1 ∧ (p1 x0 x1 ∧ p2 x0 x1))))) (k : ∀ x0 : a0, ∀ x1 : a1, p0 x0 x1 → p1 x0 x1 → p2 x0 x1 → P) : P := exE2 h fun x0 x1 g0 => exA2 g0 (k x0 x1)
theorem exE2A6 {a0 a1 : Type} {p0 : a0 → a1 → Prop} {p1 : a0 → a1 → Prop} {p2 : a0 → a1 → Prop} {p3 : a0 → a1 → Prop} {p4 : a0 → a1 → Prop} {p5 : a0 → a1 → Prop} {p6 : a0 → a1 → Prop} {P : Prop} (h : (∃ x0, (∃ x1, (p0 x0 x1 ∧ (p1 x0 x1 ∧ (p2 x0 x1 ∧ (p3 x0 x1 ∧ (p4 x0 x1 ∧ (p5 x0 x1 ∧ p6 x0 x1))))))))) (k : ∀ x0 : a0, ∀ x1 : a1, p0 x0 x1 → p1 x0 x1 → p2 x0 x1 → p3 x0 x1 → p4 x0 x1 → p5 x0 x1 → p6 x0 x1 → P) : P := exE2 h fun x0 x1 g0 => exA6 g0 (k x0 x1)
theorem exE3A1 {a0 a1 a2 : Type} {p0 : a0 → a1 → a2 → Prop} {p1 : a0 → a1 → a2 → Prop} {P : Prop} (h : (∃ x0, (∃ x1, (∃ x2, (p0 x0 x1 x2 ∧ p1 x0 x1 x2))))) (k : ∀ x0 : a0, ∀ x1 : a1, ∀ x2 : a2, p0 x0 x1 x2 → p1 x0 x1 x2 → P) : P := exE3 h fun x0 x1 x2 g0 => exA1 g0 (k x0 x1 x2)
theorem exE3A2 {a0 a1 a2 : Type} {p0 : a0 → a1 → a2 → Prop} {p1 : a0 → a1 → a2 → Prop} {p2 : a0 → a1 → a2 → Prop} {P : Prop} (h : (∃ x0, (∃ x1, (∃ x2, (p0 x0 x1 x2 ∧ (p1 x0 x1 x2 ∧ p2 x0 x1 x2)))))) (k : ∀ x0 : a0, ∀ x1 : a1, ∀ x2 : a2, p0 x0 x1 x2 → p1 x0 x1 x2 → p2 x0 x1 x2 → P) : P := exE3 h fun x0 x1 x2 g0 => exA2 g0 (k x0 x1 x2)
theorem exE3A3 {a0 a1 a2 : Type} {p0 : a0 → a1 → a2 → Prop} {p1 : a0 → a1 → a2 → Prop} {p2 : a0 → a1 → a2 → Prop} {p3 : a0 → a1 → a2 → Prop} {P : Prop} (h : (∃ x0, (∃ x1, (∃ x2, (p0 x0 x1 x2 ∧ (p1 x0 x1 x2 ∧ (p2 x0 x1 x2 ∧ p3 x0 x1 x2))))))) (k : ∀ x0 : a0, ∀ x1 : a1, ∀ x2 : a2, p0 x0 x1 x2 → p1 x0 x1 x2 → p2 x0 x1 x2 → p3 x0 x1 x2 → P) : P := exE3 h fun x0 x1 x2 g0 => exA3 g0 (k x0 x1 x2)
theorem exE4A3 {a0 a1 a2 a3 : Type} {p0 : a0 → a1 → a2 → a3 → Prop} {p1 : a0 → a1 → a2 → a3 → Prop} {p2 : a0 → a1 → a2 → a3 → Prop} {p3 : a0 → a1 → a2 → a3 → Prop} {P : Prop} (h : (∃ x0, (∃ x1, (∃ x2, (∃ x3, (p0 x0 x1 x2 x3 ∧ (p1 x0 x1 x2 x3 ∧ (p2 x0 x1 x2 x3 ∧ p3 x0 x1 x2 x3)))))))) (k : ∀ x0 : a0, ∀ x1 : a1, ∀ x2 : a2, ∀ x3 : a3, p0 x0 x1 x2 x3 → p1 x0 x1 x2 x3 → p2 x0 x1 x2 x3 → p3 x0 x1 x2 x3 → P) : P := exE4 h fun x0 x1 x2 x3 g0 => exA3 g0 (k x0 x1 x2 x3)
theorem exE4A4 {a0 a1 a2 a3 : Type} {p0 : a0 → a1 → a2 → a3 → Prop} {p1 : a0 → a1 → a2 → a3 → Prop} {p2 : a0 → a1 → a2 → a3 → Prop} {p3 : a0 → a1 → a2 → a3 → Prop} {p4 : a0 → a1 → a2 → a3 → Prop} {P : Prop} (h : (∃ x0, (∃ x1, (∃ x2, (∃ x3, (p0 x0 x1 x2 x3 ∧ (p1 x0 x1 x2 x3 ∧ (p2 x0 x1 x2 x3 ∧ (p3 x0 x1 x2 x3 ∧ p4 x0 x1 x2 x3))))))))) (k : ∀ x0 : a0, ∀ x1 : a1, ∀ x2 : a2, ∀ x3 : a3, p0 x0 x1 x2 x3 → p1 x0 x1 x2 x3 → p2 x0 x1 x2 x3 → p3 x0 x1 x2 x3 → p4 x0 x1 x2 x3 → P) : P := exE4 h fun x0 x1 x2 x3 g0 => exA4 g0 (k x0 x1 x2 x3)
theorem nm0 {α : Type} {b : α} : b ∉ ([] : List α) := fun h => nomatch h
theorem nmc {α : Type} {b a : α} {l : List α} (h : ¬ b = a) (t : b ∉ l) : b ∉ a :: l := fun m => (List.mem_cons.mp m).elim h t
theorem nma {α : Type} {b : α} {l l' : List α} (h : b ∉ l) (t : b ∉ l') : b ∉ l ++ l' := fun m => (List.mem_append.mp m).elim h t
theorem fa0 {α : Type} {P : α → Prop} : ∀ b ∈ ([] : List α), P b := fun _ h => nomatch h
theorem fac {α : Type} {P : α → Prop} {a : α} {l : List α} (h : P a) (t : ∀ b ∈ l, P b) : ∀ b ∈ a :: l, P b := List.forall_mem_cons.mpr ⟨h, t⟩
theorem faa {α : Type} {P : α → Prop} {l l' : List α} (h : ∀ b ∈ l, P b) (t : ∀ b ∈ l', P b) : ∀ b ∈ l ++ l', P b := fun b m => (List.mem_append.mp m).elim (h b) (t b)
theorem nem {α : Type} {b a : α} {l : List α} (h : b ∉ l) (m : a ∈ l) : ¬ b = a := fun e => h (e ▸ m)
def NeAll {α : Type} (b : α) : List α → Prop
  | [] => True
  | a :: l => ¬ b = a ∧ NeAll b l
theorem nmo {α : Type} {b : α} : ∀ {l : List α}, b ∉ l → NeAll b l
  | [], _ => trivial
  | _ :: _, h => ⟨fun e => h (e ▸ .head _), nmo fun m => h (.tail _ m)⟩
/-- the goal, hidden while facts are taken apart -/
def Hid (G P : Prop) : Prop := G → P
theorem hideG {G : Prop} (h : ∀ P, Hid G P → P) : G := h G id
theorem mem0 {α : Type} {l : List α} {b : α} (h : l.head? = some b) : b ∈ l := by cases l with | nil => cases h | cons x r => cases h; exact .head _
theorem memS {α : Type} {l t : List α} {b c : α} (e : l = c :: t) (h : b ∈ t) : b ∈ l := e ▸ .tail _ h
theorem sub_cons {α : Type} {x : α} {l l' : List α} (h : x ∈ l') (t : ∀ p ∈ l, p ∈ l') : ∀ p ∈ x :: l, p ∈ l' := List.forall_mem_cons.mpr ⟨h, t⟩
theorem sub_nil {α : Type} {l' : List α} : ∀ p ∈ ([] : List α), p ∈ l' := fun _ h => nomatch h
theorem sub_tl {α : Type} {x : α} {l l' : List α} (t : ∀ p ∈ l, p ∈ l') : ∀ p ∈ l, p ∈ x :: l' := fun p h => .tail _ (t p h)
set_option hygiene false in
local macro_rules
| `(tactic| walk_at "mem") => `(tactic| first | exact Mine.mem0 rfl | (refine Mine.memS rfl ?_; walk_at "mem") | fail)
set_option hygiene false in
local macro_rules
| `(tactic| walk_at "sim") => `(tactic| first | walk_at "mem" | simp)
set_option hygiene false in
local macro_rules
| `(tactic| walk_at "sub") => `(tactic| first | exact fun _ h => h | exact Mine.sub_nil | (refine Mine.sub_cons (by walk_at "mem") ?_; walk_at "sub") | (refine Mine.sub_tl ?_; walk_at "sub") | fail)
set_option hygiene false in
local macro_rules
| `(tactic| walk_at "hideG") => `(tactic| (refine Mine.hideG ?_; intro hidP hidK))
set_option hygiene false in
local macro_rules
| `(tactic| walk_at "showG") => `(tactic| (refine hidK ?_; clear hidK hidP))



/-- the static ground -/
structure Gr (w : World) (mg mb : Str → Option Value) (h : Heap) : Prop where
  X : (hd.heap_39 w.params).In h
  T : TopRead hd.view_39 (looseW hd.view_39 []) mg mb h

theorem Gr.keeps {w : World} {mg mb : Str → Option Value} {h h' : Heap} (G : Gr w mg mb h) (hk : ∀ b o, h.get? b = some o → h'.get? b = some o) : Gr w mg mb h' :=
  ⟨G.X.keeps hk, G.T.keeps hk⟩

/-- the stack at hand, with n calls' room -/
structure Cx (w : World) (mg mb : Str → Option Value) (n : Nat) (A : Around) (h₀ : Heap) (L : Addr) : Prop where
  G : Gr w mg mb h₀
  st : ∃ env outer base A₀, Below A₀ base outer h₀ ∧ A.frames = some (env :: outer) ∧ env.frame = some L ∧ env.scope.kind = .function
  hh : A.handled = none
  dp : A.depth + n ≤ 900
  un : A.units + 5 * n ≤ 5000

/-- all but ch is as it was -/
def Kp (ch : List Addr) (h h' : Heap) : Prop := ∀ b o, b ∉ ch → h.get? b = some o → h'.get? b = some o
theorem Kp.refl {ch : List Addr} {h : Heap} : Kp ch h h := fun _ _ _ e => e
theorem Kp.trans {ch : List Addr} {h h' h'' : Heap} (a : Kp ch h h') (b : Kp ch h' h'') : Kp ch h h'' := fun x o hn e => b x o hn (a x o hn e)
theorem Kp.mono {ch ch' : List Addr} {h h' : Heap} (a : Kp ch h h') (hs : ∀ x ∈ ch, x ∈ ch') : Kp ch' h h' := fun x o hn e => a x o (fun q => hn (hs x q)) e

theorem Fr.kp {h₀ h h' : Heap} {L : Addr} {m : Str → Option Value} {ch : List Addr} (F : Fr h₀ L h m) (k : Kp ch h h') (hc : ∀ a ∈ ch, h₀.get? a = none ∧ a ≠ L) : Fr h₀ L h' m := by
  (refine Mine.exE3A1 F.ns ?_; intro oL a1 a2 hL a3)
  refine ⟨(Mine.mkE3 oL a1 a2 ⟨k L oL (fun q => (hc L q).2 rfl) hL, a3⟩), fun b o e => k b o (fun q => ?_) (F.keep b o e), F.above⟩
  have := (hc b q).1
  rw [e] at this; cases this

theorem News.kp {h₀ h h' : Heap} {L : Addr} {news : List (Addr × Obj)} {ch : List Addr} (N : News h₀ L h news) (k : Kp ch h h') (hc : ∀ p ∈ news, p.1 ∉ ch) : News h₀ L h' news :=
  fun p hp => ⟨k _ _ (hc p hp) (N p hp).1, (N p hp).2⟩

noncomputable def retOf : Flow → Value
  | .ret v => v
  | _ => .none

/-- what a def's walk ends in -/
def RetR (s : Shared) (g : Heap) (L' : Addr) (R : Value → Heap → Prop) (v : Value) (s' : Shared) : Prop :=
  ∃ h' tk m', s' = { s with heap := h', toks := tk } ∧ Fr g L' h' m' ∧ R v h'

/-- what lies under a hidden continuation -/
def Under (P Q : Flow → Shared → Prop) : Prop := ∀ f s, P f s → Q f s
theorem Under.refl {P : Flow → Shared → Prop} : Under P P := fun _ _ h => h
/-- behind a statement: the rest -/
def Thru (M : Model) (A : Around) (rest : List Stmt) (env : Env) (Q : Flow → Shared → Prop) (E : Value → Shared → Prop) (f : Flow) (s : Shared) : Prop := match f with
  | .next => wpAny M A (execs rest env) Q E s
  | f => Q f s

section
variable {M : Model} {A : Around} {st : Stmt} {rest : List Stmt} {env : Env} {Q Q' P : Flow → Shared → Prop} {E : Value → Shared → Prop} {s : Shared} {v : Value} {f : Flow}
theorem execs_hide (h : ∀ Q', Under (Thru M A rest env Q E) Q' → wpAny M A (exec st env) Q' E s) : wpAny M A (execs (st :: rest) env) Q E s :=
  wpAny_execs_cons (wpAny_mono (h _ .refl) (fun f s' h' => by cases f <;> exact h') fun _ _ e => e)
theorem go_next (k : Under (Thru M A rest env Q E) Q') (h : wpAny M A (execs rest env) Q E s) : Q' .next s := k _ _ h
theorem go_ret (k : Under (Thru M A rest env Q E) Q') (h : Q (.ret v) s) : Q' (.ret v) s := k _ _ h
theorem go_brk (k : Under (Thru M A rest env Q E) Q') (h : Q .brk s) : Q' .brk s := k _ _ h
theorem go_cont (k : Under (Thru M A rest env Q E) Q') (h : Q .cont s) : Q' .cont s := k _ _ h
theorem go_base (k : Under P Q') (h : P f s) : Q' f s := k _ _ h
end
set_option hygiene false in
local macro_rules
| `(tactic| walk_at "hide") => `(tactic| first
  | ((fail_if_success (have kX := kQ1)); intro kQ1 kU1)
  | ((fail_if_success (have kX := kQ2)); intro kQ2 kU2)
  | ((fail_if_success (have kX := kQ3)); intro kQ3 kU3)
  | ((fail_if_success (have kX := kQ4)); intro kQ4 kU4)
  | ((fail_if_success (have kX := kQ5)); intro kQ5 kU5)
  | ((fail_if_success (have kX := kQ6)); intro kQ6 kU6)
  | ((fail_if_success (have kX := kQ7)); intro kQ7 kU7))
set_option hygiene false in
local macro_rules
| `(tactic| walk_at "drop") => `(tactic| first
  | clear kU7 kQ7
  | clear kU6 kQ6
  | clear kU5 kQ5
  | clear kU4 kQ4
  | clear kU3 kQ3
  | clear kU2 kQ2
  | clear kU1 kQ1)
set_option hygiene false in
local macro_rules
| `(tactic| walk_at "execs cons") => `(tactic| ((try k_gentoks); (refine' Mine.execs_hide ?_); walk_at "hide"; (try dsimp only)))
set_option hygiene false in
local macro_rules
| `(tactic| walk_at "behind") => `(tactic| (
  (fail_if_success (with_reducible show wpAny _ _ _ _ _ _));
  first
  | (refine Mine.go_next (by with_reducible assumption) ?_; walk_at "drop")
  | (refine Mine.go_ret (by with_reducible assumption) ?_; walk_at "drop")
  | (refine Mine.go_brk (by with_reducible assumption) ?_; walk_at "drop")
  | (refine Mine.go_cont (by with_reducible assumption) ?_; walk_at "drop")
  | (refine Mine.go_base (by with_reducible assumption) ?_; walk_at "drop"; (try dsimp only))
  | fail "behind"))
theorem retR {s : Shared} {g : Heap} {L' : Addr} {R : Value → Heap → Prop} {v : Value} {h' : Heap} {tk : Nat} {m' : Str → Option Value} (F : Fr g L' h' m') (h : R v h') : RetR s g L' R v { s with heap := h', toks := tk } := (Mine.mkE3A2 h' tk m' rfl F h)

section
variable {w : World} {mg mb : Str → Option Value} {n : Nat} {A : Around} {h₀ : Heap} {L : Addr} {m : Str → Option Value} {s : Shared}
  {name qual : Str} {params : Arguments} {body : List Stmt} {scope : Scope} {dV kV doc pm cdv ct oc : Value} {an od : Option Addr} {osl : Array (Option Value)} {f : Addr} {pos : List Value} {binds : List (Str × Value)}
  {E : Value → Shared → Prop} {prog : Program}

theorem callR {R : Value → Heap → Prop} {Q : Value → Shared → Prop} (ch : List Addr) (C : Cx w mg mb (n + 1) A h₀ L) (F : Fr h₀ L s.heap m) (hch : ∀ a ∈ ch, h₀.get? a = none ∧ a ≠ L)
    (ho : (hd.heap_39 w.params).lookup f = some ⟨oc, od, .func (fnOf name qual params body scope dV kV doc pm an cdv ct), osl⟩) (hcd : codeIn (hd.heap_39 w.params) cdv qual = true)
    (hbind : BindsTo s (fnOf name qual params body scope dV kV doc pm an cdv ct) ⟨pos, []⟩ binds) (hloc : ∀ y ∈ binds, scope.names.lookup y.1 = some .local)
    (h : ∀ g L' h₁, g = hideAll s.heap ch → L' = s.heap.objs.size → Cx w mg mb n (A.deeper (envOf qual scope L' f cdv)) g L' → Fr g L' h₁ (fun y => binds.reverse.lookup y) → (∀ b o, s.heap.get? b = some o → h₁.get? b = some o) →
      ∀ Q', Under (fun fl s' => RetR s g L' R (match fl with | .ret v => v | _ => .none) s') Q' → wpAny (model prog w) (A.deeper (envOf qual scope L' f cdv)) (execs body (envOf qual scope L' f cdv))
        Q' (fun _ _ => False) { s with heap := h₁, toks := s.toks + binds.length })
    (hQ : ∀ v h' tk, R v h' → Kp ch s.heap h' → Fr h₀ L h' m → Q v { s with heap := h', toks := tk })
    (hcell : ∀ x ∈ scope.names, x.2 ≠ .cell) (hco : scope.isCoroutine = false) (hgen : scope.isGenerator = false) (hk : scope.kind = .function) : wpAny (model prog w) A (call (.ref f) pos) Q E s := by
  (refine Mine.exE4A3 C.st ?_; intro env outer base A₀ B hA hf hke)
  refine wpAny_call ?_
  have nm : ∀ b o, h₀.get? b = some o → b ∉ ch := fun b o e q => by
    have := (hch b q).1
    rw [e] at this; cases this
  have st : h₀.StaysIn (hideAll s.heap ch) := fun b o e => hideAll_get _ (F.keep b o e) (nm b o e)
  (refine Mine.exE3A3 F.ns ?_; intro oL es ep hL hLd hLk hLf)
  have nL : L ∉ ch := fun q => (hch L q).2 rfl
  have hLg := hideAll_get ch hL nL
  have B₁ := pushX B F hf hke
  have BG : Below A base (env :: outer) (hideAll s.heap ch) := ⟨hA, fun b o e => st b o (B.stays b o e), funFrames_hideAll B₁.frames fun env' he b hb hf' => by
    cases he with
    | head => exact nL ((Option.some.inj (hf.symm.trans hf') : L = b) ▸ hb)
    | tail _ he =>
      (refine Mine.exE2A1 (funFrames_in B.frames env' he) ?_; intro L₁ o₁ hf₁ ho₁)
      rw [hf₁] at hf'
      exact nm L₁ o₁ ho₁ ((Option.some.inj hf' : L₁ = b) ▸ hb)⟩
  have hdp : A.depth < recursionLimit := by have := C.dp; show A.depth < 1000; omega
  refine codeAny_call_def (fd := fnOf name qual params body scope dV kV doc pm an cdv ct) (body := body) (binds := binds) hdp ((C.G.X.keeps F.keep) _ _ ho) rfl (C.G.T.nolimit.keeps F.keep) (codeRec_of (C.G.X.keeps F.keep) hcd) rfl hbind hcell hloc (fun h₁ hns hk₁ => ?_) hco hgen hk
  refine wpAny_mono (h _ s.heap.objs.size h₁ rfl rfl ⟨C.G.keeps st, (Mine.mkE4 _ _ _ _ ⟨BG, Around.frames_deeper hA, rfl, hk⟩), C.hh, ?_, ?_⟩ ⟨hns, fun b o e => hk₁ b o (of_hideAll _ e), Nat.le_of_eq (hideAll_size _ _)⟩ hk₁ _ .refl) (fun fl s' hl => ?_) fun _ _ y => y.elim
  · have := C.dp; show A.depth + 1 + n ≤ 900; omega
  · have := C.un; show A.units + 3 + 5 * n ≤ 5000; omega
  · (refine Mine.exE3A2 hl ?_; (try clear hl); intro h' tk m' hsb1 F' hR; subst hsb1)
    refine hQ _ _ _ hR (fun b o hb e => F'.keep b o (hideAll_get _ e hb)) ?_
    exact ⟨(Mine.mkE3 oL es ep ⟨F'.keep L oL hLg, hLd, hLk, hLf⟩), fun b o e => F'.keep b o (st b o e), F.above⟩

theorem callRC {R : Value → Heap → Prop} {Q : Value → Shared → Prop} (ch : List Addr) (C : Cx w mg mb (n + 1) A h₀ L) (F : Fr h₀ L s.heap m) (hch : ∀ a ∈ ch, h₀.get? a = none ∧ a ≠ L)
    (ho : (hd.heap_39 w.params).lookup f = some ⟨oc, od, .func (fnOf name qual params body scope dV kV doc pm an cdv ct), osl⟩) (hcd : codeIn (hd.heap_39 w.params) cdv qual = true)
    (hbind : BindsTo s (fnOf name qual params body scope dV kV doc pm an cdv ct) ⟨pos, []⟩ binds) (hkind : (binds.all fun y => scope.names.lookup y.1 == some .local || scope.names.lookup y.1 == some .cell) = true)
    (hnd : ((cellsFrom 0 scope.names []).map (·.1)).Nodup)
    (h : ∀ g L' h₁ tk cells, g = hideAll s.heap ch → L' = s.heap.objs.size → Cx w mg mb n (A.deeper (envOfC qual scope L' f cdv)) g L' → Fr g L' h₁ (bindL (envOfC qual scope L' f cdv).kindOf binds fun _ => none) → News g L' h₁ cells →
      CellsAre (bindC (envOfC qual scope L' f cdv).kindOf binds fun _ => none) (cellsFrom (L' + 1) scope.names []) cells → (∀ b o, s.heap.get? b = some o → h₁.get? b = some o) → (∀ p ∈ cells, s.heap.objs.size < p.1) →
      ∀ Q', Under (fun fl s' => RetR s g L' R (match fl with | .ret v => v | _ => .none) s') Q' → wpAny (model prog w) (A.deeper (envOfC qual scope L' f cdv)) (execs body (envOfC qual scope L' f cdv))
        Q' (fun _ _ => False) { s with heap := h₁, toks := tk })
    (hQ : ∀ v h' tk, R v h' → Kp ch s.heap h' → Fr h₀ L h' m → Q v { s with heap := h', toks := tk })
    (hco : scope.isCoroutine = false) (hgen : scope.isGenerator = false) (hk : scope.kind = .function) : wpAny (model prog w) A (call (.ref f) pos) Q E s := by
  (refine Mine.exE4A3 C.st ?_; intro env outer base A₀ B hA hf hke)
  refine wpAny_call ?_
  have nm : ∀ b o, h₀.get? b = some o → b ∉ ch := fun b o e q => by
    have := (hch b q).1
    rw [e] at this; cases this
  have st : h₀.StaysIn (hideAll s.heap ch) := fun b o e => hideAll_get _ (F.keep b o e) (nm b o e)
  (refine Mine.exE3A3 F.ns ?_; intro oL es ep hL hLd hLk hLf)
  have nL : L ∉ ch := fun q => (hch L q).2 rfl
  have hLg := hideAll_get ch hL nL
  have B₁ := pushX B F hf hke
  have BG : Below A base (env :: outer) (hideAll s.heap ch) := ⟨hA, fun b o e => st b o (B.stays b o e), funFrames_hideAll B₁.frames fun env' he b hb hf' => by
    cases he with
    | head => exact nL ((Option.some.inj (hf.symm.trans hf') : L = b) ▸ hb)
    | tail _ he =>
      (refine Mine.exE2A1 (funFrames_in B.frames env' he) ?_; intro L₁ o₁ hf₁ ho₁)
      rw [hf₁] at hf'
      exact nm L₁ o₁ ho₁ ((Option.some.inj hf' : L₁ = b) ▸ hb)⟩
  have hdp : A.depth < recursionLimit := by have := C.dp; show A.depth < 1000; omega
  refine codeAny_call_function hdp ((C.G.X.keeps F.keep) _ _ ho) rfl hco hgen rfl (codeRec_of (C.G.X.keeps F.keep) hcd) (hbind _ _ _ _ ?_)
  refine wpAny_newFunctionEnv_cells hk (kindsX hkind _) fun env' he s' x => ?_
  subst he
  refine ⟨(C.G.T.nolimit.keeps F.keep).keeps x.toInCall.keep, codeAny_func ?_⟩
  walk_at "hideG"
  (refine Mine.exE2A1 x.done ?_; intro h₁ tk hsb2 _; subst hsb2)
  have hk₁ := x.toInCall.keep
  (refine Mine.exE1A1 (Cl.news (h₀ := s.heap) (Nat.le_refl _) fun n c hm => ⟨x.cell n c (lookup_of_mem_nodup (cellsFrom_names scope.names 0 (s.heap.objs.size + 1) [] [] rfl ▸ hnd) hm), x.above n c hm⟩) ?_; intro cells NC Y)
  walk_at "showG"
  refine wpAny_mono (h _ s.heap.objs.size h₁ tk cells rfl rfl ⟨C.G.keeps st, (Mine.mkE4 _ _ _ _ ⟨BG, Around.frames_deeper hA, rfl, hk⟩), C.hh, ?_, ?_⟩ ⟨x.toInCall.ns, fun b o e => hk₁ b o (of_hideAll _ e), Nat.le_of_eq (hideAll_size _ _)⟩ (fun p hp => ⟨(NC p hp).1, (NC p hp).2.1, ?_⟩) Y hk₁ (fun p hp => ?_) _ .refl) (fun fl s' hl => ?_) fun _ _ y => y.elim
  · have := C.dp; show A.depth + 1 + n ≤ 900; omega
  · have := C.un; show A.units + 3 + 5 * n ≤ 5000; omega
  · cases q : (hideAll s.heap ch).get? p.1 with
    | none => rfl
    | some o => have := of_hideAll _ q; rw [(NC p hp).2.2] at this; cases this
  · have h1 := (NC p hp).2.2
    have h2 := (NC p hp).2.1
    have h3 : ¬ p.1 < s.heap.objs.size ∨ True := .inr trivial
    (refine Mine.exE1 (show ∃ c, (c, p.1) ∈ cellsFrom (s.heap.objs.size + 1) scope.names [] from by
      have : ∀ {cs : List (Str × Addr)} {cells : List (Addr × Obj)} {cm : Str → Option Value}, CellsAre cm cs cells → ∀ p ∈ cells, ∃ c, (c, p.1) ∈ cs := by
        intro cs cells cm Y
        induction Y with
        | nil => intro p hp; cases hp
        | cons _ _ ih =>
          intro p hp
          rcases List.mem_cons.mp hp with rfl | hp
          · exact ⟨_, .head _⟩
          · (refine Mine.exE1 (ih p hp) ?_; intro c hc); exact ⟨c, .tail _ hc⟩
      exact this Y p hp) ?_; intro c hc)
    exact x.above _ _ hc
  · (refine Mine.exE3A2 hl ?_; (try clear hl); intro h' tk m' hsb3 F' hR; subst hsb3)
    refine hQ _ _ _ hR (fun b o hb e => F'.keep b o (hideAll_get _ e hb)) ?_
    exact ⟨(Mine.mkE3 oL es ep ⟨F'.keep L oL hLg, hLd, hLk, hLf⟩), fun b o e => F'.keep b o (st b o e), F.above⟩
end


/-! part M1 -/
set_option maxHeartbeats 4000000

noncomputable abbrev PP : Program := PySem.Challenge.rw_rr0077_01.prog

/-- the coin: its dict at c, its cells at cl -/
structure CoinAt (w : World) (h : Heap) (c cl : Addr) (k : Int) : Prop where
  dict : ∃ (o : Obj) (t3 : Tok), h.get? c = some o ∧ o.IsDictOf (strKind PP w) [(Str.ofString "cells", .ref cl), (Str.ofString "flips", .int k t3)]
  cells : ∃ (vs : List Value) (ns : List Int) (n : Nat), h.get? cl = some (W.listOf vs.toArray n) ∧ IntsAre vs ns ∧ ns.length ≤ 60
  pos : 0 ≤ k

theorem dict_ne_list {w : World} {o : Obj} {kvs : List (Str × Value)} (h : o.IsDictOf (strKind PP w) kvs) {vs : Array Value} {n : Nat} (e : o = W.listOf vs n) : False := by
  (refine Mine.exE2A2 h ?_; (try clear h); intro es ep hx hd _)
  subst e
  cases hd

theorem news_of {h h₁ : Heap} {ch : List Addr} {a : Addr} {o : Obj} (e : h.get? a = some o) (hm : a ∈ ch) (hk : ∀ b o, h.get? b = some o → h₁.get? b = some o) : h₁.get? a = some o ∧ a ≠ h.objs.size ∧ (hideAll h ch).get? a = none :=
  ⟨hk _ _ e, Nat.ne_of_lt (Heap.lt_size e), hideAll_none _ hm⟩

theorem kfill_hook (P : Params) : PySem.Challenge.rw_rr0077_01.about = PySem.Challenge.rw_rr0077_01.about ∧ hd.heap_39 P = hd.heap_39 P := by
  k_fill
  exact ⟨rfl, rfl⟩

section
variable {w : World} {mg mb : Str → Option Value} {n : Nat} {A : Around} {h₀ : Heap} {L : Addr} {m : Str → Option Value} {s : Shared} {E : Value → Shared → Prop} {Q : Value → Shared → Prop}

theorem flip_spec {c cl : Addr} {k many : Int} {t : Tok} (C : Cx w mg mb (n + 1) A h₀ L) (F : Fr h₀ L s.heap m) (hc : h₀.get? c = none ∧ c ≠ L) (K : CoinAt w s.heap c cl k) (hk : k ≤ 10000) (hm : 0 < many) (hm2 : many ≤ 10000)
    (hQ : ∀ x tx h' tk, 0 ≤ x → x < many → CoinAt w h' c cl (k + 1) → Kp [c] s.heap h' → Fr h₀ L h' m → Q (.int x tx) { s with heap := h', toks := tk }) :
    wpAny (model PP w) A (call (.ref 85) [.ref c, .int many t]) Q E s := by
  walk_at "hideG"
  obtain ⟨⟨oc, t3, hd, hD⟩, ⟨vs, ns, nl, hl, hi, hle⟩, hp⟩ := K
  walk_at "showG"
  have hne : @Ne Nat c cl := by
    intro e; rw [e, hl] at hd; exact dict_ne_list hD (Option.some.inj hd).symm
  refine' callR (binds := [(Str.ofString "coin", .ref c), (Str.ofString "many", .int many t)]) (R := fun v h' => ∃ x tx, v = .int x tx ∧ 0 ≤ x ∧ x < many ∧ CoinAt w h' c cl (k + 1)) [c] C F (by simp [hc]) ?ho ?hcd ?hb ?hl ?h ?hQ ?hcell ?c1 ?c2 ?c3
  case ho => exact rfl
  case hcd => exact rfl
  case hb => exact BindsTo.of_eq rfl
  case hl => exact locs rfl
  case hcell => decide
  case c1 => rfl
  case c2 => rfl
  case c3 => rfl
  case hQ =>
    intro v h' tk hjo3 hk' F'
    walk_at "hideG"
    (refine Mine.exE2 hjo3 ?_; (try clear hjo3); intro x tx hrun5; refine Mine.exA3 hrun5 ?_; clear hrun5; intro hsb4 h1 h2 h3; subst hsb4)
    walk_at "showG"
    exact hQ _ _ _ _ h1 h2 h3 hk' F'
  case h =>
    intro g L' h₁ hg hL' C' F' hk₁ kQ1 kU1
    have hgl : g.get? cl = some (W.listOf vs.toArray nl) := by rw [hg]; exact hideAll_get _ hl (by simp; exact Ne.symm hne)
    have hLs : g.IsList cl vs.toArray := (Mine.mkE1A2E1 _ hgl rfl _ rfl)
    have N : News g L' h₁ [(c, oc)] := by
      rw [hg, hL']
      exact List.forall_mem_cons.mpr ⟨news_of hd (by simp) hk₁, by simp⟩
    have X := C'.G.X
    have T := C'.G.T
    clear hk₁ hg hL'
    (repeat' (first | (walk_at "behind") | walk1 | (dsimp only; walk1)))
    all_goals (
      refine retR (by assumption) (Mine.mkE2 _ _ ⟨rfl, ?_, ?_, ⟨(Mine.mkE2A1 _ _ ((by k_asm : News _ _ _ _).get (.head _)) (by assumption)), (Mine.mkE3A2 vs ns nl (Fr.keep (by assumption) _ _ hgl) hi hle), by omega⟩⟩)
      · exact Int.fmod_nonneg_of_pos _ hm
      · exact Int.fmod_lt_of_pos _ hm)
end

/-! part M2 -/
set_option maxHeartbeats 4000000

/-- what a for's turn ends in -/
def TurnEnd (h₀ : Heap) (L I : Addr) (oI : Obj) (Jn : (Str → Option Value) → List (Addr × Obj) → Prop) (s : Shared) (Q : Flow → Shared → Prop) (f : Flow) (s₂ : Shared) : Prop :=
  match f with
  | .ret v => Q (.ret v) s₂
  | .brk => Q .next s₂
  | _ => ∃ h' tk m' nx, s₂ = { s with heap := h', toks := tk } ∧ Fr h₀ L h' m' ∧ News h₀ L h' ((I, oI) :: nx) ∧ (∀ p ∈ nx, p.1 ≠ I) ∧ Jn m' nx
theorem go_tret {h₀ : Heap} {L I : Addr} {oI : Obj} {Jn : (Str → Option Value) → List (Addr × Obj) → Prop} {s s₂ : Shared} {Q Q' : Flow → Shared → Prop} {v : Value} (k : Under (TurnEnd h₀ L I oI Jn s Q) Q') (h : Q (.ret v) s₂) : Q' (.ret v) s₂ := k _ _ h
theorem go_tbrk {h₀ : Heap} {L I : Addr} {oI : Obj} {Jn : (Str → Option Value) → List (Addr × Obj) → Prop} {s s₂ : Shared} {Q Q' : Flow → Shared → Prop} (k : Under (TurnEnd h₀ L I oI Jn s Q) Q') (h : Q .next s₂) : Q' .brk s₂ := k _ _ h
set_option hygiene false in
local macro_rules
| `(tactic| walk_at "behind") => `(tactic| (
  (fail_if_success (with_reducible show wpAny _ _ _ _ _ _));
  first
  | (refine Mine.go_tret (by with_reducible assumption) ?_; walk_at "drop")
  | (refine Mine.go_tbrk (by with_reducible assumption) ?_; walk_at "drop")
  | fail "behind"))

section
variable {prog : Program} {w : World} {A : Around} {E : Value → Shared → Prop} {s : Shared} {env : Env} {h₀ : Heap} {x : Str} {px : Pos} {body : List Stmt} {Q : Flow → Shared → Prop} {m : Str → Option Value} {news : List (Addr × Obj)}

theorem for_code {R : Result → Shared → Prop} {I : Addr} {fp : List Addr} {n : Nat} {P : Nat → Value → Prop} {St : Nat → Heap → Prop}
    (W : Walks prog w A I fp [I] n P St) (hx : env.kindOf x = some .local)
    (hp : (env.scope.kind == .class || (env.scope.kind == .module && env.locals != env.globals)) = false)
    (hLf : env.locals ∉ fp) (hI0 : h₀.get? I = none) (hnw : ∀ p ∈ news, p.1 ≠ I) (hlive : ∀ i h, St i h → ∃ o, h.get? I = some o)
    (hst : St 0 s.heap) (F : Fr h₀ env.locals s.heap m) (N : News h₀ env.locals s.heap news)
    (J : Nat → (Str → Option Value) → List (Addr × Obj) → Prop) (h0 : J 0 m news)
    (hfp : ∀ b ∈ fp, b = I ∨ (∃ o, h₀.get? b = some o) ∨ (∃ o, ∀ i m nx, J i m nx → (b, o) ∈ nx))
    (turn : ∀ i v m₁ nx h tk oI, i < n → P i v → J i m₁ nx → (∀ p ∈ nx, p.1 ≠ I) → Fr h₀ env.locals h (fun y => if y = x then some v else m₁ y) → News h₀ env.locals h ((I, oI) :: nx) →
      ∀ Q', Under (TurnEnd h₀ env.locals I oI (J (i + 1)) s Q) Q' → wpAny (model prog w) A (execs body env) Q' (fun _ _ => False) { s with heap := h, toks := tk })
    (hQ : ∀ f s', Q f s' → R (.ok f) s')
    (hR : ∀ h' tk m' news', Fr h₀ env.locals h' m' → News h₀ env.locals h' news' → (∀ p ∈ news', p.1 ≠ I) → J n m' news' → Q .next { s with heap := h', toks := tk }) :
    codeAny (model prog w) A (.forLoop (.Name x px) (.ref I) body [] env) R s := by
  have hIL : I ≠ env.locals := fun e => by
    have hfpI : I ∈ fp := W.sub _ (List.mem_singleton.mpr rfl)
    exact hLf (e ▸ hfpI)
  have old : ∀ b o, h₀.get? b = some o → b ∉ [I] := fun b o e hb => by rw [List.mem_singleton.mp hb, hI0] at e; cases e
  refine codeAny_forLoop
    (fun k s' => ∃ h' tk m' news' i, s' = { s with heap := h', toks := tk } ∧ St i h' ∧ Fr h₀ env.locals h' m' ∧ News h₀ env.locals h' news' ∧ (∀ p ∈ news', p.1 ≠ I) ∧ J i m' news' ∧ i ≤ n ∧ k = n + 1 - i) ?_ (n + 1)
    (Mine.mkE5 s.heap s.toks m news 0 ⟨rfl, hst, F, N, hnw, h0, Nat.zero_le _, rfl⟩)
  intro k s' hjo2
  walk_at "hideG"
  (refine Mine.exE5 hjo2 ?_; (try clear hjo2); intro h' tk m' news' i hrun8; refine Mine.exA7 hrun8 ?_; clear hrun8; intro hsb6 hst' F' N' hnw' hJ hi hsb7; subst hsb6; subst hsb7)
  walk_at "showG"
  have next : ∀ h₁ : Heap, (∀ b o, b ∉ [I] → h'.get? b = some o → h₁.get? b = some o) → Fr h₀ env.locals h₁ m' ∧ News h₀ env.locals h₁ news' := fun h₁ hk₁ =>
    ⟨⟨F'.ns.at' fun o e => hk₁ _ o (fun q => hIL (List.mem_singleton.mp q).symm) e, fun b o e => hk₁ b o (old b o e) (F'.keep b o e), F'.above⟩, fun p hp => ⟨hk₁ _ _ (fun q => hnw' p hp (List.mem_singleton.mp q)) (N' p hp).1, (N' p hp).2⟩⟩
  by_cases hlt : i < n
  · refine W.item i _ _ _ hlt hst' fun v h₁ tk₁ hP hst₁ hk₁ => ?_
    (refine Mine.exA1 (next h₁ hk₁) ?_; intro F₁ N₁)
    refine wpAny_assign_Name (wpAny_storeName_local hx F₁.ns (fun h₂ hn₂ hs₂ => ?_) hp)
    have F₂ := F₁.set hn₂ hs₂
    have hst₂ : St (i + 1) h₂ := W.frame _ _ _ hst₁ fun b hb o e => (hs₂.2 b fun q => hLf (q ▸ hb)).trans e
    (refine Mine.exE1 (hlive _ _ hst₂) ?_; intro oI hoI)
    have N₂ : News h₀ env.locals h₂ ((I, oI) :: news') := List.forall_mem_cons.mpr ⟨⟨hoI, hIL, hI0⟩, N₁.set hs₂⟩
    have back : ∀ h₃ m₂ nx, Fr h₀ env.locals h₃ m₂ → News h₀ env.locals h₃ ((I, oI) :: nx) → J (i + 1) m₂ nx → St (i + 1) h₃ := fun h₃ m₂ nx F₃ N₃ hJ₃ => by
      refine W.frame _ _ _ hst₂ fun b hb o e => ?_
      rcases hfp b hb with rfl | ⟨o₀, e₀⟩ | ⟨o₀, hm⟩
      · rw [hoI] at e; cases e; exact (N₃ _ (.head _)).1
      · have := F₂.keep b o₀ e₀; rw [e] at this; cases this; exact F₃.keep b _ e₀
      · have h1 := (N₂ _ (.tail _ (hm _ _ _ hJ))).1
        rw [e] at h1; cases h1
        exact (N₃ _ (.tail _ (hm _ _ _ hJ₃))).1
    refine wpAny_mono (turn i v m' news' _ _ oI hlt hP hJ hnw' F₂ N₂ _ .refl) (fun f s₃ h₃ => ?_) fun _ _ e => e.elim
    cases f with
    | ret v => exact hQ _ _ h₃
    | brk => exact hQ _ _ h₃
    | cont =>
      walk_at "hideG"
      (refine Mine.exE4A4 h₃ ?_; (try clear h₃); intro h₃' tk₃ m₂ nx hsb9 F₃ N₃ ha₃ hJ₃; subst hsb9)
      walk_at "showG"
      exact ⟨n + 1 - (i + 1), ⟨by omega, (Mine.mkE5 h₃' tk₃ m₂ nx (i + 1) ⟨rfl, back _ _ _ F₃ N₃ hJ₃, F₃, fun p hp => N₃ p (.tail _ hp), ha₃, hJ₃, hlt, rfl⟩)⟩⟩
    | next =>
      walk_at "hideG"
      (refine Mine.exE4A4 h₃ ?_; (try clear h₃); intro h₃' tk₃ m₂ nx hsb10 F₃ N₃ ha₃ hJ₃; subst hsb10)
      walk_at "showG"
      exact ⟨n + 1 - (i + 1), ⟨by omega, (Mine.mkE5 h₃' tk₃ m₂ nx (i + 1) ⟨rfl, back _ _ _ F₃ N₃ hJ₃, F₃, fun p hp => N₃ p (.tail _ hp), ha₃, hJ₃, hlt, rfl⟩)⟩⟩
  · have hin : i = n := by omega
    subst hin
    refine W.done _ _ _ hst' fun h₁ tk₁ hk₁ => wpAny_execs_nil ?_
    (refine Mine.exA1 (next h₁ hk₁) ?_; intro F₁ N₁)
    exact hQ _ _ (hR h₁ tk₁ m' news' F₁ N₁ hnw' hJ)

/-- a for over a list that the ground holds, or that the ledger holds throughout -/
theorem for_list {l : Addr} {items : Array Value} (J : Nat → (Str → Option Value) → List (Addr × Obj) → Prop)
    (hh : A.handled = none) (hl : s.heap.IsList l items) (F : Fr h₀ env.locals s.heap m) (N : News h₀ env.locals s.heap news)
    (hj : J 0 m news)
    (hwh : (∃ o, h₀.get? l = some o) ∨ (l ≠ env.locals ∧ ∃ o, ∀ i m nx, J i m nx → (l, o) ∈ nx))
    (turn : ∀ i v m₁ nx h tk I oI, items[i]? = some v → J i m₁ nx → (∀ p ∈ nx, p.1 ≠ I) → Fr h₀ env.locals h (fun y => if y = x then some v else m₁ y) → News h₀ env.locals h ((I, oI) :: nx) →
      ∀ Q', Under (TurnEnd h₀ env.locals I oI (J (i + 1)) s Q) Q' → wpAny (model prog w) A (execs body env) Q' (fun _ _ => False) { s with heap := h, toks := tk })
    (done : ∀ m₁ nx h tk, J items.size m₁ nx → Fr h₀ env.locals h m₁ → News h₀ env.locals h nx → Q .next { s with heap := h, toks := tk })
    (hx : env.kindOf x = some .local)
    (hp : (env.scope.kind == .class || (env.scope.kind == .module && env.locals != env.globals)) = false) :
    wpAny (model prog w) A (pyIter (.ref l)) (fun it s₂ => codeAny (model prog w) A (.forLoop (.Name x px) it body [] env) (fun r s' => match r with | .ok f => Q f s' | .error e => cameBackBy (model prog w) A env E e s') s₂) E s := by
  (refine Mine.exE1A1 (id hl) ?_; intro ol hol _)
  have hll : l < s.heap.objs.size := Heap.lt_size hol
  have hne : l ≠ s.heap.objs.size := Nat.ne_of_lt hll
  have hlL : l ≠ env.locals := by
    rcases hwh with ⟨o, e⟩ | ⟨h, _⟩
    · exact Nat.ne_of_lt (Nat.lt_of_lt_of_le (Heap.lt_size e) F.above)
    · exact h
  refine wpAny_pyIter_list hl ?_
  have W := Walks.list (prog := prog) (w := w) hh s.heap.objs.size l hne items
  refine for_code (m := m) (news := news) W hx hp ?_ (next_is_new F) (fun p hp e => absurd (Heap.lt_size (N p hp).1) (e ▸ Nat.lt_irrefl _)) (fun i h st => ?_)
    ⟨(Mine.mkE1A2 _ (Heap.get?_push_size _ rfl) rfl rfl), hl.at fun o e => Heap.get?_push_of_some _ e⟩ (F.push _) (fun p hp => ⟨Heap.get?_push_of_some _ (N p hp).1, (N p hp).2⟩) J hj ?_
    (fun i v m₁ nx h tk oI _ hP hJ hn F₁ N₁ => turn i v m₁ nx h tk _ oI hP hJ hn F₁ N₁) (fun f s' h => h) (fun h' tk m' news' F' N' _ hJ => done m' news' h' tk hJ F' N')
  · intro hm
    rcases List.mem_cons.mp hm with e | hm
    · exact absurd F.ns.lt (e ▸ Nat.lt_irrefl _)
    · exact hlL (List.mem_singleton.mp hm).symm
  · (refine Mine.exA1 st ?_; (try clear st); intro hnst11 _; obtain ⟨o, ho, _⟩ := hnst11); exact ⟨o, ho⟩
  · intro b hb
    rcases List.mem_cons.mp hb with e | hb
    · exact .inl e
    · rw [List.mem_singleton.mp hb]
      rcases hwh with h | ⟨_, h⟩
      · exact .inr (.inl h)
      · exact .inr (.inr h)

theorem for_tuple {l : Addr} {items : Array Value} (J : Nat → (Str → Option Value) → List (Addr × Obj) → Prop)
    (hh : A.handled = none) (hl : s.heap.IsTuple l items) (F : Fr h₀ env.locals s.heap m) (N : News h₀ env.locals s.heap news)
    (hj : J 0 m news)
    (hwh : (∃ o, h₀.get? l = some o) ∨ (l ≠ env.locals ∧ ∃ o, ∀ i m nx, J i m nx → (l, o) ∈ nx))
    (turn : ∀ i v m₁ nx h tk I oI, items[i]? = some v → J i m₁ nx → (∀ p ∈ nx, p.1 ≠ I) → Fr h₀ env.locals h (fun y => if y = x then some v else m₁ y) → News h₀ env.locals h ((I, oI) :: nx) →
      ∀ Q', Under (TurnEnd h₀ env.locals I oI (J (i + 1)) s Q) Q' → wpAny (model prog w) A (execs body env) Q' (fun _ _ => False) { s with heap := h, toks := tk })
    (done : ∀ m₁ nx h tk, J items.size m₁ nx → Fr h₀ env.locals h m₁ → News h₀ env.locals h nx → Q .next { s with heap := h, toks := tk })
    (hx : env.kindOf x = some .local)
    (hp : (env.scope.kind == .class || (env.scope.kind == .module && env.locals != env.globals)) = false) :
    wpAny (model prog w) A (pyIter (.ref l)) (fun it s₂ => codeAny (model prog w) A (.forLoop (.Name x px) it body [] env) (fun r s' => match r with | .ok f => Q f s' | .error e => cameBackBy (model prog w) A env E e s') s₂) E s := by
  (refine Mine.exE1A1 (id hl) ?_; intro ol hol _)
  have hll : l < s.heap.objs.size := Heap.lt_size hol
  have hne : l ≠ s.heap.objs.size := Nat.ne_of_lt hll
  have hlL : l ≠ env.locals := by
    rcases hwh with ⟨o, e⟩ | ⟨h, _⟩
    · exact Nat.ne_of_lt (Nat.lt_of_lt_of_le (Heap.lt_size e) F.above)
    · exact h
  refine wpAny_pyIter_tuple hl ?_
  have W := Walks.tuple (prog := prog) (w := w) hh s.heap.objs.size l hne items
  refine for_code (m := m) (news := news) W hx hp ?_ (next_is_new F) (fun p hp e => absurd (Heap.lt_size (N p hp).1) (e ▸ Nat.lt_irrefl _)) (fun i h st => ?_)
    ⟨(Mine.mkE1A2 _ (Heap.get?_push_size _ rfl) rfl rfl), hl.at fun o e => Heap.get?_push_of_some _ e⟩ (F.push _) (fun p hp => ⟨Heap.get?_push_of_some _ (N p hp).1, (N p hp).2⟩) J hj ?_
    (fun i v m₁ nx h tk oI _ hP hJ hn F₁ N₁ => turn i v m₁ nx h tk _ oI hP hJ hn F₁ N₁) (fun f s' h => h) (fun h' tk m' news' F' N' _ hJ => done m' news' h' tk hJ F' N')
  · intro hm
    rcases List.mem_cons.mp hm with e | hm
    · exact absurd F.ns.lt (e ▸ Nat.lt_irrefl _)
    · exact hlL (List.mem_singleton.mp hm).symm
  · (refine Mine.exA1 st ?_; (try clear st); intro hnst12 _; obtain ⟨o, ho, _⟩ := hnst12); exact ⟨o, ho⟩
  · intro b hb
    rcases List.mem_cons.mp hb with e | hb
    · exact .inl e
    · rw [List.mem_singleton.mp hb]
      rcases hwh with h | ⟨_, h⟩
      · exact .inr (.inl h)
      · exact .inr (.inr h)

theorem for_range {r : Addr} {a₀ b₀ : Int} {t₀ u₀ v₀ : Tok} {n : Nat} (J : Nat → (Str → Option Value) → List (Addr × Obj) → Prop)
    (hh : A.handled = none) (hr : IsRange s.heap r a₀ b₀ 1 t₀ u₀ v₀) (hsmall : Builtin.Range.small a₀ b₀ 1 = true) (hsz : Builtin.Range.rangeSize a₀ b₀ 1 = (n : Int)) (F : Fr h₀ env.locals s.heap m) (N : News h₀ env.locals s.heap news)
    (hj : J 0 m news)
    (turn : ∀ i t m₁ nx h tk I oI, i < n → J i m₁ nx → (∀ p ∈ nx, p.1 ≠ I) → Fr h₀ env.locals h (fun y => if y = x then some (.int (a₀ + (i : Int)) t) else m₁ y) → News h₀ env.locals h ((I, oI) :: nx) →
      ∀ Q', Under (TurnEnd h₀ env.locals I oI (J (i + 1)) s Q) Q' → wpAny (model prog w) A (execs body env) Q' (fun _ _ => False) { s with heap := h, toks := tk })
    (done : ∀ m₁ nx h tk, J n m₁ nx → Fr h₀ env.locals h m₁ → News h₀ env.locals h nx → Q .next { s with heap := h, toks := tk })
    (hx : env.kindOf x = some .local)
    (hp : (env.scope.kind == .class || (env.scope.kind == .module && env.locals != env.globals)) = false) :
    wpAny (model prog w) A (pyIter (.ref r)) (fun it s₂ => codeAny (model prog w) A (.forLoop (.Name x px) it body [] env) (fun r s' => match r with | .ok f => Q f s' | .error e => cameBackBy (model prog w) A env E e s') s₂) E s := by
  refine wpAny_pyIter_range hr hsmall ?_
  have W : Walks prog w A s.heap.objs.size [s.heap.objs.size] [s.heap.objs.size] n (fun i v => i < n ∧ ∃ t, v = .int (a₀ + i * 1) t)
      (fun i h => IsRangeIter h s.heap.objs.size (a₀ + (i : Nat) * 1) ((n : Int) - (i : Nat)) 1) := (Walks.range hh _ a₀ 1 n).bound
  refine for_code (m := m) (news := news) W hx hp ?_ (next_is_new F) (fun p hp e => absurd (Heap.lt_size (N p hp).1) (e ▸ Nat.lt_irrefl _)) (fun i h st => ⟨_, st⟩)
    (by show IsRangeIter _ _ _ _ _; rw [hsz]; simpa using Heap.get?_push_size _ rfl) (F.push _) (fun p hp => ⟨Heap.get?_push_of_some _ (N p hp).1, (N p hp).2⟩) J hj (fun b hb => .inl (List.mem_singleton.mp hb))
    ?_ (fun f s' h => h) (fun h' tk m' news' F' N' _ hJ => done m' news' h' tk hJ F' N')
  · intro hm
    exact absurd F.ns.lt ((List.mem_singleton.mp hm) ▸ Nat.lt_irrefl _)
  · rintro i v m₁ nx h tk oI _ ⟨hi, t, rfl⟩ hJ hn F₁ N₁
    have e1 : a₀ + (i : Int) * 1 = a₀ + (i : Int) := by omega
    rw [e1] at F₁
    exact turn i t m₁ nx h tk _ oI hi hJ hn F₁ N₁
end

/-! part M3 -/
set_option maxHeartbeats 4000000

/-- the ledger of a comprehension's turn -/
noncomputable abbrev cled (I D C : Addr) (oI oD oC : Obj) (nx : List (Addr × Obj)) : List (Addr × Obj) := (I, oI) :: (D, oD) :: (C, oC) :: nx

/-- the block's own names, behind its walk -/
structure CFree (h₀ : Heap) (L C D : Addr) (nx : List (Addr × Obj)) (h : Heap) (m : Str → Option Value) : Prop where
  ns : h.Ns C m
  neL : C ≠ L
  no : h₀.get? C = none
  off : ∀ q ∈ nx, q.1 ≠ C
  neD : D ≠ C

section
variable {prog : Program} {w : World} {A : Around} {E : Value → Shared → Prop} {env : Env} {h₀ : Heap} {L : Addr} {m : Str → Option Value}

theorem comp_block {elt iter : Expr} {x : Str} {px : Pos} {ifs : List Expr} {scope : Scope} {cl : List (Str × Addr)} {pos : Pos} {s₂ : Shared} {I : Addr} {fp : List Addr} {n : Nat} {P : Nat → Value → Prop}
    {St : Nat → Heap → Prop} {RR : Value → Addr → Result → Shared → Prop} {news : List (Addr × Obj)} (Wk : Walks prog w A I fp [I] n P St) (hsz : n ≤ sizeLine) (p : Value → Bool) (J : List Value → List Value → List (Addr × Obj) → Prop)
    (hcell : ∀ y ∈ scope.names, y.2 ≠ .cell) (hkind : scope.kind = .function) (hx : scope.names.lookup x = some .local) (hst : St 0 s₂.heap) (hI : I < s₂.heap.objs.size) (hIL : I ≠ L) (hI0 : h₀.get? I = none) (hnI : ∀ q ∈ news, q.1 ≠ I)
    (hlive : ∀ i h, St i h → ∃ o, h.get? I = some o) (hfp : ∀ b ∈ fp, b = I ∨ (∃ o, h₀.get? b = some o) ∨ (∃ o, ∀ vs ys nx, J vs ys nx → (b, o) ∈ nx))
    (F : Fr h₀ L s₂.heap m) (N : News h₀ L s₂.heap news) (hJ0 : J [] [] news)
    (tests : ∀ I D C oI oD oC vs v ys nx (s₃ : Shared) (m₃ : Str → Option Value), P vs.length v → J vs ys nx → Fr h₀ L s₃.heap m → News h₀ L s₃.heap (cled I D C oI oD oC nx) → (∀ h : Heap, h.get? C = some oC → h.Ns C m₃) → m₃ x = some v →
      wpAny (model prog w) A (forIn ifs true fun c r => if r = true then do let ok ← isTrue c (compEnvC scope cl C env) (eval c (compEnvC scope cl C env)); pure (ForInStep.yield ok) else pure (ForInStep.yield r))
        (fun ok s₄ => ok = p v ∧ ∃ tk, s₄ = { s₃ with toks := tk }) (fun _ _ => False) s₃)
    (skip : ∀ vs v ys nx, P vs.length v → p v = false → J vs ys nx → J (vs ++ [v]) ys nx)
    (helt : ∀ I D C oI oD oC vs v ys nx (s₃ : Shared) (m₃ : Str → Option Value), P vs.length v → p v = true → J vs ys nx → (∀ q ∈ nx, q.1 ≠ I ∧ q.1 ≠ D ∧ q.1 ≠ C) → (I ≠ D ∧ I ≠ C ∧ D ≠ C) → Fr h₀ L s₃.heap m → News h₀ L s₃.heap (cled I D C oI oD oC nx) → (∀ h : Heap, h.get? C = some oC → h.Ns C m₃) → m₃ x = some v →
      wpAny (model prog w) A (eval elt (compEnvC scope cl C env)) (fun y s₄ => ∃ h' tk nx', s₄ = { s₃ with heap := h', toks := tk } ∧ Fr h₀ L h' m ∧ News h₀ L h' (cled I D C oI oD oC nx') ∧ (∀ q ∈ nx', q.1 ≠ I ∧ q.1 ≠ D ∧ q.1 ≠ C) ∧ J (vs ++ [v]) (ys ++ [y]) nx') (fun _ _ => False) s₃)
    (hRR : ∀ D C h' tk m' ys vs nx nD, vs.length = n → (∀ j v, vs[j]? = some v → P j v) → J vs ys nx → Fr h₀ L h' m → News h₀ L h' ((D, W.listOf ys.toArray nD) :: nx) → (∀ q ∈ nx, q.1 ≠ D) → s₂.heap.objs.size ≤ D → CFree h₀ L C D nx h' m' → RR (.ref D) C (.ok .next) { s₂ with heap := h', toks := tk }) :
    wpAny (model prog w) A (newList []) (fun acc s₃ => wpAny (model prog w) A (newFunctionEnv scope env.globals cl [] env.qual none .none (some env)) (fun cenv s₄ =>
      codeAny (model prog w) A (.compStart (.ListComp elt [⟨.Name x px, iter, ifs, 0⟩] scope pos) 0 (.ref I) acc { cenv with scope := relabel scope env }) (RR acc cenv.locals) s₄) E s₃) E s₂ := by
  refine wpAny_newObj_type (wpAny_newFunctionEnv hcell (by intro y hy; simp at hy) (fun h₁ hns₁ hsb₁ => ?_) hkind)
  dsimp only at hns₁ hsb₁ ⊢
  have FH2 := F.push { cls := .type "list", dict := none, data := .seq ([] : List Value).toArray }
  have NH2 := News.push F N { cls := .type "list", dict := none, data := .seq ([] : List Value).toArray } rfl
  generalize hH2 : s₂.heap.push { cls := .type "list", dict := none, data := .seq ([] : List Value).toArray } = H2 at hns₁ hsb₁ FH2 NH2 ⊢
  have hC : H2.objs.size = s₂.heap.objs.size + 1 := by rw [← hH2, Heap.size_push]
  generalize hD' : s₂.heap.objs.size = D at *
  generalize hC' : H2.objs.size = C at *
  have hDC : D ≠ C := by rw [hC]; exact Nat.ne_of_lt (Nat.lt_succ_self _)
  have hID : I ≠ D := Nat.ne_of_lt hI
  have hIC : I ≠ C := by rw [hC]; exact Nat.ne_of_lt (Nat.lt_succ_of_lt hI)
  have hCL : C ≠ L := fun e => by have := FH2.ns.lt; rw [hC', e] at this; exact Nat.lt_irrefl _ this
  have hC0 : h₀.get? C = none := by have := next_is_new FH2; rwa [hC'] at this
  have hDL : D ≠ L := (NH2 _ (.head _)).2.1
  have hD0 : h₀.get? D = none := (NH2 _ (.head _)).2.2
  have keep₁ : ∀ b o, b ≠ C → H2.get? b = some o → h₁.get? b = some o := fun b o hb e => hsb₁.extBut b o hb (Heap.get?_push_of_some _ e)
  have old : ∀ b o, s₂.heap.get? b = some o → h₁.get? b = some o := fun b o e =>
    keep₁ b o (fun q => by have := Heap.lt_size e; rw [hD', q, hC] at this; exact absurd this (Nat.not_lt.mpr (Nat.le_succ _))) (hH2 ▸ Heap.get?_push_of_some _ e)
  have F₁ : Fr h₀ L h₁ m := ⟨F.ns.keeps old, fun b o e => old b o (F.keep b o e), F.above⟩
  have hacc : h₁.PlainList D #[] := ⟨_, keep₁ D _ hDC (NH2 _ (.head _)).1⟩
  have hst₁ : St 0 h₁ := Wk.frame _ _ _ hst fun b _ o e => old b o e
  have hnew : ∀ q ∈ news, q.1 < D := fun q hq => hD' ▸ Heap.lt_size (N q hq).1
  have kx : (compEnvC scope cl C env).kindOf x = some .local := lookup_relabel_local hx
  have loop : ∀ s₃ : Shared, s₃ = { s₂ with heap := h₁, toks := s₂.toks + ([] : List (Str × Value)).length } →
      codeAny (model prog w) A (.compLoop (.ListComp elt [⟨.Name x px, iter, ifs, 0⟩] scope pos) 0 (.ref I) (.ref D) (compEnvC scope cl C env)) (RR (.ref D) C) s₃ := by
    rintro s₃ rfl
    refine codeAny_compLoop_tests
      (fun k s' => ∃ h' tk m' nD nx, ∃ vs ys : List Value, s' = { s₂ with heap := h', toks := tk } ∧ St vs.length h' ∧ h'.Ns C m' ∧ Fr h₀ L h' m ∧ h'.get? D = some (W.listOf ys.toArray nD) ∧ News h₀ L h' nx ∧
        (∀ q ∈ nx, q.1 ≠ I ∧ q.1 ≠ D ∧ q.1 ≠ C) ∧ J vs ys nx ∧ (∀ j v, vs[j]? = some v → P j v) ∧ ys.length ≤ vs.length ∧ vs.length ≤ n ∧ k = n + 1 - vs.length) ?_ (n + 1)
      (Mine.mkE7 h₁ _ _ _ news ([]) ([]) ⟨rfl, hst₁, hns₁, F₁, hacc.choose_spec, fun q hq => ⟨old _ _ (N q hq).1, (N q hq).2⟩, fun q hq => ⟨hnI q hq, Nat.ne_of_lt (hnew q hq), by rw [hC]; exact Nat.ne_of_lt (Nat.lt_succ_of_lt (hnew q hq))⟩, hJ0, by simp, Nat.le_refl _, Nat.zero_le _, rfl⟩)
    intro k s' hjo2
    walk_at "hideG"
    (refine Mine.exE7 hjo2 ?_; (try clear hjo2); intro H tk m' nD nx vs ys hrun15; refine Mine.exA11 hrun15 ?_; clear hrun15; intro hsb13 hst' hn' F' hD1 N' hap hJ hP hly hi hsb14; subst hsb13; subst hsb14)
    walk_at "showG"
    have oldI : ∀ b o, h₀.get? b = some o → b ≠ I := fun b o e q => by rw [q, hI0] at e; cases e
    by_cases hlt : vs.length < n
    · refine Wk.item vs.length _ _ _ hlt hst' fun v h₂ tk₂ hPv hst₂ hk₂ => ?_
      have hk₂' : ∀ b o, b ≠ I → H.get? b = some o → h₂.get? b = some o := fun b o hb e => hk₂ b o (fun q => hb (List.mem_singleton.mp q)) e
      have F₂ : Fr h₀ L h₂ m := ⟨F'.ns.at' fun o e => hk₂' _ o (Ne.symm hIL) e, fun b o e => hk₂' b o (oldI b o e) (F'.keep b o e), F'.above⟩
      refine wpAny_assign_Name (wpAny_storeName_local (env := compEnvC scope cl C env) kx (hn'.at' fun o e => hk₂' _ o (Ne.symm hIC) e) (fun h₃ hn₃ hs₃ => ?_) (by simp [compEnvC, relabel, hkind]))
      have hk₃ : ∀ b o, b ≠ C → h₂.get? b = some o → h₃.get? b = some o := fun b o hb e => hs₃.extBut b o hb e
      (refine Mine.exE3A1 (id hn₃) ?_; intro oC esC epC hoC hrC)
      (refine Mine.exE1 (hlive _ _ hst₂) ?_; intro oI hoI)
      have hoI₃ := hk₃ I oI hIC hoI
      have F₃ : Fr h₀ L h₃ m := ⟨F₂.ns.at' fun o e => hk₃ _ o (Ne.symm hCL) e, fun b o e => hk₃ b o (fun q => by rw [q, hC0] at e; cases e) (F₂.keep b o e), F₂.above⟩
      have hD₃ : h₃.get? D = some (W.listOf ys.toArray nD) := hk₃ _ _ hDC (hk₂' _ _ (Ne.symm hID) hD1)
      have N₃ : News h₀ L h₃ (cled I D C oI (W.listOf ys.toArray nD) oC nx) := by
        intro q hq
        rcases List.mem_cons.mp hq with rfl | hq
        · exact ⟨hoI₃, hIL, hI0⟩
        rcases List.mem_cons.mp hq with rfl | hq
        · exact ⟨hD₃, hDL, hD0⟩
        rcases List.mem_cons.mp hq with rfl | hq
        · exact ⟨hoC, hCL, hC0⟩
        · exact ⟨hk₃ _ _ (hap q hq).2.2 (hk₂' _ _ (hap q hq).1 (N' q hq).1), (N' q hq).2⟩
      have hst₃ : St (vs.length + 1) h₃ := Wk.frame _ _ _ hst₂ fun b hb o e => by
        rcases hfp b hb with rfl | ⟨o₀, e₀⟩ | ⟨o₀, hm⟩
        · exact hk₃ _ _ hIC e
        · exact hk₃ _ _ (fun q => by rw [q, hC0] at e₀; cases e₀) e
        · exact hk₃ _ _ (hap _ (hm _ _ _ hJ)).2.2 e
      have hCN : ∀ h : Heap, h.get? C = some oC → h.Ns C (fun y => if y = x then some v else m' y) := fun h e => (Mine.mkE3 oC esC epC ⟨e, hrC⟩)
      have back : ∀ h₄ vs' ys' nx', Fr h₀ L h₄ m → h₄.get? I = some oI → News h₀ L h₄ nx' → J vs' ys' nx' → St (vs.length + 1) h₄ := fun h₄ vs' ys' nx' F₄ eI N₄ hJ₄ => by
        refine Wk.frame _ _ _ hst₃ fun b hb o e => ?_
        rcases hfp b hb with rfl | ⟨o₀, e₀⟩ | ⟨o₀, hm⟩
        · rw [hoI₃] at e; cases e; exact eI
        · have := F₃.keep b o₀ e₀; rw [e] at this; cases this; exact F₄.keep b _ e₀
        · have h1 := (N₃ _ (.tail _ (.tail _ (.tail _ (hm _ _ _ hJ))))).1
          rw [e] at h1; cases h1
          exact (N₄ _ (hm _ _ _ hJ₄)).1
      have hP' : ∀ j u, (vs ++ [v])[j]? = some u → P j u := fun j u hj => by
        rcases Nat.lt_trichotomy j vs.length with h | h | h
        · exact hP j u (by rwa [List.getElem?_append_left h] at hj)
        · subst h; simp at hj; subst hj; exact hPv
        · have hnone : (vs ++ [v])[j]? = none := List.getElem?_eq_none (by rw [List.length_append, List.length_singleton]; omega)
          rw [hnone] at hj; cases hj
      refine wpAny_mono (tests I D C oI _ oC vs v ys nx { s₂ with heap := h₃, toks := tk₂ + 1 } _ hPv hJ F₃ N₃ hCN (by simp)) (fun ok s₃ h => ?_) fun _ _ e => e.elim
      (refine Mine.exA1 h ?_; (try clear h); intro hsb16 hrun18; refine Mine.exE1 hrun18 ?_; clear hrun18; intro tk₃ hsb17; subst hsb16; subst hsb17)
      cases hpv : p v with
      | false =>
        simp only [Bool.false_eq_true, if_false]
        exact ⟨n + 1 - (vs.length + 1), ⟨by omega, (Mine.mkE7 h₃ tk₃ _ nD nx (vs ++ [v]) ys ⟨rfl, by simpa using hst₃, hn₃, F₃, hD₃, fun q hq => N₃ q (.tail _ (.tail _ (.tail _ hq))), hap, skip _ _ _ _ hPv hpv hJ, hP', by rw [List.length_append, List.length_singleton]; omega, by rw [List.length_append, List.length_singleton]; exact hlt, by rw [List.length_append, List.length_singleton]⟩)⟩⟩
      | true =>
        simp only [if_true]
        refine wpAny_mono (helt I D C oI _ oC vs v ys nx { s₂ with heap := h₃, toks := tk₃ } _ hPv hpv hJ hap ⟨hID, hIC, hDC⟩ F₃ N₃ hCN (by simp)) (fun y s₄ h => ?_) fun _ _ e => e.elim
        walk_at "hideG"
        (refine Mine.exE3 h ?_; (try clear h); intro h₄ tk₄ nx' hrun20; refine Mine.exA4 hrun20 ?_; clear hrun20; intro hsb19 F₄ N₄ hap' hJ'; subst hsb19)
        walk_at "showG"
        have hD₄ := (N₄ _ (.tail _ (.head _))).1
        have hys : ys.toArray.size ≤ sizeLine := by
          have : ys.toArray.size = ys.length := by simp
          omega
        refine wpAny_list_append_plain (hsz := hys) ⟨nD, hD₄⟩ fun h₅ hl₅ hs₅ => ?_
        (refine Mine.exE1 hl₅ ?_; (try clear hl₅); intro nD' hD₅)
        have hk₅ : ∀ b o, b ≠ D → h₄.get? b = some o → h₅.get? b = some o := fun b o hb e => hs₅.extBut b o hb e
        have F₅ : Fr h₀ L h₅ m := ⟨F₄.ns.at' fun o e => hk₅ _ o (Ne.symm hDL) e, fun b o e => hk₅ b o (fun q => by rw [q, hD0] at e; cases e) (F₄.keep b o e), F₄.above⟩
        have N₅ : News h₀ L h₅ nx' := fun q hq => ⟨hk₅ _ _ (hap' q hq).2.1 (N₄ q (.tail _ (.tail _ (.tail _ hq)))).1, (N₄ q (.tail _ (.tail _ (.tail _ hq)))).2⟩
        refine ⟨n + 1 - (vs.length + 1), ⟨by omega, (Mine.mkE7 h₅ tk₄ _ nD' nx' (vs ++ [v]) (ys ++ [y]) ⟨rfl, ?_, hCN _ (hk₅ _ _ (Ne.symm hDC) (N₄ _ (.tail _ (.tail _ (.head _)))).1), F₅, ?_, N₅, hap', hJ', hP', ?_, by rw [List.length_append, List.length_singleton]; exact hlt, by rw [List.length_append, List.length_singleton]⟩)⟩⟩
        · rw [List.length_append, List.length_singleton]
          exact back _ _ _ _ F₅ (hk₅ _ _ hID (N₄ _ (.head _)).1) N₅ hJ'
        · rw [hD₅]; simp [W.listOf]
        · simp only [List.length_append, List.length_singleton]; omega
    · have hin : vs.length = n := by omega
      refine Wk.done _ _ _ (hin ▸ hst') fun h₂ tk₂ hk₂ => ?_
      have hk₂' : ∀ b o, b ≠ I → H.get? b = some o → h₂.get? b = some o := fun b o hb e => hk₂ b o (fun q => hb (List.mem_singleton.mp q)) e
      have F₃ : Fr h₀ L h₂ m := ⟨F'.ns.at' fun o e => hk₂' _ o (Ne.symm hIL) e, fun b o e => hk₂' b o (oldI b o e) (F'.keep b o e), F'.above⟩
      exact hRR D C h₂ tk₂ m' ys vs nx nD hin hP hJ F₃ (List.forall_mem_cons.mpr ⟨⟨hk₂' _ _ (Ne.symm hID) hD1, hDL, hD0⟩, fun q hq => ⟨hk₂' _ _ (hap q hq).1 (N' q hq).1, (N' q hq).2⟩⟩) (fun q hq => (hap q hq).2.1) (Nat.le_refl _)
        ⟨hn'.at' fun o e => hk₂' _ o (Ne.symm hIC) e, hCL, hC0, fun q hq => (hap q hq).2.2, hDC⟩
  exact codeAny_compStart_list (loop _ rfl) (Wk.self 0 _ _ _ hst₁ (loop _ rfl))
end

/-! part M4 -/
set_option maxHeartbeats 4000000

def CompAt (prog : Program) (w : World) (A : Around) (env : Env) (scope : Scope) (cl : List (Str × Addr)) (elt iter : PySem.Expr) (x : Str) (px : Pos) (ifs : List PySem.Expr) (pos : Pos) (use : Option (Value → Sem Unit)) (Q : Value → Shared → Prop) (E : Value → Shared → Prop) (it : Value) (s₂ : Shared) : Prop :=
  wpAny (model prog w) A (newList []) (fun acc s₃ => wpAny (model prog w) A (newFunctionEnv scope env.globals cl [] env.qual none .none (some env)) (fun cenv s₄ =>
      codeAny (model prog w) A (.compStart (.ListComp elt [⟨.Name x px, iter, ifs, 0⟩] scope pos) 0 it acc { cenv with scope := relabel scope env }) (compPost (model prog w) A E use Q acc cenv.locals) s₄) E s₃) E s₂

theorem CFree.offs {h₀ : Heap} {L C D : Addr} {nx : List (Addr × Obj)} {h : Heap} {m : Str → Option Value} (K : CFree h₀ L C D nx h m) (oD : Obj) : ∀ q ∈ (D, oD) :: nx, q.1 ≠ C :=
  List.forall_mem_cons.mpr ⟨K.neD, K.off⟩

/-- the tests of a comprehension's turn -/
noncomputable abbrev ctests (ifs : List PySem.Expr) (env : Env) : Sem Bool := forIn ifs true fun c r => if r = true then do let ok ← isTrue c env (eval c env); pure (ForInStep.yield ok) else pure (ForInStep.yield r)

section
variable {prog : Program} {w : World} {A : Around} {E : Value → Shared → Prop} {env : Env} {h₀ : Heap} {L : Addr} {m : Str → Option Value} {s : Shared}
  {elt iter : PySem.Expr} {x : Str} {px : Pos} {ifs : List PySem.Expr} {scope : Scope} {cl : List (Str × Addr)} {pos : Pos} {Q : Value → Shared → Prop} {news : List (Addr × Obj)} {use : Option (Value → Sem Unit)}

theorem comp_ (hclos : closureFor scope env = pure cl) (hkind : scope.kind = .function) (hnames : ∀ y ∈ scope.names, y.2 = .local → scope.names.lookup y.1 = some .local)
    (h : wpAny (model prog w) A (eval iter env) (fun xv s₁ => wpAny (model prog w) A (pyIter xv) (fun it s₂ => CompAt prog w A env scope cl elt iter x px ifs pos none Q E it s₂) E s₁) E s)
    (hs : ∀ x, foldedSetIterable iter env x = pure x) :
    wpAny (model prog w) A (eval (.ListComp elt [⟨.Name x px, iter, ifs, 0⟩] scope pos) env) Q E s := by
  rw [eval_ListComp]
  exact wpAny_comprehension_free (use := none) rfl hs hclos hkind hnames h

/-- x = [..]: the value is stored ahead of the block's own names being let go -/
theorem compA_ {y : Str} {py : Pos} {spos : Pos} {Q : Flow → Shared → Prop} (hsw : swapsWith (.ListComp elt [⟨.Name x px, iter, ifs, 0⟩] scope pos) (some (.Name y py)) spos.line env = pure true)
    (hclos : closureFor scope env = pure cl) (hkind : scope.kind = .function) (hnames : ∀ y ∈ scope.names, y.2 = .local → scope.names.lookup y.1 = some .local)
    (h : wpAny (model prog w) A (eval iter env) (fun xv s₁ => wpAny (model prog w) A (pyIter xv) (fun it s₂ => CompAt prog w A env scope cl elt iter x px ifs pos (some (assign (.Name y py) env)) (fun _ => Q .next) E it s₂) E s₁) E s)
    (hs : ∀ x, foldedSetIterable iter env x = pure x) :
    wpAny (model prog w) A (exec (.Assign [.Name y py] (.ListComp elt [⟨.Name x px, iter, ifs, 0⟩] scope pos) spos) env) Q E s := by
  rw [exec_Assign_Name_used _ _ _ _ hsw]
  refine wpAny_bind (wpAny_standAt (wpAny_bind ?_))
  show wpAny _ _ (do let _ ← comprehension (.ListComp elt [⟨.Name x px, iter, ifs, 0⟩] scope pos) scope env _ (newList []) false _ (some (assign (.Name y py) env)); pure ()) _ _ _
  refine wpAny_bind (wpAny_mono (wpAny_comprehension_free (use := some (assign (.Name y py) env)) rfl hs hclos hkind hnames h) (fun _ s' h' => wpAny_pure (wpAny_pure h')) fun _ _ e => e)

theorem fin_none {D C : Addr} {h' : Heap} {tk : Nat} {m' : Str → Option Value} {nx : List (Addr × Obj)} {oD : Obj} (F : Fr h₀ L h' m) (N : News h₀ L h' ((D, oD) :: nx)) (K : CFree h₀ L C D nx h' m')
    (h : ∀ h'', Fr h₀ L h'' m → News h₀ L h'' ((D, oD) :: nx) → Q (.ref D) { s with heap := h'', toks := tk }) : compPost (model prog w) A E none Q (.ref D) C (.ok .next) { s with heap := h', toks := tk } := by
  refine (Mine.mkE1A1 m' K.ns (fun h'' hs => ?_))
  have hk : ∀ b o, b ≠ C → h'.get? b = some o → h''.get? b = some o := fun b o hb e => hs.extBut b o hb e
  exact h h'' ⟨F.ns.at' fun o e => hk _ o (Ne.symm K.neL) e, fun b o e => hk b o (fun q => by have := K.no; rw [← q, e] at this; cases this) (F.keep b o e), F.above⟩
    (fun q hq => ⟨hk _ _ (K.offs oD q hq) (N q hq).1, (N q hq).2⟩)

theorem fin_local {y : Str} {py : Pos} {D C : Addr} {h' : Heap} {tk : Nat} {m' : Str → Option Value} {nx : List (Addr × Obj)} {oD : Obj} (F : Fr h₀ env.locals h' m) (N : News h₀ env.locals h' ((D, oD) :: nx)) (K : CFree h₀ env.locals C D nx h' m')
    (h : ∀ h'', Fr h₀ env.locals h'' (fun z => if z = y then some (.ref D) else m z) → News h₀ env.locals h'' ((D, oD) :: nx) → Q .none { s with heap := h'', toks := tk + 1 })
    (hy : env.kindOf y = some .local) (hp : (env.scope.kind == .class || (env.scope.kind == .module && env.locals != env.globals)) = false) :
    compPost (model prog w) A E (some (assign (.Name y py) env)) Q (.ref D) C (.ok .next) { s with heap := h', toks := tk } := by
  show wpAny _ _ (assign (.Name y py) env (.ref D)) _ _ _
  refine wpAny_assign_Name (wpAny_storeName_local hy F.ns (fun h₂ hn₂ hs₂ => ?_) hp)
  have hk₂ : ∀ b o, b ≠ env.locals → h'.get? b = some o → h₂.get? b = some o := fun b o hb e => hs₂.extBut b o hb e
  have F₂ := F.set hn₂ hs₂
  have N₂ := N.set hs₂
  refine (Mine.mkE1A1 m' (K.ns.at' fun o e => hk₂ _ o K.neL e) (fun h'' hs => ?_))
  have hk : ∀ b o, b ≠ C → h₂.get? b = some o → h''.get? b = some o := fun b o hb e => hs.extBut b o hb e
  exact h h'' ⟨F₂.ns.at' fun o e => hk _ o (Ne.symm K.neL) e, fun b o e => hk b o (fun q => by have := K.no; rw [← q, e] at this; cases this) (F₂.keep b o e), F₂.above⟩
    (fun q hq => ⟨hk _ _ (K.offs oD q hq) (N₂ q hq).1, (N₂ q hq).2⟩)

theorem fin_cell {y : Str} {py : Pos} {c D C : Addr} {h' : Heap} {tk : Nat} {m' : Str → Option Value} {nx : List (Addr × Obj)} {oD oc : Obj} {v₀ : Option Value} {g : Obj → List (Addr × Obj)} (F : Fr h₀ L h' m) (N : News h₀ L h' ((D, oD) :: nx)) (K : CFree h₀ L C D nx h' m')
    (hc : env.cells.lookup y = some c) (U : UpdF c oc ((D, oD) :: nx) g) (hod : oc.data = .cell v₀)
    (h : ∀ h'' oc', Fr h₀ L h'' m → News h₀ L h'' (g oc') → oc'.data = .cell (some (.ref D)) → Q .none { s with heap := h'', toks := tk })
    (hk : env.scope.kind = .function) (hy : env.kindOf y = some .cell) :
    compPost (model prog w) A E (some (assign (.Name y py) env)) Q (.ref D) C (.ok .next) { s with heap := h', toks := tk } := by
  show wpAny _ _ (assign (.Name y py) env (.ref D)) _ _ _
  walk_at "hideG"
  (refine Mine.exE2 U.split ?_; intro own rest hrun21; refine Mine.exA3 hrun21 ?_; clear hrun21; intro hnx hg h1 h2)
  walk_at "showG"
  have hmem := N (c, oc) (by rw [hnx]; exact List.mem_append_right _ (.head _))
  refine wpAny_assign_Name (wpAny_storeName_cell hk hy hc (Mine.mkE1A1 oc hmem.1 hod) fun h₂ hv hs₂ => ?_)
  (refine Mine.exE1A1 hv ?_; (try clear hv); intro o' ho' hd')
  have hk₂ : ∀ b o, b ≠ c → h'.get? b = some o → h₂.get? b = some o := fun b o hb e => hs₂.extBut b o hb e
  have F₂ : Fr h₀ L h₂ m := ⟨F.ns.sameBut hs₂ (Ne.symm hmem.2.1), fun b ob e => (hs₂.2 b (fun q => by rw [q, hmem.2.2] at e; cases e)).trans (F.keep b ob e), F.above⟩
  have N₂ : News h₀ L h₂ (g o') := hg o' ▸ (hnx ▸ N : News h₀ L h' (own ++ (c, oc) :: rest)).setAt h1 h2 hs₂ ho'
  have hcC : c ≠ C := by
    have : (c, oc) ∈ (D, oD) :: nx := by rw [hnx]; exact List.mem_append_right _ (.head _)
    rcases List.mem_cons.mp this with e | e
    · cases e; exact K.neD
    · exact K.off _ e
  refine (Mine.mkE1A1 m' (K.ns.at' fun o e => hk₂ _ o (Ne.symm hcC) e) (fun h'' hs => ?_))
  have hk : ∀ b o, b ≠ C → h₂.get? b = some o → h''.get? b = some o := fun b o hb e => hs.extBut b o hb e
  refine h h'' o' ⟨F₂.ns.at' fun o e => hk _ o (Ne.symm K.neL) e, fun b o e => hk b o (fun q => by have := K.no; rw [← q, e] at this; cases this) (F₂.keep b o e), F₂.above⟩
    (fun q hq => ⟨hk _ _ ?_ (N₂ q hq).1, (N₂ q hq).2⟩) hd'
  have hall : ∀ q ∈ (D, oD) :: nx, q.1 ≠ C := K.offs oD
  rw [hg o'] at hq
  rw [hnx] at hall
  rcases List.mem_append.mp hq with h | h
  · exact hall q (List.mem_append_left _ h)
  · rcases List.mem_cons.mp h with rfl | h
    · exact hcC
    · exact hall q (List.mem_append_right _ (.tail _ h))

theorem ctests_nil {env : Env} {Q : Bool → Shared → Prop} {M : Model} (h : Q true s) : wpAny M A (ctests [] env) Q E s := wpAny_pure h
theorem ctests_one {c : PySem.Expr} {env : Env} {Q : Bool → Shared → Prop} {M : Model} (h : wpAny M A (isTrue c env (eval c env)) Q E s) : wpAny M A (ctests [c] env) Q E s := by
  show wpAny M A (forIn [c] true _) Q E s
  rw [List.forIn_cons]
  refine wpAny_bind ?_
  simp only [if_true]
  refine wpAny_bind (wpAny_mono h (fun b s' hb => wpAny_pure ?_) fun _ _ e => e)
  exact wpAny_pure hb

/-- a comprehension over a list or a tuple, its elements anything (they may make objects): J over the ledger -/
theorem comp_seq {T : String} {l : Addr} {items : Array Value} {o : Obj} {no : Nat} (hT : T = "list" ∨ T = "tuple") (ho : s.heap.get? l = some o) (hoc : o.cls = .type T) (hod : o.data = .seq items no)
    (p : Value → Bool) (J : List Value → List Value → List (Addr × Obj) → Prop)
    (hh : A.handled = none) (hcell : ∀ y ∈ scope.names, y.2 ≠ .cell) (hkind : scope.kind = .function) (hx : scope.names.lookup x = some .local)
    (F : Fr h₀ L s.heap m) (N : News h₀ L s.heap news) (hJ0 : J [] [] news) (hsz : items.size ≤ sizeLine)
    (hwh : (∃ o, h₀.get? l = some o) ∨ (l ≠ L ∧ ∃ o, ∀ vs ys nx, J vs ys nx → (l, o) ∈ nx))
    (tests : ∀ (I D C : Addr) (oI oD oC : Obj) vs v ys nx (s₃ : Shared) (m₃ : Str → Option Value), items[vs.length]? = some v → J vs ys nx → Fr h₀ L s₃.heap m → News h₀ L s₃.heap (cled I D C oI oD oC nx) → (∀ h : Heap, h.get? C = some oC → h.Ns C m₃) → m₃ x = some v →
      wpAny (model prog w) A (ctests ifs (compEnvC scope cl C env)) (fun ok s₄ => ok = p v ∧ ∃ tk, s₄ = { s₃ with toks := tk }) (fun _ _ => False) s₃)
    (skip : ∀ vs v ys nx, items[vs.length]? = some v → p v = false → J vs ys nx → J (vs ++ [v]) ys nx)
    (helt : ∀ (I D C : Addr) (oI oD oC : Obj) vs v ys nx (s₃ : Shared) (m₃ : Str → Option Value), items[vs.length]? = some v → p v = true → J vs ys nx → (∀ q ∈ nx, q.1 ≠ I ∧ q.1 ≠ D ∧ q.1 ≠ C) → (I ≠ D ∧ I ≠ C ∧ D ≠ C) → Fr h₀ L s₃.heap m → News h₀ L s₃.heap (cled I D C oI oD oC nx) → (∀ h : Heap, h.get? C = some oC → h.Ns C m₃) → m₃ x = some v →
      wpAny (model prog w) A (eval elt (compEnvC scope cl C env)) (fun y s₄ => ∃ h' tk nx', s₄ = { s₃ with heap := h', toks := tk } ∧ Fr h₀ L h' m ∧ News h₀ L h' (cled I D C oI oD oC nx') ∧ (∀ q ∈ nx', q.1 ≠ I ∧ q.1 ≠ D ∧ q.1 ≠ C) ∧ J (vs ++ [v]) (ys ++ [y]) nx') (fun _ _ => False) s₃)
    (hQ : ∀ D C h' tk m' ys nx nD, J items.toList ys nx → Fr h₀ L h' m → News h₀ L h' ((D, W.listOf ys.toArray nD) :: nx) → (∀ q ∈ nx, q.1 ≠ D) → s.heap.objs.size ≤ D → CFree h₀ L C D nx h' m' → compPost (model prog w) A E use Q (.ref D) C (.ok .next) { s with heap := h', toks := tk }) :
    wpAny (model prog w) A (pyIter (.ref l)) (fun it s₂ => CompAt prog w A env scope cl elt iter x px ifs pos use Q E it s₂) E s := by
  have hll : l < s.heap.objs.size := Heap.lt_size ho
  have hne : l ≠ s.heap.objs.size := Nat.ne_of_lt hll
  have full : ∀ vs : List Value, vs.length = items.size → (∀ (j : Nat) v, vs[j]? = some v → items[j]? = some v) → vs = items.toList := fun vs h1 h2 => by
    refine List.ext_getElem? fun j => ?_
    by_cases hj : j < vs.length
    · have := h2 j vs[j] (by simp [hj])
      have h3 : items.toList[j]? = some vs[j] := by rw [Array.getElem?_toList]; exact this
      rw [h3]; simp [hj]
    · rw [List.getElem?_eq_none (by omega), List.getElem?_eq_none (by simp; omega)]
  have key : ∀ (oI : Obj) (St : Nat → Heap → Prop), oI.isFreed = false → Walks prog w A s.heap.objs.size [s.heap.objs.size, l] [s.heap.objs.size] items.size (fun i v => items[i]? = some v) St → St 0 (s.heap.push oI) → (∀ i h, St i h → ∃ o, h.get? s.heap.objs.size = some o) →
      CompAt prog w A env scope cl elt iter x px ifs pos use Q E (.ref s.heap.objs.size) { s with heap := s.heap.push oI } := by
    intro oI St hfr Wk st hlive
    refine comp_block (h₀ := h₀) (L := L) (m := m) (news := news) Wk hsz p J hcell hkind hx st (by rw [size_push']; exact Nat.lt_succ_self _) (Nat.ne_of_gt F.ns.lt) (next_is_new F)
      (fun q hq e => absurd (Heap.lt_size (N q hq).1) (e ▸ Nat.lt_irrefl _)) hlive (fun b hb => ?_) (F.push _) (fun q hq => ⟨Heap.get?_push_of_some _ (N q hq).1, (N q hq).2⟩) hJ0 tests skip helt ?_
    · rcases List.mem_cons.mp hb with e | hb
      · exact .inl e
      · rw [List.mem_singleton.mp hb]
        rcases hwh with h | ⟨_, h⟩
        · exact .inr (.inl h)
        · exact .inr (.inr h)
    · intro D C h' tk m' ys vs nx nD h1 h2 hJ F' N' hD hsD hC
      rw [full vs h1 h2] at hJ
      refine hQ D C h' tk m' ys nx nD hJ F' N' hD ?_ hC
      rw [size_push'] at hsD
      exact Nat.le_of_succ_le hsD
  rcases hT with rfl | rfl
  · have hl : s.heap.IsList l items := (Mine.mkE1A2E1 o ho hoc no hod)
    refine wpAny_pyIter_list hl ?_
    exact key _ _ rfl (Walks.list hh s.heap.objs.size l hne items) ⟨(Mine.mkE1A2 _ (Heap.get?_push_size _ rfl) rfl rfl), hl.at fun o e => Heap.get?_push_of_some _ e⟩ (fun i h st => let ⟨⟨o, ho, _⟩, _⟩ := st; ⟨o, ho⟩)
  · have hl : s.heap.IsTuple l items := (Mine.mkE1A2E1 o ho hoc no hod)
    refine wpAny_pyIter_tuple hl ?_
    exact key _ _ rfl (Walks.tuple hh s.heap.objs.size l hne items) ⟨(Mine.mkE1A2 _ (Heap.get?_push_size _ rfl) rfl rfl), hl.at fun o e => Heap.get?_push_of_some _ e⟩ (fun i h st => let ⟨⟨o, ho, _⟩, _⟩ := st; ⟨o, ho⟩)

theorem comp_range {r : Addr} {a₀ b₀ : Int} {t₀ u₀ v₀ : Tok} {n : Nat} (hr : IsRange s.heap r a₀ b₀ 1 t₀ u₀ v₀) (hsmall : Builtin.Range.small a₀ b₀ 1 = true) (hrs : Builtin.Range.rangeSize a₀ b₀ 1 = (n : Int))
    (p : Value → Bool) (J : List Value → List Value → List (Addr × Obj) → Prop)
    (hh : A.handled = none) (hcell : ∀ y ∈ scope.names, y.2 ≠ .cell) (hkind : scope.kind = .function) (hx : scope.names.lookup x = some .local)
    (F : Fr h₀ L s.heap m) (N : News h₀ L s.heap news) (hJ0 : J [] [] news) (hsz : n ≤ sizeLine)
    (tests : ∀ (I D C : Addr) (oI oD oC : Obj) vs v ys nx (s₃ : Shared) (m₃ : Str → Option Value), (vs.length < n ∧ ∃ t, v = .int (a₀ + (vs.length : Int)) t) → J vs ys nx → Fr h₀ L s₃.heap m → News h₀ L s₃.heap (cled I D C oI oD oC nx) → (∀ h : Heap, h.get? C = some oC → h.Ns C m₃) → m₃ x = some v →
      wpAny (model prog w) A (ctests ifs (compEnvC scope cl C env)) (fun ok s₄ => ok = p v ∧ ∃ tk, s₄ = { s₃ with toks := tk }) (fun _ _ => False) s₃)
    (skip : ∀ vs v ys nx, p v = false → J vs ys nx → J (vs ++ [v]) ys nx)
    (helt : ∀ (I D C : Addr) (oI oD oC : Obj) vs v ys nx (s₃ : Shared) (m₃ : Str → Option Value), (vs.length < n ∧ ∃ t, v = .int (a₀ + (vs.length : Int)) t) → p v = true → J vs ys nx → (∀ q ∈ nx, q.1 ≠ I ∧ q.1 ≠ D ∧ q.1 ≠ C) → (I ≠ D ∧ I ≠ C ∧ D ≠ C) → Fr h₀ L s₃.heap m → News h₀ L s₃.heap (cled I D C oI oD oC nx) → (∀ h : Heap, h.get? C = some oC → h.Ns C m₃) → m₃ x = some v →
      wpAny (model prog w) A (eval elt (compEnvC scope cl C env)) (fun y s₄ => ∃ h' tk nx', s₄ = { s₃ with heap := h', toks := tk } ∧ Fr h₀ L h' m ∧ News h₀ L h' (cled I D C oI oD oC nx') ∧ (∀ q ∈ nx', q.1 ≠ I ∧ q.1 ≠ D ∧ q.1 ≠ C) ∧ J (vs ++ [v]) (ys ++ [y]) nx') (fun _ _ => False) s₃)
    (hQ : ∀ D C h' tk m' vs ys nx nD, vs.length = n → J vs ys nx → Fr h₀ L h' m → News h₀ L h' ((D, W.listOf ys.toArray nD) :: nx) → (∀ q ∈ nx, q.1 ≠ D) → s.heap.objs.size ≤ D → CFree h₀ L C D nx h' m' → compPost (model prog w) A E use Q (.ref D) C (.ok .next) { s with heap := h', toks := tk }) :
    wpAny (model prog w) A (pyIter (.ref r)) (fun it s₂ => CompAt prog w A env scope cl elt iter x px ifs pos use Q E it s₂) E s := by
  refine wpAny_pyIter_range hr hsmall ?_
  have Wk : Walks prog w A s.heap.objs.size [s.heap.objs.size] [s.heap.objs.size] n (fun i v => i < n ∧ ∃ t, v = .int (a₀ + i * 1) t)
      (fun i h => IsRangeIter h s.heap.objs.size (a₀ + (i : Nat) * 1) ((n : Int) - (i : Nat)) 1) := (Walks.range hh _ a₀ 1 n).bound
  have e1 : ∀ i : Nat, a₀ + (i : Int) * 1 = a₀ + (i : Int) := fun i => by omega
  refine comp_block (h₀ := h₀) (L := L) (m := m) (news := news) Wk hsz p J hcell hkind hx (by show IsRangeIter _ _ _ _ _; rw [hrs]; simpa using Heap.get?_push_size _ rfl) (by rw [size_push']; exact Nat.lt_succ_self _) (Nat.ne_of_gt F.ns.lt) (next_is_new F)
    (fun q hq e => absurd (Heap.lt_size (N q hq).1) (e ▸ Nat.lt_irrefl _)) (fun i h st => ⟨_, st⟩) (fun b hb => .inl (List.mem_singleton.mp hb)) (F.push _) (fun q hq => ⟨Heap.get?_push_of_some _ (N q hq).1, (N q hq).2⟩) hJ0 ?_ (fun vs v ys nx _ => skip vs v ys nx) ?_ ?_
  · intro I D C oI oD oC vs v ys nx s₃ m₃ hP
    (refine Mine.exA1 hP ?_; (try clear hP); intro h1 hrun23; refine Mine.exE1 hrun23 ?_; clear hrun23; intro t hsb22; subst hsb22)
    exact tests I D C oI oD oC vs _ ys nx s₃ m₃ (Mine.mkA1E1 h1 t (by rw [e1]))
  · intro I D C oI oD oC vs v ys nx s₃ m₃ hP
    (refine Mine.exA1 hP ?_; (try clear hP); intro h1 hrun25; refine Mine.exE1 hrun25 ?_; clear hrun25; intro t hsb24; subst hsb24)
    exact helt I D C oI oD oC vs _ ys nx s₃ m₃ (Mine.mkA1E1 h1 t (by rw [e1]))
  · intro D C h' tk m' ys vs nx nD h1 h2 hJ F' N' hD hsD hC
    refine hQ D C h' tk m' vs ys nx nD h1 hJ F' N' hD ?_ hC
    rw [size_push'] at hsD
    exact Nat.le_of_succ_le hsD

/-- names within a comprehension -/
theorem cn_L {M : Model} {C : Addr} {y : Str} {py : Pos} {v : Value} {m₃ : Str → Option Value} (hn : s.heap.Ns C m₃) (hv : m₃ y = some v) (h : Q v s) (hk : (compEnvC scope cl C env).scope.kind = .function) (hy : (compEnvC scope cl C env).kindOf y = some .local) (hd : (y == ("__debug__" : Str)) = false) :
    wpAny M A (eval (.Name y py) (compEnvC scope cl C env)) Q E s := wpAny_Name (wpAny_loadName_local hk hy hn hv h) hd
theorem cn_C {M : Model} {C c : Addr} {y : Str} {py : Pos} {v : Value} {o : Obj} (hc : cl.lookup y = some c) (ho : s.heap.get? c = some o) (hod : o.data = .cell (some v)) (h : Q v s) (hk : (compEnvC scope cl C env).scope.kind = .function) (hy : (compEnvC scope cl C env).kindOf y = some .cell) (hd : (y == ("__debug__" : Str)) = false) :
    wpAny M A (eval (.Name y py) (compEnvC scope cl C env)) Q E s := wpAny_Name (wpAny_loadName_cell hk hy hc (Mine.mkE1A1 o ho hod) h) hd
theorem cn_F {M : Model} {C c : Addr} {y : Str} {py : Pos} {v : Value} {o : Obj} (hc : cl.lookup y = some c) (ho : s.heap.get? c = some o) (hod : o.data = .cell (some v)) (h : Q v s) (hk : (compEnvC scope cl C env).scope.kind = .function) (hy : (compEnvC scope cl C env).kindOf y = some .free) (hd : (y == ("__debug__" : Str)) = false) (hcd : (y == ("__classdict__" : Str)) = false) :
    wpAny M A (eval (.Name y py) (compEnvC scope cl C env)) Q E s := wpAny_Name (wpAny_loadName_free hk hy hc (Mine.mkE1A1 o ho hod) h hcd) hd
theorem cn_G {M : Model} {C : Addr} {y : Str} {py : Pos} {v : Value} {K : Frag} {p : Program} {loose : List Str} {mg mb : Str → Option Value} (F : Fr h₀ L s.heap m) (X : K.In h₀) (T : TopRead p loose mg mb h₀) (e : nsIn K mainGlobals y = some (some v)) (h : Q v s)
    (hg : env.globals = mainGlobals) (hk : (compEnvC scope cl C env).scope.kind = .function) (hy : (compEnvC scope cl C env).kindOf y = some .globalImplicit) (hd : (y == ("__debug__" : Str)) = false) :
    wpAny M A (eval (.Name y py) (compEnvC scope cl C env)) Q E s :=
  Name_function_global hk hy (loadGlobal_global (env := compEnvC scope cl C env) (by show s.heap.Ns env.globals _; rw [hg]; exact T.g.keeps F.keep) (mg_of X T.g e) h) hd
theorem cn_B {M : Model} {C : Addr} {y : Str} {py : Pos} {v : Value} {K : Frag} {p : Program} {loose : List Str} {mg mb : Str → Option Value} (F : Fr h₀ L s.heap m) (X : K.In h₀) (T : TopRead p loose mg mb h₀) (e : nsIn K mainGlobals y = some none) (hv : bootBuiltins y = some v) (hn : y ≠ "__name__") (h : Q v s)
    (hg : env.globals = mainGlobals) (hb : env.builtins = builtinsNs) (hk : (compEnvC scope cl C env).scope.kind = .function) (hy : (compEnvC scope cl C env).kindOf y = some .globalImplicit) (hd : (y == ("__debug__" : Str)) = false) :
    wpAny M A (eval (.Name y py) (compEnvC scope cl C env)) Q E s :=
  Name_function_global hk hy (loadGlobal_builtin (env := compEnvC scope cl C env) (by show s.heap.Ns env.globals _; rw [hg]; exact T.g.keeps F.keep) (mg_none_of X T.g e) (by show s.heap.Ns env.builtins _; rw [hb]; exact T.b.keeps F.keep) ((T.builtins y hn).trans hv) h) hd

/-- sorted(d) of a dict with int keys -/
theorem sorted_dict {d : Addr} {o : Obj} {kvs : List (Int × Value)} (hh : A.handled = none) (F : Fr h₀ L s.heap m) (N : News h₀ L s.heap news) (lo : (d == sysModules) = false) (ho : s.heap.get? d = some o) (hd : o.IsDictOf (intKind prog w) kvs) (hlen : kvs.length < 64)
    (hQ : ∀ D h' tk vs ns n, Fr h₀ L h' m → News h₀ L h' ((D, W.listOf vs.toArray n) :: news) → (∀ q ∈ news, q.1 < D) → IntsAre vs ns → ns.Perm (kvs.map (·.1)) → ns.Pairwise (· ≤ ·) → Q (.ref D) { s with heap := h', toks := tk }) :
    wpAny (model prog w) A (call (.builtin "sorted") [.ref d]) Q E s := by
  have hD : s.heap.DictOf (intKind prog w) d kvs := Heap.dictOf_iff.mpr (Mine.mkE1A1 o ho hd)
  (refine Mine.exE1 hD.dictAt ?_; intro ep hat)
  refine kdu_sorted (kdl_dict (knd := intKind prog w) (kvs := kvs) (ep := ep) lo) hh F N hat (by rw [sizeLine_eq]; omega) fun D h' tk vs F' N' hlt hl hP => ?_
  have hI : IntsAre vs (kvs.map (·.1)) := by
    have : ∀ (vs : List Value) (kvs : List (Int × Value)), vs.length = kvs.length → (∀ (j : Nat) v, vs[j]? = some v → ∃ k x, kvs[j]? = some (k, x) ∧ (intKind prog w).is k v = true) → IntsAre vs (kvs.map (·.1)) := by
      intro vs
      induction vs with
      | nil => intro kvs h _; cases kvs with
        | nil => exact .nil
        | cons _ _ => cases h
      | cons v vs ih => intro kvs h hP; cases kvs with
        | nil => cases h
        | cons kv kvs =>
          (refine Mine.exE2A1 (hP 0 v rfl) ?_; intro k x e hk)
          cases e
          have : ∃ t, v = .int k t := by
            revert hk
            cases v <;> simp [intKind, Value.isInt]
          (refine Mine.exE1 this ?_; (try clear this); intro t hsb26; subst hsb26)
          exact .cons _ _ (ih kvs (by simpa using h) fun j v e => hP (j + 1) v (by simpa using e))
    exact this vs kvs hl hP
  have hD0 := (N' _ (.head _)).1
  have h64 : vs.length < 64 := by rw [hl]; exact hlen
  refine wpAny_call_entry PyProof.Rows.slot_list_sort (Mine.mkE1A1 _ hD0 rfl) PyProof.Rows.entry_list_sort (list_sort_tree (n := 0) (vs := vs) hD0 hI h64 fun out ns' hI' hp hs => (Mine.mkE1A1 (.none) rfl ?_)) (PyProof.Rows.args_list_sort _)
  have hDlt : D < h'.objs.size := Heap.lt_size hD0
  have hk : ∀ b o, b ≠ D → h'.get? b = some o → (sortedHeap h' D vs out).get? b = some o := fun b o hb e => by rw [sortedHeap_old hb (Heap.lt_size e)]; exact e
  (refine Mine.exE1 (sortedHeap_at (out := out) hD0) ?_; intro e1 he1)
  have hDn := (N' _ (.head _)).2
  have F'' : Fr h₀ L (sortedHeap h' D vs out) m := ⟨F'.ns.at' fun o e => hk _ o (Ne.symm hDn.1) e, fun b o e => hk b o (fun q => by rw [q, hDn.2] at e; cases e) (F'.keep b o e), F'.above⟩
  exact hQ D _ tk out.toList ns' _ F'' (List.forall_mem_cons.mpr ⟨⟨by simpa using he1, hDn⟩, fun q hq => ⟨hk _ _ (Nat.ne_of_lt (hlt q hq)) (N' q (.tail _ hq)).1, (N' q (.tail _ hq)).2⟩⟩) hlt hI' hp hs
end

/-! part M5 -/
set_option maxHeartbeats 4000000


set_option hygiene false in
local macro_rules
| `(tactic| walk_at "guard") => `(tactic| (
  (with_reducible show wpAny _ _ _ _ _ _);
  (fail_if_success (with_reducible show wpAny _ _ (pyIter _) _ _ _));
  (fail_if_success (with_reducible show wpAny _ _ (call (Value.ref _) _ _) _ _ _));
  (fail_if_success (with_reducible show wpAny _ _ (eval (Expr.ListComp _ _ _ _) _) _ _ _));
  (fail_if_success (with_reducible show wpAny _ _ (exec (Stmt.Assign _ (Expr.ListComp _ _ _ _) _) _) _ _ _));
  (fail_if_success (with_reducible show wpAny _ _ (exec (Stmt.While _ _ _ _) _) _ _ _));
  (fail_if_success (with_reducible show wpAny _ _ (call (Value.builtin "sorted") _ _) _ _ _))))
set_option hygiene false in
local macro_rules
| `(tactic| walk_at "go") => `(tactic| (
  first
  | ((with_reducible show ∀ Q', Mine.Under _ Q' → _); walk_at "hide")
  | (walk_at "behind")
  | (walk_at "guard"; first | ((with_reducible show wpAny _ _ (exec (Stmt.For _ _ _ _ _) _) _ _ _); (refine wpAny_For ?_)) | walk1)
  | ((first | (with_reducible show Frag.In _ _ ∧ _) | (with_reducible show MethP _ _ _ _ _ ∧ _)); walk1)
  | ((fail_if_success (with_reducible show wpAny _ _ _ _ _ _)); dsimp only; walk_at "guard")))

local macro_rules
| `(tactic| walk_at "eval Name") => `(tactic| ((with_reducible rename Fr _ _ _ _ => kF); k_dflt ((first | refine' nameX_L kF ?hv ?_ ?a ?b ?c | refine' ld kF ?hv ?_ ?a ?b ?c | refine' ldLoc kF ?hv ?_ ?a ?b ?c); (case b => rfl); (case hv => first | exact rfl | assumption); (case a => rfl); (case c => decide))))

set_option hygiene false in
local macro_rules
| `(tactic| walk_at "eval Name") => `(tactic| ((with_reducible show wpAny _ _ (eval (Expr.Name _ _) (compEnvC _ _ _ _)) _ _ _); k_dflt (first
  | (refine cn_L (by assumption) (by first | assumption | rfl) ?_ (by rfl) (by rfl) (by decide))
  | (refine cn_C (by rfl) (by exact News.get (by k_asm) (by k_mem)) (by assumption) ?_ (by rfl) (by rfl) (by decide))
  | (refine cn_B (by k_asm) (by k_asm) (by k_asm) (by k_is) (by boot_by_name) (by decide) ?_ (by rfl) (by rfl) (by rfl) (by rfl) (by decide))
  | (refine cn_G (by k_asm) (by k_asm) (by k_asm) (by k_is) ?_ (by rfl) (by rfl) (by rfl) (by decide)))))
local macro_rules
| `(tactic| walk_at "setItem ref int") => `(tactic| (k_dflt (refine kda_set (knd := PySem.intKind _ _) (by k_asm) (by k_asm) (by k_updF) (by k_asm) (intKind_is _ _ _ _) (by assumption) ?_); intro h' o' F' N' hd'))

/-- a tuple of ints -/
def TupInts (h : Heap) (a : Addr) (c : List Int) : Prop := ∃ vs n, h.get? a = some { cls := .type "tuple", data := .seq vs.toArray n } ∧ IntsAre vs c

/-- a clause as the law draws it -/
def ClauseOk (c : List Int) : Prop := (∀ l ∈ c, l ≠ 0 ∧ -5 ≤ l ∧ l ≤ 5) ∧ c.Pairwise (fun a b => a.natAbs < b.natAbs)

/-- the names of the map that may have turned -/
noncomputable def ovr (names : List Str) (u m₀ : Str → Option Value) : Str → Option Value := fun y => if names.contains y then u y else m₀ y
theorem ovr_eq {names : List Str} {m m₀ : Str → Option Value} (h : ∀ y, names.contains y = false → m y = m₀ y) : m = ovr names m m₀ := by
  funext y
  unfold ovr
  cases hc : names.contains y with
  | true => simp
  | false => simp [h y hc]
theorem ovr_refl {names : List Str} {m₀ : Str → Option Value} : ∀ y, names.contains y = false → m₀ y = m₀ y := fun _ _ => rfl
theorem ovr_set {names : List Str} {m m₀ : Str → Option Value} {x : Str} {v : Option Value} (h : ∀ y, names.contains y = false → m y = m₀ y) (hx : names.contains x = true) : ∀ y, names.contains y = false → (if y = x then v else m y) = m₀ y := fun y hy => by
  have : y ≠ x := fun e => by rw [e, hx] at hy; cases hy
  rw [if_neg this]; exact h y hy
theorem ovr_ovr {names : List Str} {m m₀ : Str → Option Value} : ∀ y, names.contains y = false → ovr names m m₀ y = m₀ y := fun y hy => by unfold ovr; rw [hy]; simp

section
variable {w : World} {mg mb : Str → Option Value} {n : Nat} {A : Around} {h₀ : Heap} {L : Addr} {m : Str → Option Value} {s : Shared} {E : Value → Shared → Prop} {Q : Value → Shared → Prop}

/-- the cells lie there -/
def CellsIn (h : Heap) (cl : Addr) : Prop := ∃ (vs : List Value) (ns : List Int) (n : Nat), h.get? cl = some (W.listOf vs.toArray n) ∧ IntsAre vs ns ∧ ns.length ≤ 60
theorem CellsIn.keeps {h h' : Heap} {cl : Addr} (c : CellsIn h cl) (k : ∀ b o, h.get? b = some o → h'.get? b = some o) : CellsIn h' cl := let ⟨vs, ns, n, a, b, d⟩ := c; (Mine.mkE3A2 vs ns n (k _ _ a) b d)

/-- the coin's dict, as it stands in a ledger -/
abbrev CoinObj (w : World) (o : Obj) (cl : Addr) (k : Int) : Prop := ∃ t : Tok, o.IsDictOf (strKind PP w) [(Str.ofString "cells", .ref cl), (Str.ofString "flips", .int k t)]

theorem news_upd_raw {h₀ h h' : Heap} {L d : Addr} {news : List (Addr × Obj)} {o o' : Obj} {g : Obj → List (Addr × Obj)} (N : News h₀ L h news) (U : UpdF d o news g) (k : Kp [d] h h') (e : h'.get? d = some o') : News h₀ L h' (g o') := by
  walk_at "hideG"
  (refine Mine.exE2 U.split ?_; intro own rest hrun27; refine Mine.exA3 hrun27 ?_; clear hrun27; intro hn hg h1 h2)
  walk_at "showG"
  subst hn
  rw [hg o']
  intro q hq
  rcases List.mem_append.mp hq with h | h
  · exact ⟨k _ _ (by simpa using h1 q h) (N q (List.mem_append_left _ h)).1, (N q (List.mem_append_left _ h)).2⟩
  · rcases List.mem_cons.mp h with rfl | h
    · exact ⟨e, (N (d, o) (List.mem_append_right _ (.head _))).2⟩
    · exact ⟨k _ _ (by simpa using h2 q h) (N q (List.mem_append_right _ (.tail _ h))).1, (N q (List.mem_append_right _ (.tail _ h))).2⟩
theorem updF_mem {d : Addr} {o : Obj} {news : List (Addr × Obj)} {g : Obj → List (Addr × Obj)} (U : UpdF d o news g) : (d, o) ∈ news := by
  walk_at "hideG"
  (refine Mine.exE2 U.split ?_; intro own rest hrun28; refine Mine.exA3 hrun28 ?_; clear hrun28; intro hn hg h1 h2)
  walk_at "showG"
  rw [hn]; exact List.mem_append_right _ (.head _)

theorem flip_N {c cl : Addr} {k many : Int} {t : Tok} {news : List (Addr × Obj)} {oc : Obj} {gU : Obj → List (Addr × Obj)} (C : Cx w mg mb (n + 1) A h₀ L) (F : Fr h₀ L s.heap m) (N : News h₀ L s.heap news) (U : UpdF c oc news gU)
    (hD : CoinObj w oc cl k) (hcl : CellsIn s.heap cl) (hk0 : 0 ≤ k) (hk : k ≤ 10000) (hm : 0 < many) (hm2 : many ≤ 10000)
    (hQ : ∀ x tx h' tk oc', 0 ≤ x → x < many → Fr h₀ L h' m → News h₀ L h' (gU oc') → CoinObj w oc' cl (k + 1) → Q (.int x tx) { s with heap := h', toks := tk }) :
    wpAny (model PP w) A (call (.ref 85) [.ref c, .int many t]) Q E s := by
  have hmem := N _ (updF_mem U)
  (refine Mine.exE1 hD ?_; (try clear hD); intro t3 hD)
  refine flip_spec C F ⟨hmem.2.2, hmem.2.1⟩ ⟨(Mine.mkE2A1 oc t3 hmem.1 hD), hcl, hk0⟩ hk hm hm2 fun x tx h' tk h0 h1 hK hKp F' => ?_
  walk_at "hideG"
  obtain ⟨⟨oc', t', e', hD'⟩, _, _⟩ := hK
  walk_at "showG"
  exact hQ x tx h' tk oc' h0 h1 F' (news_upd_raw N U hKp e') ⟨t', hD'⟩

theorem turn_next {h₀ : Heap} {L I : Addr} {oI : Obj} {Jn : (Str → Option Value) → List (Addr × Obj) → Prop} {s : Shared} {Q : Flow → Shared → Prop} {h' : Heap} {tk : Nat} {m' : Str → Option Value} {nx : List (Addr × Obj)}
    (F : Fr h₀ L h' m') (N : News h₀ L h' ((I, oI) :: nx)) (hn : ∀ p ∈ nx, p.1 ≠ I) (hJ : Jn m' nx) : TurnEnd h₀ L I oI Jn s Q .next { s with heap := h', toks := tk } :=
  (Mine.mkE4 h' tk m' nx ⟨rfl, F, N, hn, hJ⟩)

theorem stored_mem {kvs : List (Int × Value)} {k : Int} {v : Value} {q : Int × Value} (h : q ∈ stored kvs k v) : q ∈ kvs ∨ q = (k, v) := by
  unfold stored at h
  split at h
  · (refine Mine.exE1A1 (List.mem_map.mp h) ?_; intro r hr hsb29; subst hsb29)
    split
    · rename_i e; right; rw [e]
    · exact .inl hr
  · rcases List.mem_append.mp h with h | h
    · exact .inl h
    · exact .inr (List.mem_singleton.mp h)
theorem stored_length {kvs : List (Int × Value)} {k : Int} {v : Value} : (stored kvs k v).length ≤ kvs.length + 1 := by
  unfold stored
  split
  · rw [List.length_map]; exact Nat.le_succ _
  · rw [List.length_append]; exact Nat.le_refl _

theorem sub_dict {value slice : PySem.Expr} {d : Addr} {k : Int} {t : Tok} {o : Obj} {kvs : List (Int × Value)} {v : Value} {prog : Program} (ho : s.heap.get? d = some o) (hd : o.IsDictOf (intKind prog w) kvs) (hl : valueAt kvs k = some v)
    (h : Q v { s with toks := s.toks + 1 }) (hs : subscripted slice false (.ref d) (.int k t) = operate [.ref d, .int k t] (getItem (.ref d) (.int k t)) := by with_unfolding_all rfl) : wpAny (model prog w) A (subscriptTail value slice (.ref d) (.int k t)) Q E s := by
  have hD : s.heap.DictOf (intKind prog w) d kvs := Heap.dictOf_iff.mpr (Mine.mkE1A1 o ho hd)
  exact tail_any hD.typeIs slot_dict_getitem.lookup (wpAny_getItem_of (intKind_is _ _ _ _) hD.mapOf hl h) hs

theorem valueAt_of_mem {kvs : List (Int × Value)} (hnd : (kvs.map (·.1)).Nodup) {q : Int × Value} (h : q ∈ kvs) : valueAt kvs q.1 = some q.2 := by
  induction kvs with
  | nil => cases h
  | cons p r ih =>
    rw [List.map_cons, List.nodup_cons] at hnd
    unfold valueAt
    rw [List.find?_cons]
    by_cases e : p.1 = q.1
    · rcases List.mem_cons.mp h with rfl | h
      · simp
      · exact absurd (List.mem_map.mpr (Mine.mkE1A1 q h rfl)) (e ▸ hnd.1)
    · rcases List.mem_cons.mp h with rfl | h
      · exact absurd rfl e
      · simp only [e, decide_false]
        exact ih hnd.2 h

theorem clause_of {ns : List Int} {f : Int → Int} (h1 : ∀ v ∈ ns, 1 ≤ v ∧ v ≤ 5) (hf : ∀ v ∈ ns, f v = 1 ∨ f v = -1) (hs : ns.Pairwise (· < ·)) : ClauseOk (ns.map fun v => v * f v) := by
  constructor
  · intro l hl
    (refine Mine.exE1A1 (List.mem_map.mp hl) ?_; intro v hv hsb30; subst hsb30)
    have := h1 v hv
    rcases hf v hv with e | e <;> rw [e] <;> omega
  · rw [List.pairwise_map]
    refine List.Pairwise.imp_of_mem (fun {a b} ha hb hab => ?_) hs
    have := h1 a ha
    have := h1 b hb
    rcases hf a ha with e | e <;> rcases hf b hb with e' | e' <;> rw [e, e'] <;> omega

theorem lt_of_le_nodup {ns : List Int} (hs : ns.Pairwise (· ≤ ·)) (hn : ns.Nodup) : ns.Pairwise (· < ·) := by
  have := hs.and hn
  exact this.imp fun {a b} h => by have := h.1; have := h.2; omega

noncomputable def sgn (kvs : List (Int × Value)) (v : Int) : Int := match valueAt kvs v with
  | some (.int σ _) => σ
  | _ => 1
/-- signs of a draw -/
def SignsOk (kvs : List (Int × Value)) : Prop := ∀ q ∈ kvs, 1 ≤ q.1 ∧ q.1 ≤ 5 ∧ ∃ σ t, q.2 = .int σ t ∧ (σ = 1 ∨ σ = -1)

inductive SgJ (w : World) (d : Addr) (e2 : Addr × Obj) (c cl : Addr) (k : Int) (m0 : Str → Option Value) (i : Nat) (m : Str → Option Value) (nx : List (Addr × Obj)) : Prop
  | mk (od oc' : Obj) (kvs : List (Int × Value)) (hnx : nx = [(d, od), e2, (c, oc')]) (hm : ∀ y, [Str.ofString "turn", Str.ofString "v"].contains y = false → m y = m0 y) (hd : od.IsDictOf (intKind PP w) kvs) (hc : CoinObj w oc' cl (k + 2 * (i : Int))) (hs : SignsOk kvs) (hl : kvs.length ≤ i) : SgJ w d e2 c cl k m0 i m nx

theorem lits_spec {c cl : Addr} {k count : Int} {t : Tok} (C : Cx w mg mb (n + 2) A h₀ L) (F : Fr h₀ L s.heap m) (hc : h₀.get? c = none ∧ c ≠ L) (K : CoinAt w s.heap c cl k) (hk : k ≤ 9000) (hm : 0 ≤ count) (hm2 : count ≤ 5)
    (hQ : ∀ a cs k' h' tk, s.heap.objs.size ≤ a → TupInts h' a cs → ClauseOk cs → (cs.length : Int) ≤ count → k ≤ k' → k' ≤ k + 2 * count → CoinAt w h' c cl k' → Kp [c] s.heap h' → Fr h₀ L h' m → Q (.ref a) { s with heap := h', toks := tk }) :
    wpAny (model PP w) A (call (.ref 90) [.ref c, .int count t]) Q E s := by
  walk_at "hideG"
  obtain ⟨⟨oc, t3, hd, hD⟩, ⟨vs, ns, nl, hl, hi, hle⟩, hp⟩ := K
  walk_at "showG"
  have hne : @Ne Nat c cl := by
    intro e; rw [e, hl] at hd; exact dict_ne_list hD (Option.some.inj hd).symm
  refine' callRC (binds := [(Str.ofString "coin", .ref c), (Str.ofString "count", .int count t)]) (R := fun v h' => ∃ a cs k', v = .ref a ∧ s.heap.objs.size ≤ a ∧ TupInts h' a cs ∧ ClauseOk cs ∧ (cs.length : Int) ≤ count ∧ k ≤ k' ∧ k' ≤ k + 2 * count ∧ CoinAt w h' c cl k') [c] C F (by simp [hc]) ?ho ?hcd ?hb ?hl ?hnd ?h ?hQ ?c1 ?c2 ?c3
  case ho => exact rfl
  case hcd => exact rfl
  case hb => exact BindsTo.of_eq rfl
  case hl => exact rfl
  case hnd => decide +kernel
  case c1 => rfl
  case c2 => rfl
  case c3 => rfl
  case hQ =>
    intro v h' tk hjo3 hk' F'
    walk_at "hideG"
    (refine Mine.exE3 hjo3 ?_; (try clear hjo3); intro a cs k' hrun32; refine Mine.exA7 hrun32 ?_; clear hrun32; intro hsb31 h1 h2 h3 h4 h5 h6 h7; subst hsb31)
    walk_at "showG"
    exact hQ _ _ _ _ _ h1 h2 h3 h4 h5 h6 h7 hk' F'
  case h =>
    intro g L' h₁ tk cells hg hL' C' F' Nc Y hk₁ hcs
    have hgl : g.get? cl = some (W.listOf vs.toArray nl) := by rw [hg]; exact hideAll_get _ hl (by simp; exact Ne.symm hne)
    have X := C'.G.X
    have T := C'.G.T
    have hh := C'.hh
    (refine Mine.exE1A1 (CellsAre.one Y) ?_; intro o1 hsb33 d1; subst hsb33)
    have N : News g L' h₁ [(L' + 1, o1), (c, oc)] := by
      exact List.forall_mem_cons.mpr ⟨Nc _ (.head _), List.forall_mem_cons.mpr ⟨by rw [hg, hL']; exact news_of hd (.head _) hk₁, fun _ h => nomatch h⟩⟩
    have hcL : @LT.lt Nat _ c L' := by rw [hL']; exact Heap.lt_size hd
    clear Nc hk₁ hcs
    have hcg : CellsIn g cl := (Mine.mkE3A2 vs ns nl hgl hi hle)
    (repeat' (walk_at "go"))
    rename IsRange _ _ _ _ _ _ _ _ => hr
    rename News _ _ _ _ => N1
    rename Fr _ _ _ _ => F1
    rename (_ == sysModules) = false => lo
    rename Obj.IsDictOf (intKind PP w) _ [] => hi0
    rename_i d h2 od hs fs fi l1 h3 ocl F0 N0 dd h4 tk4 t1 u1 v1 alast
    clear F0 N0 alast hs fs fi
    generalize hm0 : (bindL _ _ _ : Str → Option Value) = m0 at F1
    have hmc : m0 (Str.ofString "coin") = some (.ref c) := by rw [← hm0]; rfl
    refine' for_range (n := (count - 0).toNat) (SgJ w d (L' + 1, ocl) c cl k m0) hh ?hr ?hs (rangeSize_nat _ _) ?F ?N ?j ?turn ?done ?x ?p
    case hr => exact hr
    case F => exact F1
    case N => exact N1
    case x => rfl
    case p => rfl
    case hs => exact small_one (by omega) (by omega) (by omega) (by omega)
    case j => exact ⟨od, oc, [], rfl, fun _ _ => rfl, hi0, ⟨t3, by simpa using hD⟩, (fun _ hq => nomatch hq), Nat.le_refl _⟩
    case turn =>
      intro i t m1 nx h tk' I oI hi9 hjo9 hnI F2 N2
      walk_at "hideG"
      obtain ⟨od', oc', kvs, rfl, hmm, hdo, hco, hso, hle'⟩ := hjo9
      walk_at "showG"
      rw [ovr_eq hmm] at F2
      have hI1 : @Ne Nat d I := hnI _ (.head _)
      have hI2 : @Ne Nat (L' + 1) I := hnI _ (.tail _ (.head _))
      have hI3 : @Ne Nat c I := hnI _ (.tail _ (.tail _ (.head _)))
      have hsz : kvs.length ≤ sizeLine := by rw [sizeLine_eq]; omega
      (repeat' (walk_at "go"))
      refine' flip_N C' ?F ?N ?U hco ?c1 ?c2 ?c3 ?c4 ?c5 ?_
      case F => k_asm
      case N => k_asm
      case U => k_updF
      case c1 => exact hcg.keeps (Fr.keep (by k_asm))
      case c2 => omega
      case c3 => omega
      case c4 => decide
      case c5 => decide
      intro x1 tx1 h5 tk5 oc5 hx0 hx1 F5 N5 hco5
      (repeat' (walk_at "go"))
      refine' flip_N C' ?F ?N ?U hco5 ?c1 ?c2 ?c3 ?c4 ?c5 ?_
      case F => k_asm
      case N => k_asm
      case U => k_updF
      case c1 => exact hcg.keeps (Fr.keep (by k_asm))
      case c2 => omega
      case c3 => omega
      case c4 => decide
      case c5 => decide
      intro x2 tx2 h6 tk6 oc6 hy0 hy1 F6 N6 hco6
      (repeat' (walk_at "go"))
      (repeat' (walk_at "go")); (try dsimp only)
      refine turn_next (by k_asm) (by k_asm) (Mine.fac hI1 (Mine.fac hI2 (Mine.fac hI3 Mine.fa0))) ⟨_, _, _, rfl, ?_, by assumption, ?_, ?_, ?_⟩
      · exact ovr_set (ovr_set ovr_ovr rfl) rfl
      · have e9 : k + 2 * ((i : Nat) : Int) + 1 + 1 = k + 2 * ((i + 1 : Nat) : Int) := by omega
        rw [e9] at hco6; exact hco6
      · intro q hq
        rcases stored_mem hq with hq | rfl
        · exact hso q hq
        · exact ⟨by simp only []; omega, by simp only []; omega, (Mine.mkE2A1 _ _ rfl (by omega))⟩
      · have := @stored_length kvs (1 + x1) (.int (1 - 2 * x2) 0)
        exact Nat.le_trans stored_length (by omega)
    case done =>
      intro m9 nx9 h9 tk9 hjo4 F9 N9
      walk_at "hideG"
      obtain ⟨od9, oc9, kvs, rfl, hmm, hdo, hco, hso, hle'⟩ := hjo4
      walk_at "showG"
      rw [ovr_eq hmm] at F9
      have lo9 := lo
      have hlen : kvs.length ≤ 5 := by omega
      have hnd : (kvs.map (·.1)).Nodup := by (refine Mine.exE2 hdo ?_; (try clear hdo); intro es ep hrun34; refine Mine.exA4 hrun34 ?_; clear hrun34; intro _ _ _ _ h); exact h
      (repeat' (walk_at "go"))
      refine' comp_ (cl := [(Str.ofString "signs", L' + 1)]) ?d1 ?d2 ?d3 ?_ ?d4
      case d1 => rfl
      case d2 => rfl
      case d3 => decide
      case d4 => intro _; rfl
      (repeat' (walk_at "go"))
      refine' sorted_dict hh ?F ?N lo ?ho hdo (by omega) ?_
      case F => k_asm
      case N => k_asm
      case ho => exact News.get (by k_asm) (by k_mem)
      intro D h8 tk8 vs8 ns8 n8 F8 N8 hD8 hI8 hperm hsort
      have hD1 : @LT.lt Nat _ d D := hD8 _ (.head _)
      have hns : ∀ v ∈ ns8, 1 ≤ v ∧ v ≤ 5 ∧ ∃ σ t, valueAt kvs v = some (.int σ t) ∧ (σ = 1 ∨ σ = -1) := by
        intro v hv
        walk_at "hideG"
        (refine Mine.exE1A1 (List.mem_map.mp (hperm.mem_iff.mp hv)) ?_; intro q hq hsb35; subst hsb35)
        (refine Mine.exA2 (hso q hq) ?_; intro a1 a2 hrun36; refine Mine.exE2 hrun36 ?_; clear hrun36; intro σ t9 hrun37; refine Mine.exA1 hrun37 ?_; clear hrun37; intro a3 a4)
        walk_at "showG"
        exact ⟨a1, a2, (Mine.mkE2A1 σ t9 (by rw [valueAt_of_mem hnd hq, a3]) a4)⟩
      refine' comp_seq (T := "list") (.inl rfl) (News.get N8 (.head _)) rfl rfl (fun _ => true) (fun vs ys nx => nx = (D, W.listOf vs8.toArray n8) :: [(d, od9), (L' + 1, ocl), (c, oc9)] ∧ IntsAre ys ((ns8.take vs.length).map fun v => v * sgn kvs v)) hh ?e1 ?e2 ?e3 ?F ?N ?j ?sz ?wh ?tests ?skip ?elt ?fin
      case e1 => decide
      case e2 => rfl
      case e3 => rfl
      case F => exact F8
      case N => exact N8
      case j => exact ⟨rfl, .nil⟩
      case sz =>
        have h1 := hI8.length
        have h2 := hperm.length_eq
        rw [List.length_map] at h2
        rw [sizeLine_eq, List.size_toArray]; omega
      case wh => exact .inr (Mine.mkA1E1 ((N8 _ (.head _)).2.1) _ (fun vs ys nx h => by rw [h.1]; exact List.Mem.head _))
      case tests =>
        intro I D' C'' oI oD oC vs v ys nx s₃ m₃ hv hJ F3 N3 hC hx
        exact ctests_nil (Mine.mkA1E1 rfl _ rfl)
      case skip => intro vs v ys nx _ h; cases h
      case elt =>
        rintro I D' C'' oI oD oC vs v ys nx s₃ m₃ hv - ⟨rfl, hJ⟩ hoff hne3 F3 N3 hC hx
        have hn := hC _ (N3 _ (.tail _ (.tail _ (.head _)))).1
        walk_at "hideG"
        (refine Mine.exE2A1 (hI8.at _ _ (by simpa using hv)) ?_; intro x tx hsb38 hxs; subst hsb38)
        (refine Mine.exA2 (hns x (List.mem_of_getElem? hxs)) ?_; intro q1 q2 hrun39; refine Mine.exE2 hrun39 ?_; clear hrun39; intro σ t9 hrun40; refine Mine.exA1 hrun40 ?_; clear hrun40; intro q3 q4)
        walk_at "showG"
        (repeat' (walk_at "go"))
        refine' sub_dict (News.get N3 (by k_mem)) hdo q3 ?_ ?_
        rotate_left
        · with_unfolding_all rfl
        (repeat' (walk_at "go"))
        refine (Mine.mkE3 _ _ _ ⟨rfl, F3, N3, hoff, rfl, ?_⟩)
        rw [List.length_append, List.length_singleton, List.take_add_one, hxs, List.map_append]
        refine hJ.append ?_
        have : sgn kvs x = σ := by unfold sgn; rw [q3]
        simp only [Option.toList, List.map_cons, List.map_nil, this]
        exact .cons _ _ .nil
      case fin =>
        rintro D' C'' h' tk' m' ys nx nD ⟨rfl, hys⟩ F7 N7 hD7 hsz7 hC7
        refine fin_none F7 N7 hC7 fun h'' F6 N6 => ?_
        (repeat' (walk_at "go"))
        have hyl : ys.length ≤ 5 := by
          have h1 := hys.length
          rw [List.length_map, List.length_take] at h1
          have h2 := hperm.length_eq
          rw [List.length_map] at h2
          omega
        refine' kde_tupleOf (zs := ys) F6 N6 (Mine.mkE1A2E1 _ (News.get N6 (.head _)) rfl _ rfl) ?_ (by simp) ?_
        · simp; omega
        intro D9 h7 F5 N5 hlt5
        (repeat' (walk_at "go")); (try dsimp only)
        have hl1 : @LT.lt Nat _ (L' + 1) D9 := hlt5 _ (.tail _ (.tail _ (.tail _ (.head _))))
        have e5 : vs8.length = ns8.length := hI8.length
        have e6 : ns8.take vs8.toArray.toList.length = ns8 := by rw [List.take_of_length_le]; simp [e5]
        rw [e6] at hys
        have e7 : ns8.length = kvs.length := by rw [hperm.length_eq, List.length_map]
        refine retR F5 (Mine.mkE3 D9 _ _ ⟨rfl, ?_, (Mine.mkE2A1 _ _ (News.get N5 (.head _)) hys), ?_, ?_, ?_, ?_, ⟨(Mine.mkE2A1 oc9 hco.choose (News.get N5 (by k_mem)) hco.choose_spec), hcg.keeps F5.keep, ?_⟩⟩)
        · omega
        · refine clause_of (fun v hv => ⟨(hns v hv).1, (hns v hv).2.1⟩) (fun v hv => ?_) (lt_of_le_nodup hsort (hperm.nodup_iff.mpr hnd))
          (refine Mine.exA2 (hns v hv) ?_; intro _ _ hrun41; refine Mine.exE2 hrun41 ?_; clear hrun41; intro σ t9 hrun42; refine Mine.exA1 hrun42 ?_; clear hrun42; intro h3 h4)
          unfold sgn; rw [h3]; exact h4
        · rw [List.length_map]; omega
        · omega
        · omega
        · omega
end

/-! part M6 -/
set_option maxHeartbeats 4000000


noncomputable def keysOf (kvs : List (Int × Value)) : List Int := kvs.map (·.1)

theorem valueAt_isSome (kvs : List (Int × Value)) (k : Int) : (valueAt kvs k).isSome = decide (k ∈ keysOf kvs) := by
  unfold valueAt keysOf
  rw [Option.isSome_map, Bool.eq_iff_iff, List.find?_isSome, decide_eq_true_eq, List.mem_map]
  constructor
  · rintro ⟨q, hq, e⟩; exact (Mine.mkE1A1 q hq (of_decide_eq_true e))
  · rintro ⟨q, hq, e⟩; exact (Mine.mkE1A1 q hq (decide_eq_true e))

section
variable {w : World} {A : Around} {s : Shared} {E : Value → Shared → Prop} {Q : Value → Shared → Prop} {prog : Program}
theorem in_dict {d : Addr} {k : Int} {t : Tok} {o : Obj} {kvs : List (Int × Value)} (ho : s.heap.get? d = some o) (hd : o.IsDictOf (intKind prog w) kvs) (lo : (d == sysModules) = false)
    (h : Q (.bool (decide (k ∈ keysOf kvs))) { s with toks := s.toks + 1 }) : wpAny (model prog w) A (compareOp .In (.int k t) (.ref d)) Q E s := by
  have hD : s.heap.DictOf (intKind prog w) d kvs := Heap.dictOf_iff.mpr (Mine.mkE1A1 o ho hd)
  exact wpAny_in_of (intKind_is _ _ _ _) lo hD.mapOf (by rw [valueAt_isSome]; exact h)
theorem notin_dict {d : Addr} {k : Int} {t : Tok} {o : Obj} {kvs : List (Int × Value)} (ho : s.heap.get? d = some o) (hd : o.IsDictOf (intKind prog w) kvs) (lo : (d == sysModules) = false)
    (h : Q (.bool (!decide (k ∈ keysOf kvs))) { s with toks := s.toks + 1 }) : wpAny (model prog w) A (compareOp .NotIn (.int k t) (.ref d)) Q E s := by
  have hD : s.heap.DictOf (intKind prog w) d kvs := Heap.dictOf_iff.mpr (Mine.mkE1A1 o ho hd)
  exact wpAny_notIn_of (intKind_is _ _ _ _) lo hD.mapOf (by rw [valueAt_isSome]; exact h)
end
set_option hygiene false in
local macro_rules
| `(tactic| walk_at "at") => `(tactic| first | exact News.get (by k_asm) (by k_mem) | exact Fr.keep (by k_asm) _ _ (by assumption))
set_option hygiene false in
local macro_rules
| `(tactic| walk_at "compareOp In int ref") => `(tactic| (k_dflt (refine Mine.in_dict (by walk_at "at") (by assumption) (by assumption) ?_)))
set_option hygiene false in
local macro_rules
| `(tactic| walk_at "compareOp NotIn int ref") => `(tactic| (k_dflt (refine Mine.notin_dict (by walk_at "at") (by assumption) (by assumption) ?_)))

section
variable {prog : Program} {w : World} {A : Around} {E : Value → Shared → Prop} {env : Env} {h₀ : Heap} {L : Addr} {m : Str → Option Value} {s : Shared}
  {iter : PySem.Expr} {x : Str} {px pe : Pos} {ifs : List PySem.Expr} {scope : Scope} {cl : List (Str × Addr)} {pos : Pos} {Q : Value → Shared → Prop} {news : List (Addr × Obj)} {use : Option (Value → Sem Unit)}

/-- [x for x in c if test]: what the tests let through -/
theorem comp_filter {T : String} {l : Addr} {o : Obj} {no : Nat} {vs : List Value} {c : List Int} (hT : T = "list" ∨ T = "tuple") (ho : s.heap.get? l = some o) (hoc : o.cls = .type T) (hod : o.data = .seq vs.toArray no) (hi : IntsAre vs c)
    (p : Int → Bool) (hh : A.handled = none) (hcell : ∀ y ∈ scope.names, y.2 ≠ .cell) (hkind : scope.kind = .function) (hx : scope.names.lookup x = some .local)
    (F : Fr h₀ L s.heap m) (N : News h₀ L s.heap news) (hsz : c.length ≤ 1000)
    (hwh : (∃ o, h₀.get? l = some o) ∨ (l ≠ L ∧ ∃ o, (l, o) ∈ news))
    (tests : ∀ (I D C : Addr) (oI oD oC : Obj) (v : Int) (t : Tok) (s₃ : Shared) (m₃ : Str → Option Value), v ∈ c → Fr h₀ L s₃.heap m → News h₀ L s₃.heap (cled I D C oI oD oC news) → s₃.heap.Ns C m₃ → m₃ x = some (.int v t) →
      wpAny (model prog w) A (ctests ifs (compEnvC scope cl C env)) (fun ok s₄ => ok = p v ∧ ∃ tk, s₄ = { s₃ with toks := tk }) (fun _ _ => False) s₃)
    (hQ : ∀ D C h' tk m' ys nD, IntsAre ys (c.filter p) → Fr h₀ L h' m → News h₀ L h' ((D, W.listOf ys.toArray nD) :: news) → (∀ q ∈ news, q.1 < D) → s.heap.objs.size ≤ D → CFree h₀ L C D news h' m' → compPost (model prog w) A E use Q (.ref D) C (.ok .next) { s with heap := h', toks := tk })
    (hxk : ∀ C, (compEnvC scope cl C env).kindOf x = some .local) (hxd : (x == ("__debug__" : Str)) = false) :
    wpAny (model prog w) A (pyIter (.ref l)) (fun it s₂ => CompAt prog w A env scope cl (.Name x pe) iter x px ifs pos use Q E it s₂) E s := by
  have hlen : vs.length = c.length := hi.length
  refine comp_seq hT ho hoc hod (fun v => match v with | .int n _ => p n | _ => false) (fun us ys nx => nx = news ∧ IntsAre ys ((c.take us.length).filter p)) hh hcell hkind hx F N ⟨rfl, .nil⟩ ?_ ?_ ?_ ?_ ?_ ?_
  · rw [sizeLine_eq, List.size_toArray]; omega
  · rcases hwh with h | ⟨h1, o, h2⟩
    · exact .inl h
    · exact .inr (Mine.mkA1E1 h1 o (fun us ys nx h => by rw [h.1]; exact h2))
  · rintro I D C oI oD oC us v ys nx s₃ m₃ hv ⟨rfl, hys⟩ F3 N3 hC hx
    walk_at "hideG"
    (refine Mine.exE2A1 (hi.at _ _ (by simpa using hv)) ?_; intro n t hsb43 hn; subst hsb43)
    walk_at "showG"
    exact tests I D C oI oD oC n t s₃ m₃ (List.mem_of_getElem? hn) F3 N3 (hC _ (N3 _ (.tail _ (.tail _ (.head _)))).1) hx
  · rintro us v ys nx hv hpv ⟨rfl, hys⟩
    walk_at "hideG"
    (refine Mine.exE2A1 (hi.at _ _ (by simpa using hv)) ?_; intro n t hsb44 hn; subst hsb44)
    walk_at "showG"
    refine ⟨rfl, ?_⟩
    rw [List.length_append, List.length_singleton, List.take_add_one, hn, List.filter_append]
    simp only [Option.toList, List.filter_cons, List.filter_nil]
    have hpv' : p n = false := hpv
    rw [hpv']; simpa using hys
  · rintro I D C oI oD oC us v ys nx s₃ m₃ hv hpv ⟨rfl, hys⟩ hoff hne F3 N3 hC hx
    walk_at "hideG"
    (refine Mine.exE2A1 (hi.at _ _ (by simpa using hv)) ?_; intro n t hsb45 hn; subst hsb45)
    walk_at "showG"
    refine cn_L (hC _ (N3 _ (.tail _ (.tail _ (.head _)))).1) hx ?_ (by simp [compEnvC, relabel, hkind]) (hxk C) hxd
    refine (Mine.mkE3 _ _ _ ⟨rfl, F3, N3, hoff, rfl, ?_⟩)
    rw [List.length_append, List.length_singleton, List.take_add_one, hn, List.filter_append]
    have hpv' : p n = true := hpv
    simp only [Option.toList, List.filter_cons, List.filter_nil, hpv']
    exact hys.append (.cons _ _ .nil)
  · rintro D C h' tk m' ys nx nD ⟨rfl, hys⟩ F' N' hD hsD hC
    have e : c.take vs.toArray.toList.length = c := List.take_of_length_le (by simp; omega)
    rw [e] at hys
    exact hQ D C h' tk m' ys nD hys F' N' (fun q hq => Nat.lt_of_lt_of_le (Heap.lt_size (N q hq).1) hsD) hsD hC
end

/-- a list of refs to tuples of ints -/
def ClausesAt (h : Heap) (a : Addr) (cs : List (List Int)) : Prop := ∃ (as : List Addr) (n : Nat), h.get? a = some (W.listOf (as.map Value.ref).toArray n) ∧ as.length = cs.length ∧ ∀ (i : Nat) x c, as[i]? = some x → cs[i]? = some c → TupInts h x c
theorem TupInts.keeps {h h' : Heap} {a : Addr} {c : List Int} (x : TupInts h a c) (k : ∀ b o, h.get? b = some o → h'.get? b = some o) : TupInts h' a c := let ⟨vs, n, e, i⟩ := x; (Mine.mkE2A1 vs n (k _ _ e) i)
theorem ClausesAt.keeps {h h' : Heap} {a : Addr} {cs : List (List Int)} (x : ClausesAt h a cs) (k : ∀ b o, h.get? b = some o → h'.get? b = some o) : ClausesAt h' a cs :=
  let ⟨as, n, e, l, f⟩ := x; (Mine.mkE2A2 as n (k _ _ e) l (fun i x c h1 h2 => (f i x c h1 h2).keeps k))
def ListInts (h : Heap) (a : Addr) (c : List Int) : Prop := ∃ vs n, h.get? a = some (W.listOf vs.toArray n) ∧ IntsAre vs c

noncomputable def heldOf (T : List Int) (c : List Int) : Int := ((c.filter fun l => decide (l ∈ T)).length : Int)
noncomputable def openOf (T : List Int) (c : List Int) : Int := ((c.filter fun l => !decide ((0 - l) ∈ T)).length : Int)

theorem clauseItem {h : Heap} {cs : List (List Int)} {as : List Addr} (hal : as.length = cs.length) (haf : ∀ (i : Nat) x c, as[i]? = some x → cs[i]? = some c → TupInts h x c) {i : Nat} {v : Value} (hv : (as.map Value.ref).toArray[i]? = some v) :
    ∃ x c, v = .ref x ∧ cs[i]? = some c ∧ c ∈ cs ∧ TupInts h x c := by
  rw [List.getElem?_toArray, List.getElem?_map] at hv
  cases hx : as[i]? with
  | none => rw [hx] at hv; cases hv
  | some x =>
    rw [hx] at hv
    cases hv
    obtain ⟨hi, _⟩ := List.getElem?_eq_some_iff.mp hx
    have hc : cs[i]? = some (cs[i]'(hal ▸ hi)) := by simp [hal ▸ hi]
    exact (Mine.mkE2 x _ ⟨rfl, hc, List.getElem_mem _, haf i x _ hx hc⟩)

section
variable {w : World} {mg mb : Str → Option Value} {n : Nat} {A : Around} {h₀ : Heap} {L : Addr} {m : Str → Option Value} {s : Shared} {E : Value → Shared → Prop} {Q : Value → Shared → Prop}

theorem counts_spec {ca ta : Addr} {cs : List (List Int)} {ot : Obj} {kvs : List (Int × Value)} (C : Cx w mg mb (n + 1) A h₀ L) (F : Fr h₀ L s.heap m) (hcs : ClausesAt s.heap ca cs) (hlc : cs.length ≤ 1000) (hll : ∀ c ∈ cs, c.length ≤ 1000)
    (hot : s.heap.get? ta = some ot) (hto : ot.IsDictOf (intKind PP w) kvs) (lo : (ta == sysModules) = false)
    (hQ : ∀ a d1 d2 h' tk, s.heap.objs.size ≤ a → h'.get? a = some { cls := .type "tuple", data := .seq #[.ref d1, .ref d2] } → ListInts h' d1 (cs.map (heldOf (keysOf kvs))) → ListInts h' d2 (cs.map (openOf (keysOf kvs))) → s.heap.objs.size ≤ d1 → s.heap.objs.size ≤ d2 → Kp [] s.heap h' → Fr h₀ L h' m → Q (.ref a) { s with heap := h', toks := tk }) :
    wpAny (model PP w) A (call (.ref 95) [.ref ca, .ref ta]) Q E s := by
  refine' callRC (binds := [(Str.ofString "clauses", .ref ca), (Str.ofString "taken", .ref ta)]) (R := fun v h' => ∃ a d1 d2, v = .ref a ∧ s.heap.objs.size ≤ a ∧ h'.get? a = some { cls := .type "tuple", data := .seq #[.ref d1, .ref d2] } ∧ ListInts h' d1 (cs.map (heldOf (keysOf kvs))) ∧ ListInts h' d2 (cs.map (openOf (keysOf kvs))) ∧ s.heap.objs.size ≤ d1 ∧ s.heap.objs.size ≤ d2) [] C F (by simp) ?ho ?hcd ?hb ?hl ?hnd ?h ?hQ ?c1 ?c2 ?c3
  case ho => exact rfl
  case hcd => exact rfl
  case hb => exact BindsTo.of_eq rfl
  case hl => exact rfl
  case hnd => decide +kernel
  case c1 => rfl
  case c2 => rfl
  case c3 => rfl
  case hQ =>
    intro v h' tk hjo3 hk' F'
    walk_at "hideG"
    (refine Mine.exE3 hjo3 ?_; (try clear hjo3); intro a d1 d2 hrun47; refine Mine.exA6 hrun47 ?_; clear hrun47; intro hsb46 h1 h2 h3 h4 h5 h6; subst hsb46)
    walk_at "showG"
    exact hQ _ _ _ _ _ h1 h2 h3 h4 h5 h6 hk' F'
  case h =>
    intro g L' h₁ tk cells hg hL' C' F' Nc Y hk₁ hcl
    have hgk : ∀ b o, s.heap.get? b = some o → g.get? b = some o := hg ▸ fun _ _ e => e
    have hog := hgk _ _ hot
    have hcg := hcs.keeps hgk
    walk_at "hideG"
    (refine Mine.exE2A2 hcg ?_; (try clear hcg); intro as na hca hal haf)
    have X := C'.G.X
    have T := C'.G.T
    have hh := C'.hh
    (refine Mine.exE1A1 (CellsAre.one Y) ?_; intro o1 hsb48 d1; subst hsb48)
    walk_at "showG"
    have d1' : o1.data = .cell (some (.ref ta)) := d1
    clear hk₁ hcl hgk d1
    have hL1 : @LT.lt Nat _ L' h₁.objs.size := F'.ns.lt
    (repeat' (walk_at "go"))
    refine' compA_ (cl := [(Str.ofString "taken", L' + 1)]) ?d0 ?d1 ?d2 ?d3 ?_ ?d4
    case d0 => rfl
    case d1 => rfl
    case d2 => rfl
    case d3 => decide
    case d4 => intro _; rfl
    (repeat' (walk_at "go"))
    refine' comp_seq (T := "list") (.inl rfl) (Fr.keep (by k_asm) _ _ hca) rfl rfl (fun _ => true) (fun vs ys nx => nx = [(L' + 1, o1)] ∧ IntsAre ys ((cs.take vs.length).map (heldOf (keysOf kvs)))) hh ?e1 ?e2 ?e3 ?F ?N ?j ?sz ?wh ?tests ?skip ?elt ?fin
    case e1 => decide
    case e2 => rfl
    case e3 => rfl
    case F => k_asm
    case N => k_asm
    case j => exact ⟨rfl, .nil⟩
    case sz => rw [sizeLine_eq]; simp; omega
    case wh => exact .inl ⟨_, hca⟩
    case tests =>
      intro I D' C'' oI oD oC vs v ys nx s₃ m₃ hv hJ F3 N3 hC hx
      exact ctests_nil (Mine.mkA1E1 rfl _ rfl)
    case skip => intro vs v ys nx _ h; cases h
    case elt =>
      rintro I D' C'' oI oD oC vs v ys nx s₃ m₃ hv - ⟨rfl, hJ⟩ hoff hne3 F3 N3 hC hx
      walk_at "hideG"
      (refine Mine.exE2 (clauseItem hal haf hv) ?_; intro x c hrun50; refine Mine.exA3 hrun50 ?_; clear hrun50; intro hsb49 hci hcm hrun51; refine Mine.exE2 hrun51 ?_; clear hrun51; intro vc nc hrun52; refine Mine.exA1 hrun52 ?_; clear hrun52; intro hxc hic; subst hsb49)
      walk_at "showG"
      have hn := hC _ (N3 _ (.tail _ (.tail _ (.head _)))).1
      (repeat' (walk_at "go"))
      refine' comp_ (cl := [(Str.ofString "taken", L' + 1)]) ?f1 ?f2 ?f3 ?_ ?f4
      case f1 => rfl
      case f2 => rfl
      case f3 => decide
      case f4 => intro _; rfl
      (repeat' (walk_at "go"))
      refine' comp_filter (T := "tuple") (.inr rfl) (Fr.keep (by k_asm) _ _ hxc) rfl rfl hic (fun l => decide (l ∈ keysOf kvs)) hh ?g1 ?g2 ?g3 ?F2 ?N2 (hll c hcm) (.inl ⟨_, hxc⟩) ?tests2 ?fin2 ?g4 ?g5
      case g1 => decide
      case g2 => rfl
      case g3 => rfl
      case F2 => k_asm
      case N2 => k_asm
      case g4 => intro _; rfl
      case g5 => decide
      case tests2 =>
        intro I2 D2 C2 oI2 oD2 oC2 v t s4 m4 hv F4 N4 hn4 hx4
        refine ctests_one ?_
        clear hn hx
        (repeat' (walk_at "go"))
        exact (Mine.mkA1E1 rfl _ rfl)
      case fin2 =>
        intro D2 C2 h4 tk4 m4 ys4 nD4 hys4 F4 N4 hlt4 hsD4 hC4
        refine fin_none F4 N4 hC4 fun h5 F5 N5 => ?_
        (repeat' (walk_at "go"))
        have hl4 : ys4.length ≤ 1000 := by
          rw [hys4.length]; exact Nat.le_trans (List.length_filter_le _ _) (hll c hcm)
        refine' Calls.call_len_list (Mine.mkE1A2E1 _ (News.get N5 (.head _)) rfl _ rfl) ?_ ?_
        · simp; omega
        refine (Mine.mkE3 _ _ _ ⟨rfl, F5, fun q hq => N5 q (.tail _ hq), hoff, rfl, ?_⟩)
        rw [List.length_append, List.length_singleton, List.take_add_one, hci, List.map_append]
        refine hJ.append ?_
        have e9 : (ys4.toArray.size : Int) = heldOf (keysOf kvs) c := by
          unfold heldOf; rw [List.size_toArray, hys4.length]
        rw [e9]
        exact .cons _ _ .nil
    case fin =>
      rintro D C'' h' tk' m' ys nx nD ⟨rfl, hys⟩ F7 N7 hD7 hsz7 hC7
      rw [List.take_of_length_le (by simp; omega)] at hys
      refine fin_local F7 N7 hC7 (fun h'' F6 N6 => ?_) rfl rfl
      have hL2 : @LT.lt Nat _ L' h''.objs.size := F6.ns.lt
      have hsz7' : @LE.le Nat _ h₁.objs.size D := hsz7
      (repeat' (walk_at "go"))
      refine' comp_ (cl := [(Str.ofString "taken", L' + 1)]) ?k1 ?k2 ?k3 ?_ ?k4
      case k1 => rfl
      case k2 => rfl
      case k3 => decide
      case k4 => intro _; rfl
      (repeat' (walk_at "go"))
      refine' comp_seq (T := "list") (.inl rfl) (Fr.keep (by k_asm) _ _ hca) rfl rfl (fun _ => true) (fun vs zs nx => nx = [(D, W.listOf ys.toArray nD), (L' + 1, o1)] ∧ IntsAre zs ((cs.take vs.length).map (openOf (keysOf kvs)))) hh ?e11 ?e12 ?e13 ?F11 ?N11 ?j11 ?sz11 ?wh11 ?tests11 ?skip11 ?elt11 ?fin11
      case e11 => decide
      case e12 => rfl
      case e13 => rfl
      case F11 => k_asm
      case N11 => k_asm
      case j11 => exact ⟨rfl, .nil⟩
      case sz11 => rw [sizeLine_eq]; simp; omega
      case wh11 => exact .inl ⟨_, hca⟩
      case tests11 =>
        intro I D' C'' oI oD oC vs v ys nx s₃ m₃ hv hJ F3 N3 hC hx
        exact ctests_nil (Mine.mkA1E1 rfl _ rfl)
      case skip11 => intro vs v ys nx _ h; cases h
      case elt11 =>
        rintro I D' C'' oI oD oC vs v zs nx s₃ m₃ hv - ⟨rfl, hJ⟩ hoff hne3 F3 N3 hC hx
        walk_at "hideG"
        (refine Mine.exE2 (clauseItem hal haf hv) ?_; intro x c hrun54; refine Mine.exA3 hrun54 ?_; clear hrun54; intro hsb53 hci hcm hrun55; refine Mine.exE2 hrun55 ?_; clear hrun55; intro vc nc hrun56; refine Mine.exA1 hrun56 ?_; clear hrun56; intro hxc hic; subst hsb53)
        walk_at "showG"
        have hn := hC _ (N3 _ (.tail _ (.tail _ (.head _)))).1
        (repeat' (walk_at "go"))
        refine' comp_ (cl := [(Str.ofString "taken", L' + 1)]) ?f11 ?f12 ?f13 ?_ ?f14
        case f11 => rfl
        case f12 => rfl
        case f13 => decide
        case f14 => intro _; rfl
        (repeat' (walk_at "go"))
        refine' comp_filter (T := "tuple") (.inr rfl) (Fr.keep (by k_asm) _ _ hxc) rfl rfl hic (fun l => !decide ((0 - l) ∈ keysOf kvs)) hh ?g11 ?g12 ?g13 ?F12 ?N12 (hll c hcm) (.inl ⟨_, hxc⟩) ?tests12 ?fin12 ?g14 ?g15
        case g11 => decide
        case g12 => rfl
        case g13 => rfl
        case F12 => k_asm
        case N12 => k_asm
        case g14 => intro _; rfl
        case g15 => decide
        case tests12 =>
          intro I2 D2 C2 oI2 oD2 oC2 v t s4 m4 hv F4 N4 hn4 hx4
          refine ctests_one ?_
          clear hn hx
          (repeat' (walk_at "go"))
          exact (Mine.mkA1E1 rfl _ rfl)
        case fin12 =>
          intro D2 C2 h4 tk4 m4 ys4 nD4 hys4 F4 N4 hlt4 hsD4 hC4
          refine fin_none F4 N4 hC4 fun h5 F5 N5 => ?_
          (repeat' (walk_at "go"))
          have hl4 : ys4.length ≤ 1000 := by
            rw [hys4.length]; exact Nat.le_trans (List.length_filter_le _ _) (hll c hcm)
          refine' Calls.call_len_list (Mine.mkE1A2E1 _ (News.get N5 (.head _)) rfl _ rfl) ?_ ?_
          · simp; omega
          refine (Mine.mkE3 _ _ _ ⟨rfl, F5, fun q hq => N5 q (.tail _ hq), hoff, rfl, ?_⟩)
          rw [List.length_append, List.length_singleton, List.take_add_one, hci, List.map_append]
          refine hJ.append ?_
          have e9 : (ys4.toArray.size : Int) = openOf (keysOf kvs) c := by
            unfold openOf; rw [List.size_toArray, hys4.length]
          rw [e9]
          exact .cons _ _ .nil
      case fin11 =>
        rintro D2 C'' h' tk' m' zs nx nD2 ⟨rfl, hzs⟩ F8 N8 hD8 hsz8 hC8
        rw [List.take_of_length_le (by simp; omega)] at hzs
        refine fin_none F8 N8 hC8 fun h'' F9 N9 => ?_
        (repeat' (walk_at "go"))
        have hsz8' : @LE.le Nat _ _ D2 := hsz8
        dsimp only at hsz8'
        rename News _ _ _ (_ :: _ :: _ :: _) => N10
        rename Fr _ _ _ _ => F10
        refine retR F10 (Mine.mkE3 _ D D2 ⟨rfl, ?_, News.get N10 (.head _), (Mine.mkE2A1 _ _ (News.get N10 (.tail _ (.tail _ (.head _)))) hys), (Mine.mkE2A1 _ _ (News.get N10 (.tail _ (.head _))) hzs), ?_, ?_⟩)
        · omega
        · omega
        · omega
end

/-! part M7 -/
set_option maxHeartbeats 4000000


/-- where the parts of a UnitSteps lie -/
structure StA where
  x : Addr
  dx : Addr
  cl : Addr
  pl : Addr
  he : Addr
  op : Addr
  be : Addr
  ta : Addr
  tr : Addr

/-- the entries of the object's dict -/
@[reducible] def stEs (hs : Nat → Int) (ts : Nat → Tok) (a : StA) (e ck : Value) : List DictEntry :=
  [⟨hs 0, .str (Str.ofString "clauses") (ts 0), .ref a.cl⟩, ⟨hs 1, .str (Str.ofString "places") (ts 1), .ref a.pl⟩, ⟨hs 2, .str (Str.ofString "held") (ts 2), .ref a.he⟩, ⟨hs 3, .str (Str.ofString "open") (ts 3), .ref a.op⟩,
   ⟨hs 4, .str (Str.ofString "begun") (ts 4), .ref a.be⟩, ⟨hs 5, .str (Str.ofString "empty") (ts 5), e⟩, ⟨hs 6, .str (Str.ofString "taken") (ts 6), .ref a.ta⟩, ⟨hs 7, .str (Str.ofString "trail") (ts 7), .ref a.tr⟩, ⟨hs 8, .str (Str.ofString "clash") (ts 8), ck⟩]

/-- a UnitSteps' own dict -/
def DxAt (h : Heap) (a : StA) (e ck : Value) : Prop := ∃ hs ts n, h.get? a.dx = some (dictOf (stEs hs ts a e ck) n)

section
variable {prog : Program} {w : World} {A : Around} {E : Value → Shared → Prop} {h₀ : Heap} {L : Addr} {m : Str → Option Value} {s : Shared} {Q : Value → Shared → Prop} {news : List (Addr × Obj)}
theorem list_copy {T : String} {l : Addr} {items : Array Value} {n : Nat} (hT : T = "list" ∨ T = "tuple") (F : Fr h₀ L s.heap m) (N : News h₀ L s.heap news) (ho : s.heap.get? l = some { cls := .type T, data := .seq items n })
    (h : ∀ D c h', Fr h₀ L h' m → News h₀ L h' ((D, W.listOf items c) :: news) → (∀ q ∈ news, q.1 < D) → @LE.le Nat _ s.heap.objs.size D → Q (.ref D) { s with heap := h' }) (hz : items.size ≤ sizeLine) :
    wpAny (model prog w) A (call (.type "list") [.ref l]) Q E s :=
  call_list_seq l hT ho rfl rfl (fun h' c' hk hD => h _ c' h' ⟨F.ns.keeps hk, fun b x e => hk b x (F.keep b x e), F.above⟩ (List.forall_mem_cons.mpr ⟨⟨hD, Nat.ne_of_gt F.ns.lt, next_is_new F⟩, fun q hq => ⟨hk _ _ (N q hq).1, (N q hq).2⟩⟩) (fun q hq => Heap.lt_size (N q hq).1) (Nat.le_refl _)) hz
theorem dict_copy {d : Addr} {o : Obj} {kvs : List (Int × Value)} (F : Fr h₀ L s.heap m) (N : News h₀ L s.heap news) (hlim : h₀.NoLimit) (ho : s.heap.get? d = some o) (hd : o.IsDictOf (intKind prog w) kvs) (lo : (d == sysModules) = false) (hlen : kvs.length ≤ sizeLine)
    (h : ∀ D h' o', Fr h₀ L h' m → News h₀ L h' ((D, o') :: news) → (∀ q ∈ news, q.1 < D) → @LE.le Nat _ s.heap.objs.size D → (D == sysModules) = false → o'.IsDictOf (intKind prog w) kvs → Q (.ref D) { s with heap := h' }) :
    wpAny (model prog w) A (call (.type "dict") [.ref d]) Q E s := by
  refine kt_call_dict lo (Heap.dictOf_iff.mpr (Mine.mkE1A1 o ho hd)) hlen fun h' hD hs => ?_
  (refine Mine.exE1A1 (Heap.dictOf_iff.mp hD) ?_; intro o' ho' hd')
  have hk : ∀ b x, s.heap.get? b = some x → h'.get? b = some x := fun b x e => hs.extBut b x (Nat.ne_of_lt (Heap.lt_size e)) (Heap.get?_push_of_some _ e)
  exact h _ h' o' ⟨F.ns.keeps hk, fun b x e => hk b x (F.keep b x e), F.above⟩ (List.forall_mem_cons.mpr ⟨⟨ho', Nat.ne_of_gt F.ns.lt, next_is_new F⟩, fun q hq => ⟨hk _ _ (N q hq).1, (N q hq).2⟩⟩) (fun q hq => Heap.lt_size (N q hq).1) (Nat.le_refl _) (F.notModules (modules_low hlim)) hd'
end

set_option hygiene false in
local macro_rules
| `(tactic| walk_at "inst") => `(tactic| (refine InstAt.mk (by walk_at "at") (by exact rfl) (by exact rfl) (by walk_at "at")))
set_option hygiene false in
local macro_rules
| `(tactic| walk_at "getAttr ref") => `(tactic| (k_dflt (refine get_own (by k_asm) (by k_asm) (by walk_at "inst") (by k_is) (by k_is) (by k_is) (by k_is) (by k_get) (by k_handed) ?_)))
set_option hygiene false in
local macro_rules
| `(tactic| walk_at "size") => `(tactic| first | assumption | (rw [sizeLine_eq, List.size_toArray]; omega) | (rw [sizeLine_eq]; omega))
local macro_rules
| `(tactic| walk_at "call type:list") => `(tactic| ((with_reducible show wpAny _ _ (call (Value.type "list") [Value.ref _]) _ _ _); k_dflt (refine' Mine.list_copy ?t ?F ?N ?l ?_ ?z; (case F => k_asm); (case N => k_asm); (case l => walk_at "at"); (case t => first | exact .inl rfl | exact .inr rfl); (case z => walk_at "size")); intro D' c' h' F' N' l1 l2; (try dsimp only at l2); (try k_lt l1)))
local macro_rules
| `(tactic| walk_at "call type:dict") => `(tactic| ((with_reducible show wpAny _ _ (call (Value.type "dict") [Value.ref _]) _ _ _); k_dflt (refine dict_copy (by k_asm) (by k_asm) (TopRead.nolimit (by k_asm)) (by walk_at "at") (by assumption) (by assumption) (by walk_at "size") ?_); intro D' h' o' F' N' l1 l2 lo' hd'; (try dsimp only at l2); (try k_lt l1)))

section
variable {w : World} {mg mb : Str → Option Value} {n : Nat} {A : Around} {h₀ : Heap} {L : Addr} {m : Str → Option Value} {s : Shared} {E : Value → Shared → Prop} {Q : Value → Shared → Prop}

theorem state_spec {a : StA} {e ck : Value} {hes ops trs : List Int} {ot : Obj} {kvs : List (Int × Value)} (C : Cx w mg mb (n + 1) A h₀ L) (F : Fr h₀ L s.heap m) (hx : s.heap.get? a.x = some (instObj 74 a.dx)) (hdx : DxAt s.heap a e ck)
    (hhe : ListInts s.heap a.he hes) (hop : ListInts s.heap a.op ops) (htr : ListInts s.heap a.tr trs) (hot : s.heap.get? a.ta = some ot) (hto : ot.IsDictOf (intKind PP w) kvs) (lo : (a.ta == sysModules) = false)
    (z1 : hes.length ≤ 1000) (z2 : ops.length ≤ 1000) (z3 : trs.length ≤ 1000) (z4 : kvs.length ≤ 1000)
    (hQ : ∀ t d1 d2 d3 d4 h' tk, s.heap.objs.size ≤ t → h'.get? t = some { cls := .type "tuple", data := .seq #[.ref d1, .ref d2, .ref d3, .ref d4] } → ListInts h' d1 hes → ListInts h' d2 ops → ListInts h' d3 trs → (∃ o', h'.get? d4 = some o' ∧ o'.IsDictOf (intKind PP w) kvs) → (d4 == sysModules) = false →
      Kp [] s.heap h' → Fr h₀ L h' m → Q (.ref t) { s with heap := h', toks := tk }) :
    wpAny (model PP w) A (call (.ref 102) [.ref a.x]) Q E s := by
  refine' callR (binds := [(Str.ofString "steps", .ref a.x)]) (R := fun v h' => ∃ t d1 d2 d3 d4, v = .ref t ∧ s.heap.objs.size ≤ t ∧ h'.get? t = some { cls := .type "tuple", data := .seq #[.ref d1, .ref d2, .ref d3, .ref d4] } ∧ ListInts h' d1 hes ∧ ListInts h' d2 ops ∧ ListInts h' d3 trs ∧ (∃ o', h'.get? d4 = some o' ∧ o'.IsDictOf (intKind PP w) kvs) ∧ (d4 == sysModules) = false) [] C F (by simp) ?ho ?hcd ?hb ?hl ?h ?hQ ?hcell ?c1 ?c2 ?c3
  case ho => exact rfl
  case hcd => exact rfl
  case hb => exact BindsTo.of_eq rfl
  case hl => exact locs rfl
  case hcell => decide
  case c1 => rfl
  case c2 => rfl
  case c3 => rfl
  case hQ =>
    intro v h' tk hjo3 hk' F'
    walk_at "hideG"
    (refine Mine.exE5 hjo3 ?_; (try clear hjo3); intro t d1 d2 d3 d4 hrun58; refine Mine.exA7 hrun58 ?_; clear hrun58; intro hsb57 h1 h2 h3 h4 h5 h6 h7; subst hsb57)
    walk_at "showG"
    exact hQ _ _ _ _ _ _ _ h1 h2 h3 h4 h5 h6 h7 hk' F'
  case h =>
    intro g L' h₁ hg hL' C' F' hk₁
    have hgk : ∀ b o, s.heap.get? b = some o → g.get? b = some o := hg ▸ fun _ _ e => e
    (refine Mine.exE3 hdx ?_; (try clear hdx); intro hs ts nd hdx)
    (refine Mine.exE2A1 hhe ?_; (try clear hhe); intro vhe nhe hhe ihe)
    (refine Mine.exE2A1 hop ?_; (try clear hop); intro vop nop hop iop)
    (refine Mine.exE2A1 htr ?_; (try clear htr); intro vtr ntr htr itr)
    have gx := hgk _ _ hx
    have gdx := hgk _ _ hdx
    have ghe := hgk _ _ hhe
    have gop := hgk _ _ hop
    have gtr := hgk _ _ htr
    have got := hgk _ _ hot
    have X := C'.G.X
    have T := C'.G.T
    have hh := C'.hh
    have N : News g L' h₁ [] := News.nil
    have y1 := ihe.length
    have y2 := iop.length
    have y3 := itr.length
    have hL1 : @LT.lt Nat _ L' h₁.objs.size := F'.ns.lt
    clear hgk hk₁ hx hdx hhe hop htr hot hg
    (repeat' (walk_at "go"))
    rename News _ _ _ _ => N9
    rename Fr _ _ _ _ => F9
    rename Obj.IsDictOf _ _ _ => hd9
    rename (_ == sysModules) = false => lo9
    refine retR F9 (Mine.mkE5 _ _ _ _ _ ⟨rfl, ?_, News.get N9 (.head _), (Mine.mkE2A1 _ _ (News.get N9 (by k_mem)) ihe), (Mine.mkE2A1 _ _ (News.get N9 (by k_mem)) iop), (Mine.mkE2A1 _ _ (News.get N9 (by k_mem)) itr), (Mine.mkE1A1 _ (News.get N9 (by k_mem)) hd9), lo9⟩)
    omega
end

/-! part M8 -/
set_option maxHeartbeats 4000000


section
variable {prog : Program} {w : World} {A : Around} {E : Value → Shared → Prop} {h₀ : Heap} {L : Addr} {m : Str → Option Value} {s : Shared} {news : List (Addr × Obj)}

/-- an item of a list of ints -/
theorem list_item {value slice : PySem.Expr} {l : Addr} {vs : List Value} {ns : List Int} {n : Nat} {k : Int} {t : Tok} {Q : Value → Shared → Prop} (ho : s.heap.get? l = some (W.listOf vs.toArray n)) (hi : IntsAre vs ns) (h0 : 0 ≤ k) (h1 : k < (ns.length : Int)) (hz : ns.length ≤ 1000)
    (h : ∀ u, Q (.int (ns.getD k.toNat 0) u) s) (hs : subscripted slice false (.ref l) (.int k t) = operate [.ref l, .int k t] (getItem (.ref l) (.int k t)) := by with_unfolding_all rfl) :
    wpAny (model prog w) A (subscriptTail value slice (.ref l) (.int k t)) Q E s := by
  have hl : s.heap.IsList l vs.toArray := (Mine.mkE1A2E1 _ ho rfl _ rfl)
  have hk : k.toNat < vs.length := by rw [hi.length]; omega
  (refine Mine.exE1 (hi.int_at k.toNat vs[k.toNat] (by simp [hk])) ?_; intro u hu)
  refine tail_any hl.typeIs slot_list_getitem.lookup (wpAny_getItem_list hl h0 (by omega) (x := vs[k.toNat]) (by simp [hk]) ?_) hs
  rw [hu]; exact h u

/-- any item of a list -/
theorem list_itemV {value slice : PySem.Expr} {l : Addr} {items : Array Value} {n : Nat} {k : Int} {t : Tok} {v : Value} {Q : Value → Shared → Prop} (ho : s.heap.get? l = some (W.listOf items n)) (h0 : 0 ≤ k) (h1 : k < 2 ^ 63) (hv : items[k.toNat]? = some v)
    (h : Q v s) (hs : subscripted slice false (.ref l) (.int k t) = operate [.ref l, .int k t] (getItem (.ref l) (.int k t)) := by with_unfolding_all rfl) :
    wpAny (model prog w) A (subscriptTail value slice (.ref l) (.int k t)) Q E s := by
  have hl : s.heap.IsList l items := (Mine.mkE1A2E1 _ ho rfl _ rfl)
  exact tail_any hl.typeIs slot_list_getitem.lookup (wpAny_getItem_list hl h0 h1 hv h) hs

theorem fr_upd {d : Addr} {f : Obj → Obj} (F : Fr h₀ L s.heap m) (hd : d ≠ L) (h0 : h₀.get? d = none) : Fr h₀ L (s.heap.update d f) m := by
  (refine Mine.exE3A1 F.ns ?_; intro oL es ep hL r)
  exact ⟨(Mine.mkE3 oL es ep ⟨(Heap.get?_update_ne _ _ _ _ (Ne.symm hd)).trans hL, r⟩), fun b x q => (Heap.get?_update_ne _ _ _ _ fun z => by rw [z, h0] at q; cases q).trans (F.keep b x q), F.above⟩

/-- an int stored into a list of ints -/
theorem list_set {D : Addr} {vs : List Value} {ns : List Int} {n : Nat} {k x : Int} {t u : Tok} {g : Obj → List (Addr × Obj)} {Q : Unit → Shared → Prop} (F : Fr h₀ L s.heap m) (N : News h₀ L s.heap news) (U : UpdF D (W.listOf vs.toArray n) news g) (hi : IntsAre vs ns) (h0 : 0 ≤ k) (h1 : k < (ns.length : Int)) (hz : ns.length ≤ 1000)
    (h : ∀ h' vs', Fr h₀ L h' m → News h₀ L h' (g (W.listOf vs'.toArray n)) → IntsAre vs' (ns.set k.toNat x) → Q () { s with heap := h' }) :
    wpAny (model prog w) A (setItem (.ref D) (.int k t) (.int x u)) Q E s := by
  have hm := N _ (updF_mem U)
  have hlen := hi.length
  refine ki_setAt hm.1 h0 (by omega) (by rw [List.size_toArray]; omega) ?_
  have e : (s.heap.update D (Obj.mapSeq fun y => y.setIfInBounds k.toNat (.int x u))).get? D = some (W.listOf (vs.set k.toNat (.int x u)).toArray n) := by
    rw [get?_update_seq hm.1]
    simp [W.listOf]
  refine h _ (vs.set k.toNat (.int x u)) (fr_upd F hm.2.1 hm.2.2) (news_upd_raw N U (fun b o hb he => (Heap.get?_update_ne _ _ _ _ (by simpa using hb)).trans he) e) ?_
  have : ∀ (vs : List Value) (ns : List Int) (j : Nat), IntsAre vs ns → IntsAre (vs.set j (.int x u)) (ns.set j x) := by
    intro vs
    induction vs with
    | nil => intro ns j h; cases h; exact .nil
    | cons v vs ih =>
      intro ns j h
      cases h with
      | cons a t h =>
        cases j with
        | zero => exact .cons _ _ h
        | succ j => exact .cons _ _ (ih _ j h)
  exact this vs ns _ hi

theorem list_meth {D : Addr} {its : Array Value} {n : Nat} {name : Str} {id : String} {pl : Sem Bool} {Q : Value × List Value → Shared → Prop} (ho : s.heap.get? D = some (W.listOf its n)) (slot : Slot "list" name id) (hty : typeOf (.builtin id) = pure (.type "method_descriptor"))
    (h : Q (.builtin id, [.ref D]) s) : wpAny (model prog w) A (getMethod (.ref D) name pl) Q E s :=
  getMethod_builtin (Mine.mkE1A1 _ ho rfl) PySem.F.plainAttrs_list slot hty (fun a e => by cases e; exact (Mine.mkE1A1 _ ho rfl)) h
theorem dict_meth {d : Addr} {o : Obj} {kvs : List (Int × Value)} {name : Str} {id : String} {pl : Sem Bool} {Q : Value × List Value → Shared → Prop} (ho : s.heap.get? d = some o) (hd : o.IsDictOf (intKind prog w) kvs) (slot : Slot "dict" name id) (ty : typeOf (.builtin id) = pure (.type "method_descriptor")) (h : Q (.builtin id, [.ref d]) s) :
    wpAny (model prog w) A (getMethod (.ref d) name pl) Q E s :=
  have hD : s.heap.DictOf (intKind prog w) d kvs := Heap.dictOf_iff.mpr (Mine.mkE1A1 o ho hd)
  getMethod_builtin hD.typeIs PySem.F.plainAttrs_dict slot ty hD.mapOf.noDict h
theorem dict_get2 {d : Addr} {o : Obj} {kvs : List (Int × Value)} {k : Int} {t : Tok} {dflt : Value} {Q : Value → Shared → Prop} (ho : s.heap.get? d = some o) (hd : o.IsDictOf (intKind prog w) kvs) (lo : (d == sysModules) = false) (h : Q ((valueAt kvs k).getD dflt) { s with toks := s.toks + 1 }) :
    wpAny (model prog w) A (call (.builtin "dict.get") [.ref d, .int k t, dflt]) Q E s :=
  have hD : s.heap.DictOf (intKind prog w) d kvs := Heap.dictOf_iff.mpr (Mine.mkE1A1 o ho hd)
  call_meetsIn PySem.F.slot_dict_get hD.typeIs PySem.F.entry_dict_get (PySem.F.args_dict_get_3 _ _ _) (meets_dict_get_default (intKind prog w) d (intKind_is _ _ _ _) lo dflt) (Mine.mkE1A1 _ hD.mapOf h)
end

set_option hygiene false in
local macro_rules
| `(tactic| walk_at "getMethod ref") => `(tactic| (k_dflt (refine method_inst (by k_asm) (by k_asm) (by walk_at "inst") (by k_is) (by k_is) (by k_is) (by k_get) ?_)))
section
variable {prog : Program} {w : World} {A : Around} {E : Value → Shared → Prop} {s : Shared} {D : Addr} {its : Array Value} {n : Nat} {pl : Sem Bool} {Q : Value × List Value → Shared → Prop} {d : Addr} {o : Obj} {kvs : List (Int × Value)}
theorem meth_append (ho : s.heap.get? D = some (W.listOf its n)) (h : Q (.builtin "list.append", [.ref D]) s) : wpAny (model prog w) A (getMethod (.ref D) (Str.ofString "append") pl) Q E s := list_meth ho PySem.F.slot_list_append PySem.F.type_list_append h
theorem meth_pop (ho : s.heap.get? D = some (W.listOf its n)) (h : Q (.builtin "list.pop", [.ref D]) s) : wpAny (model prog w) A (getMethod (.ref D) (Str.ofString "pop") pl) Q E s := list_meth ho PySem.F.slot_list_pop PySem.F.type_list_pop h
theorem meth_get (ho : s.heap.get? d = some o) (hd : o.IsDictOf (intKind prog w) kvs) (h : Q (.builtin "dict.get", [.ref d]) s) : wpAny (model prog w) A (getMethod (.ref d) (Str.ofString "get") pl) Q E s := dict_meth ho hd PySem.F.slot_dict_get PySem.F.type_dict_get h
theorem meth_setdefault (ho : s.heap.get? d = some o) (hd : o.IsDictOf (intKind prog w) kvs) (h : Q (.builtin "dict.setdefault", [.ref d]) s) : wpAny (model prog w) A (getMethod (.ref d) (Str.ofString "setdefault") pl) Q E s := dict_meth ho hd PySem.F.slot_dict_setdefault PySem.F.type_dict_setdefault h
end
set_option hygiene false in
local macro_rules
| `(tactic| walk_at "getMethod ref") => `(tactic| (k_dflt (first | ((with_reducible show wpAny _ _ (getMethod _ (Str.ofString "append") _) _ _ _); refine Mine.meth_append (by walk_at "at") ?_) | ((with_reducible show wpAny _ _ (getMethod _ (Str.ofString "pop") _) _ _ _); refine Mine.meth_pop (by walk_at "at") ?_) | ((with_reducible show wpAny _ _ (getMethod _ (Str.ofString "get") _) _ _ _); refine Mine.meth_get (by walk_at "at") (by assumption) ?_) | ((with_reducible show wpAny _ _ (getMethod _ (Str.ofString "setdefault") _) _ _ _); refine Mine.meth_setdefault (by walk_at "at") (by assumption) ?_) | fail)))
set_option hygiene false in
local macro_rules
| `(tactic| walk_at "call builtin:dict.get") => `(tactic| (k_dflt (refine Mine.dict_get2 (by walk_at "at") (by assumption) (by assumption) ?_)))
set_option hygiene false in
local macro_rules
| `(tactic| walk_at "fact") => `(tactic| first | assumption | omega)
set_option hygiene false in
local macro_rules
| `(tactic| walk_at "subscriptTail") => `(tactic| ((with_reducible show wpAny _ _ (subscriptTail _ _ (Value.ref _) (Value.int _ _)) _ _ _); k_dflt (refine Mine.list_item (by walk_at "at") (by assumption) (by walk_at "fact") (by walk_at "fact") (by walk_at "fact") ?_ (by with_unfolding_all rfl)); intro _))
local macro_rules
| `(tactic| walk_at "setItem ref int int") => `(tactic| (k_dflt (refine Mine.list_set (by k_asm) (by k_asm) (by k_updF) (by assumption) (by walk_at "fact") (by walk_at "fact") (by walk_at "fact") ?_); intro h' vs' F' N' i'))
local macro_rules
| `(tactic| walk_at "setAttr ref") => `(tactic| (k_dflt (refine set_dict (by k_asm) (by k_asm) (by k_asm) (by walk_at "inst") (by exact rfl) (by k_is) (by k_is) (by k_is) (by k_is) (by k_get) (by k_put) (by k_upd) (by exact Nat.le_of_ble_eq_true rfl) ?_); intro h' F' N'))

section
variable {w : World} {mg mb : Str → Option Value} {n : Nat} {A : Around} {h₀ : Heap} {L : Addr} {m : Str → Option Value} {s : Shared} {E : Value → Shared → Prop} {Q : Value → Shared → Prop}

/-- what last_of looks for -/
noncomputable def freeOf (K : List Int) (c : List Int) : List Int := c.filter fun l => !decide (l ∈ K) && !decide (-l ∈ K)

theorem last_spec {a : StA} {e ck : Value} {cs : List (List Int)} {c : List Int} {k y : Int} {t : Tok} {ot : Obj} {kvs : List (Int × Value)} (C : Cx w mg mb (n + 1) A h₀ L) (F : Fr h₀ L s.heap m) (hx : s.heap.get? a.x = some (instObj 74 a.dx)) (hdx : DxAt s.heap a e ck)
    (hcs : ClausesAt s.heap a.cl cs) (hlc : cs.length ≤ 1000) (hll : ∀ c ∈ cs, c.length ≤ 1000) (hot : s.heap.get? a.ta = some ot) (hto : ot.IsDictOf (intKind PP w) kvs) (lo : (a.ta == sysModules) = false)
    (hk0 : 0 ≤ k) (hk : cs[k.toNat]? = some c) (hy : (freeOf (keysOf kvs) c)[0]? = some y)
    (hQ : ∀ ty h' tk, Kp [] s.heap h' → Fr h₀ L h' m → Q (.int y ty) { s with heap := h', toks := tk }) :
    wpAny (model PP w) A (call (.ref 40) [.ref a.x, .int k t]) Q E s := by
  refine' callRC (binds := [(Str.ofString "self", .ref a.x), (Str.ofString "number", .int k t)]) (R := fun v h' => ∃ ty, v = .int y ty) [] C F (by simp) ?ho ?hcd ?hb ?hl ?hnd ?h ?hQ ?c1 ?c2 ?c3
  case ho => exact rfl
  case hcd => exact rfl
  case hb => exact BindsTo.of_eq rfl
  case hl => exact rfl
  case hnd => decide +kernel
  case c1 => rfl
  case c2 => rfl
  case c3 => rfl
  case hQ =>
    rintro v h' tk ⟨ty, rfl⟩ hk' F'
    exact hQ _ _ _ hk' F'
  case h =>
    intro g L' h₁ tk cells hg hL' C' F' Nc Y hk₁ hcl
    have hgk : ∀ b o, s.heap.get? b = some o → g.get? b = some o := hg ▸ fun _ _ e => e
    walk_at "hideG"
    (refine Mine.exE3 hdx ?_; (try clear hdx); intro hs ts nd hdx)
    have hcg := hcs.keeps hgk
    (refine Mine.exE2A2 hcg ?_; (try clear hcg); intro as na hca hal haf)
    have gx := hgk _ _ hx
    have gdx := hgk _ _ hdx
    have got := hgk _ _ hot
    have X := C'.G.X
    have T := C'.G.T
    have hh := C'.hh
    have hkl : k.toNat < cs.length := (List.getElem?_eq_some_iff.mp hk).1
    (refine Mine.exE1A1 (CellsAre.one Y) ?_; intro o1 hsb59 d1; subst hsb59)
    walk_at "showG"
    clear hgk hk₁ hx hdx hcs hot hg hcl
    (repeat' (walk_at "go"))
    refine' comp_ (cl := [(Str.ofString "taken", L' + 1)]) ?d1 ?d2 ?d3 ?_ ?d4
    case d1 => rfl
    case d2 => rfl
    case d3 => decide
    case d4 => intro _; rfl
    (repeat' (walk_at "go"))
    have hka : k.toNat < as.length := by omega
    (refine Mine.exE2 (clauseItem (i := k.toNat) (v := .ref as[k.toNat]) hal haf (by simp [hka])) ?_; intro x c' hrun60; refine Mine.exA3 hrun60 ?_; clear hrun60; intro hxv hc' hcm hrun61; refine Mine.exE2 hrun61 ?_; clear hrun61; intro vc nc hrun62; refine Mine.exA1 hrun62 ?_; clear hrun62; intro hxc hic)
    rw [hk] at hc'; cases hc'
    refine' list_itemV (v := .ref x) (Fr.keep (by k_asm) _ _ hca) hk0 (by omega) (by rw [← hxv]; simp [hka]) ?_ ?d5
    case d5 => with_unfolding_all rfl
    (repeat' (walk_at "go"))
    refine' comp_filter (T := "tuple") (.inr rfl) (Fr.keep (by k_asm) _ _ hxc) rfl rfl hic (fun l => !decide (l ∈ keysOf kvs) && !decide (-l ∈ keysOf kvs)) hh ?g1 ?g2 ?g3 ?F2 ?N2 (hll c hcm) (.inl ⟨_, hxc⟩) ?tests2 ?fin2 ?g4 ?g5
    case g1 => decide
    case g2 => rfl
    case g3 => rfl
    case F2 => k_asm
    case N2 => k_asm
    case g4 => intro _; rfl
    case g5 => decide
    case tests2 =>
      intro I2 D2 C2 oI2 oD2 oC2 v t s4 m4 hv F4 N4 hn4 hx4
      refine ctests_one ?_
      (repeat' (walk_at "go"))
      by_cases hb : (!decide (v ∈ keysOf kvs)) = true
      · rw [if_pos hb]
        (repeat' (walk_at "go"))
        rw [hb]
        simp only [Bool.true_and]
        by_cases hb2 : (!decide (-v ∈ keysOf kvs)) = true
        · rw [if_pos hb2]
          (repeat' (walk_at "go"))
          exact (Mine.mkA1E1 hb2.symm _ rfl)
        · rw [if_neg hb2]
          exact (Mine.mkA1E1 ((Bool.eq_false_iff.mpr hb2).symm) _ rfl)
      · rw [if_neg hb]
        refine (Mine.mkA1E1 ?_ _ rfl)
        rw [Bool.eq_false_iff.mpr hb]; rfl
    case fin2 =>
      intro D2 C2 h4 tk4 m4 ys4 nD4 hys4 F4 N4 hlt4 hsD4 hC4
      refine fin_none F4 N4 hC4 fun h5 F5 N5 => ?_
      change (c.filter fun l => !decide (l ∈ keysOf kvs) && !decide (-l ∈ keysOf kvs))[0]? = some y at hy
      have hp1 : (0 : Int) < ((c.filter fun l => !decide (l ∈ keysOf kvs) && !decide (-l ∈ keysOf kvs)).length : Int) := by
        have := (List.getElem?_eq_some_iff.mp hy).1; omega
      have hp2 : (c.filter fun l => !decide (l ∈ keysOf kvs) && !decide (-l ∈ keysOf kvs)).length ≤ 1000 := Nat.le_trans (List.length_filter_le _ _) (hll c hcm)
      (repeat' (walk_at "go"))
      (repeat' (walk_at "go")); (try dsimp only)
      refine retR (by k_asm) ?_
      have : (c.filter fun l => !decide (l ∈ keysOf kvs) && !decide (-l ∈ keysOf kvs)).getD (0 : Int).toNat 0 = y := by
        show _ = _
        rw [List.getD_eq_getElem?_getD, show (0 : Int).toNat = 0 from rfl, hy]; rfl
      rw [this]
      exact ⟨_, rfl⟩
end

/-! part P1 -/

/-- the numbers of the clauses with a literal, ascending -/
noncomputable def idxOf (cs : List (List Int)) (k : Int) : List Int := (cs.zipIdx.filter fun q => decide (k ∈ q.1)).map fun q => (q.2 : Int)
/-- a count that has turned for some of the clauses -/
noncomputable def mixL (pre : List Int) (f' f : List Int → Int) (cs : List (List Int)) : List Int := cs.zipIdx.map fun q => if (q.2 : Int) ∈ pre then f' q.1 else f q.1

theorem mem_idxOf {cs : List (List Int)} {k n : Int} : n ∈ idxOf cs k ↔ 0 ≤ n ∧ ∃ c, cs[n.toNat]? = some c ∧ k ∈ c := by
  unfold idxOf
  rw [List.mem_map]
  constructor
  · rintro ⟨⟨c, i⟩, h, rfl⟩
    rw [List.mem_filter] at h
    have h1 := List.mem_zipIdx_iff_getElem?.mp h.1
    exact ⟨by simp, (Mine.mkE1A1 c (by simpa using h1) (by simpa using h.2))⟩
  · rintro ⟨h0, c, hc, hk⟩
    refine (Mine.mkE1A1 (c, n.toNat) (List.mem_filter.mpr ⟨List.mem_zipIdx_iff_getElem?.mpr (by simpa using hc), by simpa using hk⟩) ?_)
    show ((n.toNat : Nat) : Int) = n
    omega

theorem idxOf_nodup (cs : List (List Int)) (k : Int) : (idxOf cs k).Nodup := by
  unfold idxOf
  have h : (cs.zipIdx.map (·.2)).Nodup := by
    rw [List.zipIdx_map_snd]; exact List.nodup_range'
  have h2 : ((cs.zipIdx.filter fun q => decide (k ∈ q.1)).map (·.2)).Nodup := List.Sublist.nodup (List.Sublist.map _ List.filter_sublist) h
  have e : (cs.zipIdx.filter fun q => decide (k ∈ q.1)).map (fun q => ((q.2 : Nat) : Int)) = ((cs.zipIdx.filter fun q => decide (k ∈ q.1)).map (·.2)).map fun j => ((j : Nat) : Int) := by
    rw [List.map_map]; rfl
  rw [e, List.nodup_iff_pairwise_ne, List.pairwise_map]
  exact (List.nodup_iff_pairwise_ne.mp h2).imp fun h q => h (Int.ofNat.inj q)

theorem mixL_length {pre : List Int} {f' f : List Int → Int} {cs : List (List Int)} : (mixL pre f' f cs).length = cs.length := by simp [mixL]

theorem mixL_get? {pre : List Int} {f' f : List Int → Int} {cs : List (List Int)} {i : Nat} : (mixL pre f' f cs)[i]? = (cs[i]?).map fun c => if (i : Int) ∈ pre then f' c else f c := by
  unfold mixL
  rw [List.getElem?_map, List.getElem?_zipIdx, Option.map_map]
  simp [Function.comp_def]

theorem mixL_getD {pre : List Int} {f' f : List Int → Int} {cs : List (List Int)} {n : Int} {c : List Int} (h0 : 0 ≤ n) (hc : cs[n.toNat]? = some c) : (mixL pre f' f cs).getD n.toNat 0 = if n ∈ pre then f' c else f c := by
  have e : ((n.toNat : Nat) : Int) = n := by omega
  rw [List.getD_eq_getElem?_getD, mixL_get?, hc]
  simp [e]

theorem mixL_set {pre : List Int} {f' f : List Int → Int} {cs : List (List Int)} {n : Int} {c : List Int} (h0 : 0 ≤ n) (hc : cs[n.toNat]? = some c) : (mixL pre f' f cs).set n.toNat (f' c) = mixL (pre ++ [n]) f' f cs := by
  apply List.ext_getElem?
  intro i
  rw [List.getElem?_set, mixL_get?, mixL_get?, mixL_length]
  by_cases hi : n.toNat = i
  · subst hi
    have hl := (List.getElem?_eq_some_iff.mp hc).1
    have e : ((n.toNat : Nat) : Int) = n := by omega
    rw [if_pos rfl, if_pos hl, hc]
    simp [e]
  · rw [if_neg hi]
    have hne : ¬ (i : Int) = n := by omega
    simp [hne]

theorem mixL_nil {f' f : List Int → Int} {cs : List (List Int)} : mixL [] f' f cs = cs.map f := by
  apply List.ext_getElem?
  intro i
  rw [mixL_get?, List.getElem?_map]
  simp

theorem mixL_all {pre : List Int} {f' f : List Int → Int} {cs : List (List Int)} (h : ∀ (i : Nat) c, cs[i]? = some c → (i : Int) ∉ pre → f' c = f c) : mixL pre f' f cs = cs.map f' := by
  apply List.ext_getElem?
  intro i
  rw [mixL_get?, List.getElem?_map]
  cases hc : cs[i]? with
  | none => rfl
  | some c =>
    simp only [Option.map_some, Option.some.injEq]
    by_cases hi : (i : Int) ∈ pre
    · rw [if_pos hi]
    · rw [if_neg hi, h i c hc hi]

theorem ClauseOk.nodup {c : List Int} (h : ClauseOk c) : c.Nodup := h.2.imp fun h e => by rw [e] at h; exact Nat.lt_irrefl _ h
theorem ClauseOk.noneg {c : List Int} (h : ClauseOk c) {l : Int} (h1 : l ∈ c) : -l ∉ c := by
  intro h2
  have hl := (h.1 l h1).1
  walk_at "hideG"
  obtain ⟨i, hi, e1⟩ := List.getElem_of_mem h1
  obtain ⟨j, hj, e2⟩ := List.getElem_of_mem h2
  walk_at "showG"
  have hp := List.pairwise_iff_getElem.mp h.2
  rcases Nat.lt_trichotomy i j with h3 | h3 | h3
  · have := hp i j hi hj h3; rw [e1, e2] at this; omega
  · subst h3; rw [e1] at e2; omega
  · have := hp j i hj hi h3; rw [e1, e2] at this; omega

theorem filter_length_step {c : List Int} {p q : Int → Bool} {x : Int} (hn : c.Nodup) (hx : x ∈ c) (hpx : p x = false) (hqx : q x = true) (h : ∀ y ∈ c, y ≠ x → p y = q y) : (c.filter q).length = (c.filter p).length + 1 := by
  induction c with
  | nil => cases hx
  | cons a r ih =>
    rw [List.nodup_cons] at hn
    rcases List.mem_cons.mp hx with rfl | hx
    · rw [List.filter_cons, List.filter_cons, hpx, hqx]
      have : r.filter q = r.filter p := List.filter_congr fun y hy => (h y (.tail _ hy) (fun e => hn.1 (e ▸ hy))).symm
      simp [this]
    · have ha : a ≠ x := fun e => hn.1 (e ▸ hx)
      have := ih hn.2 hx fun y hy hne => h y (.tail _ hy) hne
      rw [List.filter_cons, List.filter_cons, h a (.head _) ha]
      split <;> simp [this]

theorem heldOf_in {T c : List Int} {l : Int} (hc : c.Nodup) (hl : l ∈ c) (hT : l ∉ T) : heldOf (T ++ [l]) c = heldOf T c + 1 := by
  unfold heldOf
  rw [filter_length_step (p := fun x => decide (x ∈ T)) (q := fun x => decide (x ∈ T ++ [l])) hc hl (by simp [hT]) (by simp) (fun y _ hne => by simp [hne])]
  omega
theorem heldOf_out {T c : List Int} {l : Int} (hl : l ∉ c) : heldOf (T ++ [l]) c = heldOf T c := by
  unfold heldOf
  rw [List.filter_congr (p := fun x => decide (x ∈ T ++ [l])) (q := fun x => decide (x ∈ T)) fun y hy => by
    have : y ≠ l := fun e => hl (e ▸ hy)
    simp [this]]
theorem openOf_in {T c : List Int} {l : Int} (hc : c.Nodup) (hl : -l ∈ c) (hT : l ∉ T) : openOf (T ++ [l]) c = openOf T c - 1 := by
  unfold openOf
  have := filter_length_step (p := fun x => !decide ((0 - x) ∈ T ++ [l])) (q := fun x => !decide ((0 - x) ∈ T)) hc hl (by simp) (by simpa using hT) (fun y _ hne => by
    have h1 : ¬ 0 - y = l := by omega
    simp only [List.mem_append, List.mem_singleton, h1, or_false])
  rw [this]; omega
theorem openOf_out {T c : List Int} {l : Int} (hl : -l ∉ c) : openOf (T ++ [l]) c = openOf T c := by
  unfold openOf
  rw [List.filter_congr (p := fun x => !decide ((0 - x) ∈ T ++ [l])) (q := fun x => !decide ((0 - x) ∈ T)) fun y hy => by
    have : ¬ 0 - y = l := fun e => hl (by have : y = -l := by omega
                                          exact this ▸ hy)
    simp only [List.mem_append, List.mem_singleton, this, or_false]]

/-- no clause of the drawn ones is both -/
theorem free_of_counts {T c : List Int} (hh : heldOf T c = 0) (ho : openOf T c = 1) : ∃ y, freeOf T c = [y] := by
  have h1 : c.filter (fun l => decide (l ∈ T)) = [] := by
    unfold heldOf at hh
    exact List.eq_nil_of_length_eq_zero (by omega)
  have h2 : freeOf T c = c.filter fun l => !decide ((0 - l) ∈ T) := by
    unfold freeOf
    refine List.filter_congr fun y hy => ?_
    have : y ∉ T := fun h => by
      have := List.filter_eq_nil_iff.mp h1 y hy
      simp [h] at this
    have e : (0 - y) = -y := by omega
    simp [this, e]
  unfold openOf at ho
  rw [← h2] at ho
  match hf : freeOf T c, ho with
  | [y], _ => exact ⟨y, rfl⟩
  | [], ho => simp at ho
  | _ :: _ :: _, ho => simp at ho; omega

/-! part M9 -/
set_option maxHeartbeats 4000000


/-- a tuple of two ints -/
def PairAt (h : Heap) (x : Addr) (q : Int × Int) : Prop := ∃ t u n, h.get? x = some { cls := .type "tuple", data := .seq #[.int q.1 t, .int q.2 u] n }
theorem PairAt.keeps {h h' : Heap} {x : Addr} {q : Int × Int} (p : PairAt h x q) (k : ∀ b o, h.get? b = some o → h'.get? b = some o) : PairAt h' x q := let ⟨t, u, n, e⟩ := p; (Mine.mkE3 t u n (k _ _ e))
/-- a list of such -/
def PairsAt (h : Heap) (a : Addr) (qs : List (Int × Int)) : Prop := ∃ (as : List Addr) (n : Nat), h.get? a = some (W.listOf (as.map Value.ref).toArray n) ∧ as.length = qs.length ∧ ∀ (i : Nat) x q, as[i]? = some x → qs[i]? = some q → PairAt h x q

/-- the lists of clauses' numbers, by literal -/
def PlacesAt (w : World) (h : Heap) (a : StA) (ps : List Addr) (cs : List (List Int)) : Prop := ∃ o kvp, h.get? a.pl = some o ∧ o.IsDictOf (intKind PP w) kvp ∧
  (∀ k v, valueAt kvp k = some v → ∃ p, v = .ref p ∧ p ∈ ps ∧ ListInts h p (idxOf cs k)) ∧ (∀ k, valueAt kvp k = none → idxOf cs k = []) ∧ (∀ k k' v, valueAt kvp k = some v → valueAt kvp k' = some v → k = k') ∧ kvp.length ≤ 5 * cs.length ∧ ∀ p ∈ ps, ∃ vs n, h.get? p = some (W.listOf (List.toArray vs) n)

noncomputable def emptyOf (cs : List (List Int)) : Int := match (cs.zipIdx.filter fun q => q.1.isEmpty).getLast? with
  | some q => (q.2 : Int)
  | none => -1
noncomputable def begunOf (cs : List (List Int)) : List (Int × Int) := (cs.zipIdx.filter fun q => q.1.length == 1).map fun q => (q.1.headD 0, (q.2 : Int))

/-- a UnitSteps, in the heap -/
structure StepsAt (w : World) (h : Heap) (a : StA) (ps : List Addr) (cs : List (List Int)) (kvs : List (Int × Value)) (ck : Int × Int) : Prop where
  x : h.get? a.x = some (instObj 74 a.dx)
  dx : ∃ te k, DxAt h a (.int (emptyOf cs) te) (.ref k) ∧ PairAt h k ck
  cl : ClausesAt h a.cl cs
  pl : PlacesAt w h a ps cs
  he : ListInts h a.he (cs.map (heldOf (keysOf kvs)))
  op : ListInts h a.op (cs.map (openOf (keysOf kvs)))
  be : PairsAt h a.be (begunOf cs)
  ta : ∃ o, h.get? a.ta = some o ∧ o.IsDictOf (intKind PP w) kvs
  tav : ∀ q ∈ kvs, ∃ i t, q.2 = .int i t
  tr : ListInts h a.tr (keysOf kvs)

/-- what does not turn -/
structure StOk (a : StA) (ps : List Addr) : Prop where
  nd : (([a.x, a.dx, a.cl, a.pl, a.he, a.op, a.be, a.ta, a.tr] : List Nat) ++ ps).Nodup
  lo1 : (a.pl == sysModules) = false
  lo2 : (a.ta == sysModules) = false

/-- all of it apart -/
structure StNe (a : StA) (ps : List Addr) : Prop where
  n01 : @Ne Nat a.x a.dx
  n02 : @Ne Nat a.x a.cl
  n03 : @Ne Nat a.x a.pl
  n04 : @Ne Nat a.x a.he
  n05 : @Ne Nat a.x a.op
  n06 : @Ne Nat a.x a.be
  n07 : @Ne Nat a.x a.ta
  n08 : @Ne Nat a.x a.tr
  n09 : a.x ∉ ps
  n12 : @Ne Nat a.dx a.cl
  n13 : @Ne Nat a.dx a.pl
  n14 : @Ne Nat a.dx a.he
  n15 : @Ne Nat a.dx a.op
  n16 : @Ne Nat a.dx a.be
  n17 : @Ne Nat a.dx a.ta
  n18 : @Ne Nat a.dx a.tr
  n19 : a.dx ∉ ps
  n23 : @Ne Nat a.cl a.pl
  n24 : @Ne Nat a.cl a.he
  n25 : @Ne Nat a.cl a.op
  n26 : @Ne Nat a.cl a.be
  n27 : @Ne Nat a.cl a.ta
  n28 : @Ne Nat a.cl a.tr
  n29 : a.cl ∉ ps
  n34 : @Ne Nat a.pl a.he
  n35 : @Ne Nat a.pl a.op
  n36 : @Ne Nat a.pl a.be
  n37 : @Ne Nat a.pl a.ta
  n38 : @Ne Nat a.pl a.tr
  n39 : a.pl ∉ ps
  n45 : @Ne Nat a.he a.op
  n46 : @Ne Nat a.he a.be
  n47 : @Ne Nat a.he a.ta
  n48 : @Ne Nat a.he a.tr
  n49 : a.he ∉ ps
  n56 : @Ne Nat a.op a.be
  n57 : @Ne Nat a.op a.ta
  n58 : @Ne Nat a.op a.tr
  n59 : a.op ∉ ps
  n67 : @Ne Nat a.be a.ta
  n68 : @Ne Nat a.be a.tr
  n69 : a.be ∉ ps
  n78 : @Ne Nat a.ta a.tr
  n79 : a.ta ∉ ps
  n89 : a.tr ∉ ps
  n99 : ps.Nodup
theorem StOk.ne {a : StA} {ps : List Addr} (O : StOk a ps) : StNe a ps := by
  have d0 := List.nodup_cons.mp O.nd
  have d1 := List.nodup_cons.mp d0.2
  have d2 := List.nodup_cons.mp d1.2
  have d3 := List.nodup_cons.mp d2.2
  have d4 := List.nodup_cons.mp d3.2
  have d5 := List.nodup_cons.mp d4.2
  have d6 := List.nodup_cons.mp d5.2
  have d7 := List.nodup_cons.mp d6.2
  have d8 := List.nodup_cons.mp d7.2
  have e0 := nmo d0.1
  have e1 := nmo d1.1
  have e2 := nmo d2.1
  have e3 := nmo d3.1
  have e4 := nmo d4.1
  have e5 := nmo d5.1
  have e6 := nmo d6.1
  have e7 := nmo d7.1
  have e8 := nmo d8.1
  exact ⟨e0.1, e0.2.1, e0.2.2.1, e0.2.2.2.1, e0.2.2.2.2.1, e0.2.2.2.2.2.1, e0.2.2.2.2.2.2.1, e0.2.2.2.2.2.2.2.1, fun m => d0.1 (.tail _ (.tail _ (.tail _ (.tail _ (.tail _ (.tail _ (.tail _ (.tail _ (m))))))))), e1.1, e1.2.1, e1.2.2.1, e1.2.2.2.1, e1.2.2.2.2.1, e1.2.2.2.2.2.1, e1.2.2.2.2.2.2.1, fun m => d1.1 (.tail _ (.tail _ (.tail _ (.tail _ (.tail _ (.tail _ (.tail _ (m)))))))), e2.1, e2.2.1, e2.2.2.1, e2.2.2.2.1, e2.2.2.2.2.1, e2.2.2.2.2.2.1, fun m => d2.1 (.tail _ (.tail _ (.tail _ (.tail _ (.tail _ (.tail _ (m))))))), e3.1, e3.2.1, e3.2.2.1, e3.2.2.2.1, e3.2.2.2.2.1, fun m => d3.1 (.tail _ (.tail _ (.tail _ (.tail _ (.tail _ (m)))))), e4.1, e4.2.1, e4.2.2.1, e4.2.2.2.1, fun m => d4.1 (.tail _ (.tail _ (.tail _ (.tail _ (m))))), e5.1, e5.2.1, e5.2.2.1, fun m => d5.1 (.tail _ (.tail _ (.tail _ (m)))), e6.1, e6.2.1, fun m => d6.1 (.tail _ (.tail _ (m))), e7.1, fun m => d7.1 (.tail _ (m)), fun m => d8.1 (m), d8.2⟩

/-- facts that go on where all but ch is kept -/
theorem PairAt.kp {h h' : Heap} {ch : List Addr} {x : Addr} {q : Int × Int} (p : PairAt h x q) (k : Kp ch h h') (hx : x ∉ ch) : PairAt h' x q := let ⟨t, u, n, e⟩ := p; (Mine.mkE3 t u n (k _ _ hx e))
theorem ListInts.kp {h h' : Heap} {ch : List Addr} {x : Addr} {c : List Int} (p : ListInts h x c) (k : Kp ch h h') (hx : x ∉ ch) : ListInts h' x c := let ⟨t, u, e, i⟩ := p; (Mine.mkE2A1 t u (k _ _ hx e) i)
theorem TupInts.kp {h h' : Heap} {ch : List Addr} {x : Addr} {c : List Int} (p : TupInts h x c) (k : Kp ch h h') (hx : x ∉ ch) : TupInts h' x c := let ⟨t, u, e, i⟩ := p; (Mine.mkE2A1 t u (k _ _ hx e) i)

/-- none of ch is a tuple -/
def NoTup (h : Heap) (ch : List Addr) : Prop := ∀ b ∈ ch, ∀ vs n, h.get? b ≠ some { cls := .type "tuple", data := .seq vs n }
theorem NoTup.off {h : Heap} {ch : List Addr} (H : NoTup h ch) {b : Addr} {vs : Array Value} {n : Nat} (e : h.get? b = some { cls := .type "tuple", data := .seq vs n }) : b ∉ ch := fun hb => H b hb _ _ e

theorem NoTup.cons {h : Heap} {ch : List Addr} {b : Addr} {o : Obj} (H : NoTup h ch) (hb : h.get? b = some o) (hc : o.cls ≠ .type "tuple") : NoTup h (b :: ch) := fac (fun _ _ e => by rw [hb] at e; cases e; exact hc rfl) H
theorem NoTup.sub {h : Heap} {c1 c2 : List Addr} (H : NoTup h c2) (s : ∀ b ∈ c1, b ∈ c2) : NoTup h c1 := fun b hb => H b (s b hb)
theorem NoTup.nil {h : Heap} : NoTup h [] := fa0
theorem NoTup.lst {h : Heap} {ch : List Addr} {b : Addr} {vs : Array Value} {k : Nat} (H : NoTup h ch) (hb : h.get? b = some (W.listOf vs k)) : NoTup h (b :: ch) := H.cons hb (by simp [W.listOf])
theorem NoTup.dct {h : Heap} {ch : List Addr} {b : Addr} {es : List DictEntry} {k : Nat} (H : NoTup h ch) (hb : h.get? b = some (dictOf es k)) : NoTup h (b :: ch) := H.cons hb (by simp [dictOf])
theorem NoTup.isd {h : Heap} {ch : List Addr} {b : Addr} {o : Obj} {w : World} {kvs : List (Int × Value)} (H : NoTup h ch) (hb : h.get? b = some o) (hd : o.IsDictOf (intKind PP w) kvs) : NoTup h (b :: ch) := H.cons hb (by
  (refine Mine.exE2A1 hd ?_; intro _ _ x _); rw [x.1]; simp)
theorem NoTup.cel {h : Heap} {ch : List Addr} {b : Addr} {o : Obj} {v : Option Value} (H : NoTup h ch) (hb : h.get? b = some o) (hd : o.data = .cell v) : NoTup h (b :: ch) := fac (fun _ _ e => by rw [hb] at e; cases e; cases hd) H
theorem NoTup.ns {g h : Heap} {L : Addr} {m : Str → Option Value} {ch : List Addr} (H : NoTup h ch) (F : PyProof.Rows.Fr g L h m) : NoTup h (L :: ch) := by
  (refine Mine.exE3A2 F.ns ?_; intro oL es ep hL hLd r)
  exact fac (fun _ _ e => by rw [hL] at e; cases e; cases hLd) H
theorem StepsAt.noTup {w : World} {h : Heap} {a : StA} {ps : List Addr} {cs : List (List Int)} {kvs : List (Int × Value)} {ck : Int × Int} (S : StepsAt w h a ps cs kvs ck) : NoTup h (([a.dx, a.cl, a.pl, a.he, a.op, a.be, a.ta, a.tr] : List Nat) ++ ps) := by
  (refine Mine.exE2A1 S.dx ?_; intro _ _ hnst _; refine Mine.exE3 hnst ?_; intro _ _ _ hdx)
  (refine Mine.exE2A1 S.he ?_; intro _ _ e1 _)
  (refine Mine.exE2A1 S.op ?_; intro _ _ e2 _)
  (refine Mine.exE2A1 S.tr ?_; intro _ _ e3 _)
  (refine Mine.exE1A1 S.ta ?_; intro _ e4 hta)
  (refine Mine.exE2A6 S.pl ?_; intro _ _ e5 hpl _ _ _ _ hps)
  (refine Mine.exE2A1 S.cl ?_; intro _ _ e6 _)
  (refine Mine.exE2A1 S.be ?_; intro _ _ e7 _)
  have H : NoTup h ps := fun b hb vs n e => (hps b hb).elim fun _ q => q.elim fun _ e8 => by rw [e8] at e; have := congrArg Obj.cls (Option.some.inj e); simp at this
  exact (((((((H.lst e3).isd e4 hta).lst e7).lst e2).lst e1).isd e5 hpl).lst e6).dct hdx
theorem ntL1 {g h : Heap} {L d : Addr} {m : Str → Option Value} {es : List DictEntry} {k : Nat} (F : PyProof.Rows.Fr g L h m) (hd : h.get? d = some (dictOf es k)) : NoTup h [L, d] := (NoTup.nil.dct hd).ns F
theorem gkOf {g h : Heap} {ch : List Addr} (hg : g = hideAll h ch) : Kp ch h g := fun _ _ hb e => hg ▸ hideAll_get _ e hb
theorem gkTOf {g h : Heap} {ch : List Addr} (k : Kp ch h g) (H : NoTup h ch) : ∀ b vs n, h.get? b = some { cls := .type "tuple", data := .seq vs n } → g.get? b = some { cls := .type "tuple", data := .seq vs n } := fun b _ _ e => k b _ (H.off e) e
theorem gdnOf {g h h₁ : Heap} {L : Nat} {ch : List Addr} (hg : g = hideAll h ch) (hL : L = h.objs.size) (k : ∀ b o, h.get? b = some o → h₁.get? b = some o) (hl : ∀ b ∈ ch, ∃ o, h.get? b = some o) : ∀ b ∈ ch, g.get? b = none ∧ b ≠ L := fun b hb => (hl b hb).elim fun o ho => by
  rw [hg, hL]
  have := news_of (ch := ch) ho hb k
  exact ⟨this.2.2, this.2.1⟩
theorem sub8 {b : Nat} {a : StA} {ps : List Addr} (hb : b ∈ (([a.x, a.cl, a.pl, a.he, a.op, a.be, a.ta, a.tr] : List Nat) ++ ps)) : b ∈ (([a.x, a.dx, a.cl, a.pl, a.he, a.op, a.be, a.ta, a.tr] : List Nat) ++ ps) :=
  (List.mem_append.mp hb).elim (fun h => List.mem_append_left _ ((by walk_at "sub" : ∀ p ∈ _, p ∈ _) _ h)) fun h => List.mem_append_right _ h
theorem StOk.offdx {a : StA} {ps : List Addr} (O : StOk a ps) : ∀ b ∈ (([a.x, a.cl, a.pl, a.he, a.op, a.be, a.ta, a.tr] : List Nat) ++ ps), ¬ b = a.dx := by
  have n := O.ne
  exact faa (fac n.n01 (fac n.n12.symm (fac n.n13.symm (fac n.n14.symm (fac n.n15.symm (fac n.n16.symm (fac n.n17.symm (fac n.n18.symm fa0)))))))) fun b hb e => n.n19 (e ▸ hb)
theorem StOk.offd2 {a : StA} {ps : List Addr} {L : Nat} (O : StOk a ps) (hL : ∀ b ∈ (([a.x, a.dx, a.cl, a.pl, a.he, a.op, a.be, a.ta, a.tr] : List Nat) ++ ps), b ≠ L) : ∀ b ∈ (([a.x, a.cl, a.pl, a.he, a.op, a.be, a.ta, a.tr] : List Nat) ++ ps), b ∉ [L, a.dx] := fun b hb => nmc (hL b (sub8 hb)) (nmc (O.offdx b hb) nm0)
theorem PairsAt.kp {h h' : Heap} {ch : List Addr} {a : Addr} {qs : List (Int × Int)} (p : PairsAt h a qs) (k : Kp ch h h') (ha : a ∉ ch) (H : NoTup h ch) : PairsAt h' a qs := by
  (refine Mine.exE2A2 p ?_; (try clear p); intro as n e l f)
  refine (Mine.mkE2A2 as n (k _ _ ha e) l (fun i x q h1 h2 => ?_))
  (refine Mine.exE3 (f i x q h1 h2) ?_; intro t u n e)
  exact (Mine.mkE3 t u n (k _ _ (H.off e) e))
theorem ClausesAt.kp {h h' : Heap} {ch : List Addr} {a : Addr} {cs : List (List Int)} (p : ClausesAt h a cs) (k : Kp ch h h') (ha : a ∉ ch) (H : NoTup h ch) : ClausesAt h' a cs := by
  (refine Mine.exE2A2 p ?_; (try clear p); intro as n e l f)
  refine (Mine.mkE2A2 as n (k _ _ ha e) l (fun i x q h1 h2 => ?_))
  (refine Mine.exE2A1 (f i x q h1 h2) ?_; intro t u e i)
  exact (Mine.mkE2A1 t u (k _ _ (H.off e) e) i)
theorem PlacesAt.kp {w : World} {h h' : Heap} {ch : List Addr} {a : StA} {ps : List Addr} {cs : List (List Int)} (p : PlacesAt w h a ps cs) (k : Kp ch h h') (ha : a.pl ∉ ch) (hp : ∀ p ∈ ps, p ∉ ch) : PlacesAt w h' a ps cs := by
  (refine Mine.exE2A6 p ?_; (try clear p); intro o kvp e d f1 f2 f3 f4 f5)
  refine (Mine.mkE2 o kvp ⟨k _ _ ha e, d, fun q v hv => ?_, f2, f3, f4, fun q hq => ?_⟩)
  · (refine Mine.exE1A2E2A1 (f1 q v hv) ?_; intro p hsb103 hm vs n e i; subst hsb103)
    exact ⟨p, ⟨rfl, hm, (Mine.mkE2A1 vs n (k _ _ (hp p hm) e) i)⟩⟩
  · (refine Mine.exE2 (f5 q hq) ?_; intro vs n e)
    exact (Mine.mkE2 vs n (k _ _ (hp q hq) e))
noncomputable def dueAt (T : List Int) (cs : List (List Int)) (n : Int) : List (Int × Int) := match cs[n.toNat]? with
  | some c => if heldOf T c = 0 ∧ openOf T c = 1 then [((freeOf T c).getD 0 0, n)] else []
  | none => []
noncomputable def lostAt (T : List Int) (cs : List (List Int)) (n : Int) : Bool := match cs[n.toNat]? with
  | some c => decide (heldOf T c = 0 ∧ openOf T c = 0)
  | none => false
noncomputable def clashOf (T : List Int) (cs : List (List Int)) (l : Int) (ck : Int × Int) (ns : List Int) : Int × Int := match (ns.filter (lostAt T cs)).getLast? with
  | some n => (n, l)
  | none => ck

section
variable {prog : Program} {w : World} {A : Around} {E : Value → Shared → Prop} {env : Env} {h₀ : Heap} {x : Str} {px : Pos} {body : List Stmt} {Q : Flow → Shared → Prop} {m : Str → Option Value} {s : Shared} {news : List (Addr × Obj)}
theorem for_seq {T : String} {l : Addr} {items : Array Value} {no : Nat} (hT : T = "list" ∨ T = "tuple") (ho : s.heap.get? l = some { cls := .type T, data := .seq items no }) (J : Nat → (Str → Option Value) → List (Addr × Obj) → Prop)
    (hh : A.handled = none) (F : Fr h₀ env.locals s.heap m) (N : News h₀ env.locals s.heap news)
    (hj : J 0 m news)
    (hwh : (∃ o, h₀.get? l = some o) ∨ (l ≠ env.locals ∧ ∃ o, ∀ i m nx, J i m nx → (l, o) ∈ nx))
    (turn : ∀ i v m₁ nx h tk I oI, items[i]? = some v → J i m₁ nx → (∀ p ∈ nx, p.1 ≠ I) → Fr h₀ env.locals h (fun y => if y = x then some v else m₁ y) → News h₀ env.locals h ((I, oI) :: nx) →
      ∀ Q', Under (TurnEnd h₀ env.locals I oI (J (i + 1)) s Q) Q' → wpAny (model prog w) A (execs body env) Q' (fun _ _ => False) { s with heap := h, toks := tk })
    (done : ∀ m₁ nx h tk, J items.size m₁ nx → Fr h₀ env.locals h m₁ → News h₀ env.locals h nx → Q .next { s with heap := h, toks := tk })
    (hx : env.kindOf x = some .local)
    (hp : (env.scope.kind == .class || (env.scope.kind == .module && env.locals != env.globals)) = false) :
    wpAny (model prog w) A (pyIter (.ref l)) (fun it s₂ => codeAny (model prog w) A (.forLoop (.Name x px) it body [] env) (fun r s' => match r with | .ok f => Q f s' | .error e => cameBackBy (model prog w) A env E e s') s₂) E s := by
  rcases hT with rfl | rfl
  · exact for_list J hh (Mine.mkE1A2E1 _ ho rfl _ rfl) F N hj hwh turn done hx hp
  · exact for_tuple J hh (Mine.mkE1A2E1 _ ho rfl _ rfl) F N hj hwh turn done hx hp
end

section
variable {prog : Program} {w : World} {A : Around} {E : Value → Shared → Prop} {h₀ : Heap} {L : Addr} {m : Str → Option Value} {s : Shared} {news : List (Addr × Obj)}
theorem list_app {D : Addr} {vs : List Value} {n : Nat} {v : Value} {g : Obj → List (Addr × Obj)} {Q : Value → Shared → Prop} (F : Fr h₀ L s.heap m) (N : News h₀ L s.heap news) (U : UpdF D (W.listOf vs.toArray n) news g) (hz : vs.length ≤ 100000)
    (h : ∀ h' n', Fr h₀ L h' m → News h₀ L h' (g (W.listOf (vs ++ [v]).toArray n')) → Q .none { s with heap := h' }) :
    wpAny (model prog w) A (call (.builtin "list.append") [.ref D, v]) Q E s := by
  have hm := N _ (updF_mem U)
  refine wpAny_list_append_plain (hsz := by rw [sizeLine_eq, List.size_toArray]; omega) ⟨n, hm.1⟩ fun h' hl' hs' => ?_
  (refine Mine.exE1 hl' ?_; (try clear hl'); intro n' e)
  have hk : ∀ b o, b ≠ D → s.heap.get? b = some o → h'.get? b = some o := fun b o hb e => hs'.extBut b o hb e
  refine h h' n' ⟨F.ns.at' fun o e => hk _ o (Ne.symm hm.2.1) e, fun b o e => hk b o (fun q => by rw [q, hm.2.2] at e; cases e) (F.keep b o e), F.above⟩ (news_upd_raw N U (fun b o hb he => hk b o (by simpa using hb) he) ?_)
  rw [e]; simp [W.listOf]
end
local macro_rules
| `(tactic| walk_at "call builtin:list.append") => `(tactic| (k_dflt (refine Mine.list_app (by k_asm) (by k_asm) (by k_updF) (by walk_at "fact") ?_); intro h' n' F' N'))

/-- a pair that the ground or the ledger holds -/
def PairIn (g : Heap) (ex : List (Addr × Obj)) (x : Addr) (q : Int × Int) : Prop := ∃ t u n, g.get? x = some { cls := .type "tuple", data := .seq #[.int q.1 t, .int q.2 u] n } ∨ (x, ({ cls := .type "tuple", data := .seq #[.int q.1 t, .int q.2 u] n } : Obj)) ∈ ex
def PairsIn (g : Heap) (ex : List (Addr × Obj)) (as : List Addr) (qs : List (Int × Int)) : Prop := as.length = qs.length ∧ ∀ (i : Nat) x q, as[i]? = some x → qs[i]? = some q → PairIn g ex x q
theorem PairAt.inn {g : Heap} {ex : List (Addr × Obj)} {x : Addr} {q : Int × Int} (p : PairAt g x q) : PairIn g ex x q := let ⟨t, u, n, e⟩ := p; (Mine.mkE3 t u n (.inl e))
theorem PairIn.more {g : Heap} {ex ey : List (Addr × Obj)} {x : Addr} {q : Int × Int} (p : PairIn g ex x q) (h : ∀ r ∈ ex, r ∈ ey) : PairIn g ey x q := let ⟨t, u, n, e⟩ := p; (Mine.mkE3 t u n (e.imp id fun m => h _ m))
theorem PairsIn.more {g : Heap} {ex ey : List (Addr × Obj)} {as : List Addr} {qs : List (Int × Int)} (p : PairsIn g ex as qs) (h : ∀ r ∈ ex, r ∈ ey) : PairsIn g ey as qs := ⟨p.1, fun i x q a b => (p.2 i x q a b).more h⟩
theorem PairsIn.snoc {g : Heap} {ex : List (Addr × Obj)} {as : List Addr} {qs : List (Int × Int)} {x : Addr} {q : Int × Int} (p : PairsIn g ex as qs) (h : PairIn g ex x q) : PairsIn g ex (as ++ [x]) (qs ++ [q]) := by
  refine ⟨by simp [p.1], fun i y r h1 h2 => ?_⟩
  by_cases hi : i < as.length
  · rw [List.getElem?_append_left hi] at h1
    rw [List.getElem?_append_left (p.1 ▸ hi)] at h2
    exact p.2 i y r h1 h2
  · rw [List.getElem?_append_right (by omega)] at h1
    rw [List.getElem?_append_right (by rw [← p.1]; omega), ← p.1] at h2
    have : i - as.length = 0 := by
      have := (List.getElem?_eq_some_iff.mp h1).1; simp at this; omega
    rw [this] at h1 h2
    cases h1; cases h2; exact h
theorem PairIn.at {g h : Heap} {L : Addr} {m : Str → Option Value} {ex news : List (Addr × Obj)} {x : Addr} {q : Int × Int} (p : PairIn g ex x q) (F : PyProof.Rows.Fr g L h m) (N : PyProof.Rows.News g L h news) (hx : ∀ r ∈ ex, r ∈ news) : PairAt h x q := by
  obtain ⟨t, u, n, e | e⟩ := p
  · exact (Mine.mkE3 t u n (F.keep _ _ e))
  · exact (Mine.mkE3 t u n ((N _ (hx _ e)).1))
theorem put_clash {hs : Nat → Int} {ts : Nat → Tok} {a : StA} {e ck v key : Value} {hsh : Int} : putL (Str.ofString "clash") hsh key v (stEs hs ts a e ck) = stEs hs ts a e v := by with_unfolding_all rfl
theorem putN_clash {hs : Nat → Int} {ts : Nat → Tok} {a : StA} {e ck : Value} {n : Nat} : putN (Str.ofString "clash") (stEs hs ts a e ck) n = n := by with_unfolding_all rfl
theorem get_clash {hs : Nat → Int} {ts : Nat → Tok} {a : StA} {e ck : Value} : (getL (Str.ofString "clash") (stEs hs ts a e ck)).isSome = true := by with_unfolding_all rfl
theorem clash_pair {hs : Nat → Int} {ts : Nat → Tok} {a : StA} {e ck v key : Value} {hsh : Int} {n : Nat} : (putL (Str.ofString "clash") hsh key v (stEs hs ts a e ck), putN (Str.ofString "clash") (stEs hs ts a e ck) n) = (stEs hs ts a e v, n) := by rw [put_clash, putN_clash]
theorem empty_pair {hs : Nat → Int} {ts : Nat → Tok} {a : StA} {e ck v key : Value} {hsh : Int} {n : Nat} : (putL (Str.ofString "empty") hsh key v (stEs hs ts a e ck), putN (Str.ofString "empty") (stEs hs ts a e ck) n) = (stEs hs ts a v ck, n) := by with_unfolding_all rfl
theorem put_empty {hs : Nat → Int} {ts : Nat → Tok} {a : StA} {e ck v key : Value} {hsh : Int} : putL (Str.ofString "empty") hsh key v (stEs hs ts a e ck) = stEs hs ts a v ck := by with_unfolding_all rfl
theorem putN_empty {hs : Nat → Int} {ts : Nat → Tok} {a : StA} {e ck : Value} {n : Nat} : putN (Str.ofString "empty") (stEs hs ts a e ck) n = n := by with_unfolding_all rfl
theorem get_empty {hs : Nat → Int} {ts : Nat → Tok} {a : StA} {e ck : Value} : (getL (Str.ofString "empty") (stEs hs ts a e ck)).isSome = true := by with_unfolding_all rfl
section
variable {prog : Program} {w : World} {A : Around} {E : Value → Shared → Prop} {s : Shared} {K : Frag} {C L x dx : Addr} {ox : Obj} {h₀ : Heap} {m : Str → Option Value} {news news' : List (Addr × Obj)} {hs : Nat → Int} {ts : Nat → Tok} {a : StA} {e ck v : Value} {n : Nat} {Q : Unit → Shared → Prop}
theorem set_clash (F : Fr h₀ L s.heap m) (X₀ : K.In h₀) (N : News h₀ L s.heap news) (I : InstAt s.heap x ox C (some (dictOf (stEs hs ts a e ck) n))) (hd : ox.dict = some dx)
    (hs' : findIn K (.ref C) "__setattr__" = some (some (.builtin "object.__setattr__"))) (hp : plainOver K C = true) (ht : takerIn K C (Str.ofString "clash") = some none) (hh : hasDictIn K C = true)
    (U : Upd dx (dictOf (stEs hs ts a e ck) n) (dictOf (stEs hs ts a e v) n) news news') (h : ∀ h', Fr h₀ L h' m → News h₀ L h' news' → Q () { s with heap := h', toks := s.toks + 2 }) :
    wpAny (model prog w) A (setAttr (.ref x) (Str.ofString "clash") v) Q E s := set_dict F X₀ N I hd hs' hp ht hh get_clash clash_pair U (Nat.le_of_ble_eq_true rfl) h
theorem set_empty (F : Fr h₀ L s.heap m) (X₀ : K.In h₀) (N : News h₀ L s.heap news) (I : InstAt s.heap x ox C (some (dictOf (stEs hs ts a e ck) n))) (hd : ox.dict = some dx)
    (hs' : findIn K (.ref C) "__setattr__" = some (some (.builtin "object.__setattr__"))) (hp : plainOver K C = true) (ht : takerIn K C (Str.ofString "empty") = some none) (hh : hasDictIn K C = true)
    (U : Upd dx (dictOf (stEs hs ts a e ck) n) (dictOf (stEs hs ts a v ck) n) news news') (h : ∀ h', Fr h₀ L h' m → News h₀ L h' news' → Q () { s with heap := h', toks := s.toks + 2 }) :
    wpAny (model prog w) A (setAttr (.ref x) (Str.ofString "empty") v) Q E s := set_dict F X₀ N I hd hs' hp ht hh get_empty empty_pair U (Nat.le_of_ble_eq_true rfl) h
end
local macro_rules
| `(tactic| walk_at "setAttr ref") => `(tactic| (k_dflt (first | ((with_reducible show wpAny _ _ (setAttr _ (Str.ofString "clash") _) _ _ _); refine Mine.set_clash (by k_asm) (by k_asm) (by k_asm) (by walk_at "inst") (by exact rfl) (by k_is) (by k_is) (by k_is) (by k_is) (by k_upd) ?_) | ((with_reducible show wpAny _ _ (setAttr _ (Str.ofString "empty") _) _ _ _); refine Mine.set_empty (by k_asm) (by k_asm) (by k_asm) (by walk_at "inst") (by exact rfl) (by k_is) (by k_is) (by k_is) (by k_is) (by k_upd) ?_) | fail); intro h' F' N'))
set_option hygiene false in
local macro_rules
| `(tactic| k_ne) => `(tactic| (refine neN ?_; (try dsimp only); with_reducible first | assumption | (refine Ne.symm ?_; assumption)))
theorem ownOff_cons {D : Addr} {o : Obj} {ex : List (Addr × Obj)} {adr : List Addr} (h : ∀ b ∈ adr, @Ne Nat D b) (ho : OwnOff ex adr) : OwnOff ((D, o) :: ex) adr := fun p hp b hb => by
  rcases List.mem_cons.mp hp with rfl | hp
  · exact h b hb
  · exact ho p hp b hb
theorem news_rot8 {g h : Heap} {L : Addr} {x i y1 y2 y3 y4 y5 y6 y7 : Addr × Obj} {ex : List (Addr × Obj)} (N : PyProof.Rows.News g L h (x :: i :: y1 :: y2 :: y3 :: y4 :: y5 :: y6 :: y7 :: ex)) : PyProof.Rows.News g L h (i :: y1 :: y2 :: y3 :: y4 :: y5 :: y6 :: y7 :: x :: ex) := fun p hp => N p (by
  exact (by walk_at "sub" : ∀ p ∈ _, p ∈ _) _ hp)
theorem idxOf_le (cs : List (List Int)) (k : Int) : (idxOf cs k).length ≤ cs.length := by
  unfold idxOf
  rw [List.length_map]
  exact Nat.le_trans (List.length_filter_le _ _) (by walk_at "sim")
theorem dues_le {T : List Int} {cs : List (List Int)} {ns : List Int} : (ns.flatMap (dueAt T cs)).length ≤ ns.length := by
  induction ns with
  | nil => exact Nat.le_refl _
  | cons n r ih =>
    rw [List.flatMap_cons, List.length_append, List.length_cons]
    have : (dueAt T cs n).length ≤ 1 := by
      unfold dueAt
      split
      · split <;> simp
      · simp
    omega
theorem clashOf_snoc {T : List Int} {cs : List (List Int)} {l : Int} {ck : Int × Int} {ns : List Int} {n : Int} : clashOf T cs l ck (ns ++ [n]) = if lostAt T cs n = true then (n, l) else clashOf T cs l ck ns := by
  unfold clashOf
  rw [List.filter_append]
  by_cases h : lostAt T cs n = true
  · simp [h]
  · simp [h]
theorem PairsAt.keeps {h h' : Heap} {a : Addr} {qs : List (Int × Int)} (p : PairsAt h a qs) (k : ∀ b o, h.get? b = some o → h'.get? b = some o) : PairsAt h' a qs :=
  let ⟨as, n, e, l, f⟩ := p; (Mine.mkE2A2 as n (k _ _ e) l (fun i x q a b => (f i x q a b).keeps k))
set_option hygiene false in
local macro_rules
| `(tactic| k_all) => `(tactic| with_reducible assumption)
set_option hygiene false in
local macro_rules
| `(tactic| walk_at "fact") => `(tactic| (simp only [List.length_set, List.length_map, mixL_length]; omega))
set_option hygiene false in
local macro_rules
| `(tactic| walk_at "fact") => `(tactic| first | assumption | omega)
theorem Fr.gen {h₀ h : Heap} {L : Addr} {m : Str → Option Value} (F : PyProof.Rows.Fr h₀ L h m) : ∃ m0, m0 = m ∧ PyProof.Rows.Fr h₀ L h m0 := (Mine.mkE1A1 m rfl F)
theorem not_mem_take {xs : List Int} {i : Nat} {x : Int} (hn : xs.Nodup) (h : xs[i]? = some x) : x ∉ xs.take i := by
  intro hm
  walk_at "hideG"
  obtain ⟨j, hj, e⟩ := List.getElem_of_mem hm
  rw [List.length_take] at hj
  rw [List.getElem_take] at e
  obtain ⟨hi, e2⟩ := List.getElem?_eq_some_iff.mp h
  walk_at "showG"
  have := (List.getElem_inj (h₀ := by omega) (h₁ := hi) hn).mp (e.trans e2.symm)
  omega

theorem mixL_take_all {cs : List (List Int)} {vs : List Value} {k : Int} {f' f : List Int → Int} (hi : IntsAre vs (idxOf cs k)) (h : ∀ c ∈ cs, k ∉ c → f' c = f c) : mixL ((idxOf cs k).take vs.toArray.size) f' f cs = cs.map f' := by
  rw [List.take_of_length_le (by rw [List.size_toArray, hi.length]; exact Nat.le_refl _)]
  refine mixL_all fun i c hc hn => h c (List.mem_of_getElem? hc) fun hk => hn (mem_idxOf.mpr ⟨by omega, (Mine.mkE1A1 c ?_ hk)⟩)
  rw [Int.toNat_natCast]; exact hc

/-- places.get(k, ()): what is met -/
theorem place_src {h g : Heap} {ps : List Addr} {cs : List (List Int)} {kvp : List (Int × Value)} {te : Addr} {ne : Nat} (k : Int)
    (h1 : ∀ k v, valueAt kvp k = some v → ∃ p, v = .ref p ∧ p ∈ ps ∧ ListInts g p (idxOf cs k)) (h2 : ∀ k, valueAt kvp k = none → idxOf cs k = []) (hte : h.get? te = some { cls := .type "tuple", data := .seq #[] ne }) (hk : ∀ b o, g.get? b = some o → h.get? b = some o) :
    ∃ T l vs n, (valueAt kvp k).getD (.ref te) = .ref l ∧ (T = "list" ∨ T = "tuple") ∧ h.get? l = some { cls := .type T, data := .seq (List.toArray vs) n } ∧ IntsAre vs (idxOf cs k) ∧ ((∃ o, g.get? l = some o) ∨ l = te) := by
  cases hv : valueAt kvp k with
  | none =>
    rw [h2 k hv]
    exact (Mine.mkE4 ("tuple") te ([]) ne ⟨rfl, .inr rfl, hte, .nil, .inr rfl⟩)
  | some v =>
    walk_at "hideG"
    (refine Mine.exE1A2E2A1 (h1 k v hv) ?_; intro p hsb71 _ vs n hp hi; subst hsb71)
    walk_at "showG"
    exact (Mine.mkE4 ("list") p vs n ⟨rfl, .inl rfl, hk _ _ hp, hi, .inl ⟨_, hp⟩⟩)

section
variable {w : World} {mg mb : Str → Option Value} {n : Nat} {A : Around} {h₀ : Heap} {L : Addr} {m : Str → Option Value} {s : Shared} {E : Value → Shared → Prop} {Q : Value → Shared → Prop}

/-- a list of the ledger is being turned -/
inductive ListJ1 (e1 : Addr × Obj) (d : Addr) (post : List (Addr × Obj)) (names : List Str) (m0 : Str → Option Value) (ns : List Int) (m : Str → Option Value) (nx : List (Addr × Obj)) : Prop
  | mk (vs' : List Value) (no' : Nat) (hnx : nx = e1 :: (d, W.listOf vs'.toArray no') :: post) (hm : ∀ y, names.contains y = false → m y = m0 y) (hv : IntsAre vs' ns) : ListJ1 e1 d post names m0 ns m nx
inductive ListJ2 (e1 e2 : Addr × Obj) (d : Addr) (post : List (Addr × Obj)) (names : List Str) (m0 : Str → Option Value) (ns : List Int) (m : Str → Option Value) (nx : List (Addr × Obj)) : Prop
  | mk (vs' : List Value) (no' : Nat) (hnx : nx = e1 :: e2 :: (d, W.listOf vs'.toArray no') :: post) (hm : ∀ y, names.contains y = false → m y = m0 y) (hv : IntsAre vs' ns) : ListJ2 e1 e2 d post names m0 ns m nx
inductive DueJ (g : Heap) (te2 : Addr) (a : StA) (hs : Nat → Int) (ts : Nat → Tok) (tte : Tok) (nd : Nat) (e3 e5 e6 : Addr × Obj) (q : Addr) (cs : List (List Int)) (T' T0 : List Int) (l : Int) (ck : Int × Int) (qs : List (Int × Int)) (m0 : Str → Option Value) (i : Nat) (m : Str → Option Value) (nx : List (Addr × Obj)) : Prop
  | mk (vs' : List Value) (no' : Nat) (k' : Addr) (aq' : List Addr) (nq' : Nat) (ex : List (Addr × Obj)) (hnx : nx = (te2, { cls := .type "tuple", data := .seq #[] }) ::
        (a.dx, dictOf (stEs hs ts a (Value.int (emptyOf cs) tte) (Value.ref k')) nd) :: e3 :: (a.op, W.listOf vs'.toArray no') :: e5 :: e6 :: (q, W.listOf (List.map Value.ref aq').toArray nq') :: ex)
      (hm : ∀ y, [Str.ofString "number", Str.ofString "stands"].contains y = false → m y = m0 y) (hst : m (Str.ofString "stands") = some (.bool (!((idxOf cs (-l)).take i).any (lostAt T' cs))))
      (hv : IntsAre vs' (mixL ((idxOf cs (-l)).take i) (openOf T') (openOf T0) cs)) (hk : PairIn g ex k' (clashOf T' cs l ck ((idxOf cs (-l)).take i))) (hq : PairsIn g ex aq' (qs ++ ((idxOf cs (-l)).take i).flatMap (dueAt T' cs))) (ho : OwnOff ex [te2, a.dx, a.he, a.op, a.ta, a.tr, q]) :
      DueJ g te2 a hs ts tte nd e3 e5 e6 q cs T' T0 l ck qs m0 i m nx

theorem take_spec {a : StA} {ps : List Addr} {cs : List (List Int)} {kvs : List (Int × Value)} {ck : Int × Int} {l cause : Int} {tl tc : Tok} {q : Addr} {qs : List (Int × Int)} (C : Cx w mg mb (n + 2) A h₀ L) (F : Fr h₀ L s.heap m)
    (S : StepsAt w s.heap a ps cs kvs ck) (O : StOk a ps) (hqs : PairsAt s.heap q qs) (hq : (q : Nat) ∉ (([a.x, a.dx, a.cl, a.pl, a.he, a.op, a.be, a.ta, a.tr] : List Nat) ++ ps))
    (hmut : ∀ b ∈ [a.dx, a.he, a.op, a.ta, a.tr, q], h₀.get? b = none ∧ b ≠ L) (hl1 : l ∉ keysOf kvs) (hl2 : -l ∉ keysOf kvs) (hl0 : l ≠ 0) (hcok : ∀ c ∈ cs, ClauseOk c)
    (hlc : cs.length ≤ 900) (hll : ∀ c ∈ cs, c.length ≤ 900) (hlk : kvs.length ≤ 900) (hlq : qs.length ≤ 5000)
    (hQ : ∀ h' tk, StepsAt w h' a ps cs (kvs ++ [(l, .int cause tc)]) (clashOf (keysOf kvs ++ [l]) cs l ck (idxOf cs (-l))) → PairsAt h' q (qs ++ (idxOf cs (-l)).flatMap (dueAt (keysOf kvs ++ [l]) cs)) →
      Kp [a.dx, a.he, a.op, a.ta, a.tr, q] s.heap h' → Fr h₀ L h' m → Q (.bool (!(idxOf cs (-l)).any (lostAt (keysOf kvs ++ [l]) cs))) { s with heap := h', toks := tk }) :
    wpAny (model PP w) A (call (.ref 47) [.ref a.x, .int l tl, .int cause tc, .ref q]) Q E s := by
  refine' callR (binds := [(Str.ofString "self", .ref a.x), (Str.ofString "literal", .int l tl), (Str.ofString "cause", .int cause tc), (Str.ofString "queue", .ref q)]) (R := fun v h' => v = .bool (!(idxOf cs (-l)).any (lostAt (keysOf kvs ++ [l]) cs)) ∧
    StepsAt w h' a ps cs (kvs ++ [(l, .int cause tc)]) (clashOf (keysOf kvs ++ [l]) cs l ck (idxOf cs (-l))) ∧ PairsAt h' q (qs ++ (idxOf cs (-l)).flatMap (dueAt (keysOf kvs ++ [l]) cs))) [a.dx, a.he, a.op, a.ta, a.tr, q] C F hmut ?ho ?hcd ?hb ?hl ?h ?hQ ?hcell ?c1 ?c2 ?c3
  case ho => exact rfl
  case hcd => exact rfl
  case hb => exact BindsTo.of_eq rfl
  case hl => exact locs rfl
  case hcell => decide
  case c1 => rfl
  case c2 => rfl
  case c3 => rfl
  case hQ =>
    rintro v h' tk ⟨rfl, h1, h2⟩ hk' F'
    exact hQ _ _ h1 h2 hk' F'
  case h =>
    intro g L' h₁ hg hL' C' F' hk₁
    walk_at "hideG"
    (refine Mine.exE2A1 S.dx ?_; intro tte kc hnst72 hck; obtain ⟨hs, ts, nd, hdx⟩ := hnst72)
    (refine Mine.exE2A6 S.pl ?_; intro okp kvp hop hdp hp1 hp2 hp3 hp4 hp5)
    (refine Mine.exE2A1 S.he ?_; intro vhe nhe hhe ihe)
    (refine Mine.exE2A1 S.op ?_; intro vop nop hopn iop)
    (refine Mine.exE2A1 S.tr ?_; intro vtr ntr htr itr)
    (refine Mine.exE1A1 S.ta ?_; intro ot hot hto)
    (refine Mine.exE2A2 hqs ?_; (try clear hqs); intro aq nq hqo hql hqe)
    have m9 : q ∉ ps := fun h => hq (List.mem_append_right _ h)
    have mq := nmo hq
    have m0 := mq.1
    have m1 := mq.2.1
    have m2 := mq.2.2.1
    have m3 := mq.2.2.2.1
    have m4 := mq.2.2.2.2.1
    have m5 := mq.2.2.2.2.2.1
    have m6 := mq.2.2.2.2.2.2.1
    have m7 := mq.2.2.2.2.2.2.2.1
    have m8 := mq.2.2.2.2.2.2.2.2.1
    clear hq mq
    obtain ⟨n01, n02, n03, n04, n05, n06, n07, n08, n09, n12, n13, n14, n15, n16, n17, n18, n19, n23, n24, n25, n26, n27, n28, n29, n34, n35, n36, n37, n38, n39, n45, n46, n47, n48, n49, n56, n57, n58, n59, n67, n68, n69, n78, n79, n89, n99⟩ := O.ne
    walk_at "showG"
    have gk := gkOf hg
    have ntq : NoTup s.heap [a.dx, a.he, a.op, a.ta, a.tr, q] := (((((NoTup.nil.lst hqo).lst htr).isd hot hto).lst hopn).lst hhe).dct hdx
    have gkT := gkTOf gk ntq
    have psq : ∀ p ∈ ps, p ∉ [a.dx, a.he, a.op, a.ta, a.tr, q] := fun p hp => nmc (fun e => n19 (e ▸ hp)) (nmc (fun e => n49 (e ▸ hp)) (nmc (fun e => n59 (e ▸ hp)) (nmc (fun e => n79 (e ▸ hp)) (nmc (fun e => n89 (e ▸ hp)) (nmc (fun e => m9 (e ▸ hp)) nm0)))))
    have gx := gk _ _ (Mine.nmc n01 (Mine.nmc n04 (Mine.nmc n05 (Mine.nmc n07 (Mine.nmc n08 (Mine.nmc (fun e => m0 e.symm) Mine.nm0)))))) S.x
    have gcl : ClausesAt g a.cl cs := by
      (refine Mine.exE2A2 S.cl ?_; intro as na e l f)
      refine (Mine.mkE2A2 as na (gk _ _ (Mine.nmc (fun e => n12 e.symm) (Mine.nmc n24 (Mine.nmc n25 (Mine.nmc n27 (Mine.nmc n28 (Mine.nmc (fun e => m2 e.symm) Mine.nm0)))))) e) l (fun i x c h1 h2 => ?_))
      (refine Mine.exE2A1 (f i x c h1 h2) ?_; intro vs n e hi)
      exact (Mine.mkE2A1 vs n (gkT _ _ _ e) hi)
    have gpl := gk _ _ (Mine.nmc (fun e => n13 e.symm) (Mine.nmc n34 (Mine.nmc n35 (Mine.nmc n37 (Mine.nmc n38 (Mine.nmc (fun e => m3 e.symm) Mine.nm0)))))) hop
    have gp1 : ∀ k v, valueAt kvp k = some v → ∃ p, v = .ref p ∧ p ∈ ps ∧ ListInts g p (idxOf cs k) := by
      intro k v e
      walk_at "hideG"
      (refine Mine.exE1A2E2A1 (hp1 k v e) ?_; intro p hsb73 hp vs n e' hi; subst hsb73)
      walk_at "showG"
      exact ⟨p, ⟨rfl, hp, (Mine.mkE2A1 vs n (gk _ _ (psq p hp) e') hi)⟩⟩
    have gp5 : ∀ p ∈ ps, ∃ vs n, g.get? p = some (W.listOf (List.toArray vs) n) := by
      intro p hp
      (refine Mine.exE2 (hp5 p hp) ?_; intro vs n e')
      exact (Mine.mkE2 vs n (gk _ _ (psq p hp) e'))
    have gbe : PairsAt g a.be (begunOf cs) := by
      (refine Mine.exE2A2 S.be ?_; intro as na e l f)
      refine (Mine.mkE2A2 as na (gk _ _ (Mine.nmc (fun e => n16 e.symm) (Mine.nmc (fun e => n46 e.symm) (Mine.nmc (fun e => n56 e.symm) (Mine.nmc n67 (Mine.nmc n68 (Mine.nmc (fun e => m6 e.symm) Mine.nm0)))))) e) l (fun i x c h1 h2 => ?_))
      (refine Mine.exE3 (f i x c h1 h2) ?_; intro t u n e)
      exact (Mine.mkE3 t u n (gkT _ _ _ e))
    have gck : PairAt g kc ck := by (refine Mine.exE3 hck ?_; (try clear hck); intro t u n e); exact (Mine.mkE3 t u n (gkT _ _ _ e))
    have gqe : ∀ (i : Nat) x r, aq[i]? = some x → qs[i]? = some r → PairAt g x r := by
      intro i x r h1 h2
      (refine Mine.exE3 (hqe i x r h1 h2) ?_; intro t u n e)
      exact (Mine.mkE3 t u n (gkT _ _ _ e))
    have N : News g L' h₁ [(a.dx, dictOf (stEs hs ts a (.int (emptyOf cs) tte) (.ref kc)) nd), (a.he, W.listOf vhe.toArray nhe), (a.op, W.listOf vop.toArray nop), (a.ta, ot), (a.tr, W.listOf vtr.toArray ntr), (q, W.listOf (aq.map Value.ref).toArray nq)] := by
      rw [hg, hL']
      exact List.forall_mem_cons.mpr ⟨news_of hdx (by walk_at "sim") hk₁, List.forall_mem_cons.mpr ⟨news_of hhe (by walk_at "sim") hk₁, List.forall_mem_cons.mpr ⟨news_of hopn (by walk_at "sim") hk₁, List.forall_mem_cons.mpr ⟨news_of hot (by walk_at "sim") hk₁,
        List.forall_mem_cons.mpr ⟨news_of htr (by walk_at "sim") hk₁, List.forall_mem_cons.mpr ⟨news_of hqo (by walk_at "sim") hk₁, by simp⟩⟩⟩⟩⟩⟩
    have X := C'.G.X
    have T := C'.G.T
    have hh := C'.hh
    have lo1 := O.lo1
    have lo2 := O.lo2
    have z1 : vtr.length = (keysOf kvs).length := itr.length
    have z2 : (keysOf kvs).length = kvs.length := by simp [keysOf]
    have z3 : vtr.length ≤ 100000 := by omega
    have hsz : kvs.length ≤ sizeLine := by rw [sizeLine_eq]; omega
    have hL1 : @LT.lt Nat _ L' h₁.objs.size := F'.ns.lt
    clear hk₁ hdx hck hop hp1 hhe hopn htr hot hqo hqe gk gkT
    (repeat' (walk_at "go"))
    rename Obj.IsDictOf _ _ (stored _ _ _) => hto2
    rename News _ _ _ _ => N1
    rename Fr _ _ _ _ => F1
    rename (_ ∧ _) => hlt1
    rename_i n1 te h2
    have hkT : keysOf (stored kvs l (.int cause tc)) = keysOf kvs ++ [l] := by
      unfold stored keysOf
      rw [if_neg (by
        intro h
        (refine Mine.exE1A1 (List.any_eq_true.mp h) ?_; intro r hr e)
        exact hl1 (List.mem_map.mpr (Mine.mkE1A1 r hr (of_decide_eq_true e))))]
      simp
    have hst : stored kvs l (.int cause tc) = kvs ++ [(l, .int cause tc)] := by
      unfold stored
      rw [if_neg (by
        intro h
        (refine Mine.exE1A1 (List.any_eq_true.mp h) ?_; intro r hr e)
        exact hl1 (List.mem_map.mpr (Mine.mkE1A1 r hr (of_decide_eq_true e))))]
    (refine Mine.exE4A4 (place_src (h := h2) l gp1 hp2 (News.get N1 (.head _)) F1.keep) ?_; intro T1 l1 vs1 nn1 e1 hT1 ho1 hi1 hw1)
    rw [e1]
    have hte := (News.get N1 (.head _))
    have hteL : te ≠ L' := (N1 _ (.head _)).2.1
    (refine Mine.exE1A1 (Fr.gen F1) ?_; intro m0 hm0 F2)
    have ms : m0 (Str.ofString "self") = some (.ref a.x) := by rw [hm0]; rfl
    have ml : m0 (Str.ofString "literal") = some (.int l tl) := by rw [hm0]; rfl
    have mq : m0 (Str.ofString "queue") = some (.ref q) := by rw [hm0]; rfl
    have mst : m0 (Str.ofString "stands") = some (.bool true) := by rw [hm0]; rfl
    clear F1 hm0
    rw [← z2] at hlk
    rename Obj => o'
    generalize hT : keysOf kvs = T0 at *
    generalize hTT : T0 ++ [l] = T' at *
    have nl0 : l ∉ T0 := hl1
    refine' for_seq hT1 ho1 (fun i => ListJ2 (te, { cls := .type "tuple", data := .seq #[] }) (a.dx, dictOf (stEs hs ts a (Value.int (emptyOf cs) tte) (Value.ref kc)) nd) a.he [(a.op, W.listOf vop.toArray nop), (a.ta, o'), (a.tr, W.listOf (vtr ++ [Value.int l tl]).toArray n1), (q, W.listOf (List.map Value.ref aq).toArray nq)] [Str.ofString "number"] m0 (mixL ((idxOf cs l).take i) (heldOf T') (heldOf T0) cs)) hh ?F1 ?N1 ?j1 ?wh1 ?turn1 ?done1 ?x1 ?p1
    case F1 => exact F2
    case N1 => exact N1
    case x1 => rfl
    case p1 => rfl
    case j1 => exact ⟨_, _, rfl, ovr_refl, by rw [List.take_zero, mixL_nil]; exact ihe⟩
    case wh1 =>
      rcases hw1 with h | h
      · exact .inl h
      · exact .inr (Mine.mkA1E1 (h ▸ hteL) _ (by rintro i m nx ⟨_, _, rfl, _⟩; rw [h]; exact .head _))
    case turn1 =>
      intro i v m1 nx h tk' I oI hv hjo9 hnI F3 N3
      walk_at "hideG"
      obtain ⟨vs', no', rfl, hmm, hvs⟩ := hjo9
      rw [ovr_eq hmm] at F3
      (refine Mine.exE2A1 (hi1.at _ _ (by simpa using hv)) ?_; intro nu tn hsb74 hnu; subst hsb74)
      (refine Mine.exA1E1A1 (mem_idxOf.mp (List.mem_of_getElem? hnu)) ?_; intro hn0 c hc hlc')
      walk_at "showG"
      have hnl := (List.getElem?_eq_some_iff.mp hc).1
      have hml : (mixL ((idxOf cs l).take i) (heldOf T') (heldOf T0) cs).length = cs.length := mixL_length
      have hm1 : nu < ((mixL ((idxOf cs l).take i) (heldOf T') (heldOf T0) cs).length : Int) := by omega
      have hm2 : (mixL ((idxOf cs l).take i) (heldOf T') (heldOf T0) cs).length ≤ 1000 := by omega
      have hI1 : @Ne Nat te I := hnI _ (.head _)
      have hI2 : @Ne Nat a.dx I := hnI _ (.tail _ (.head _))
      have hI3 : @Ne Nat a.he I := hnI _ (.tail _ (.tail _ (.head _)))
      have hI4 : @Ne Nat a.op I := hnI _ (.tail _ (.tail _ (.tail _ (.head _))))
      have hI5 : @Ne Nat a.ta I := hnI _ (.tail _ (.tail _ (.tail _ (.tail _ (.head _)))))
      have hI6 : @Ne Nat a.tr I := hnI _ (.tail _ (.tail _ (.tail _ (.tail _ (.tail _ (.head _))))))
      have hI7 : @Ne Nat q I := hnI _ (.tail _ (.tail _ (.tail _ (.tail _ (.tail _ (.tail _ (.head _)))))))
      (repeat' (walk_at "go"))
      rename IntsAre _ (List.set _ _ _) => hset
      (repeat' (walk_at "go")); (try dsimp only)
      refine turn_next (by k_asm) (by k_asm) (Mine.fac hI1 (Mine.fac hI2 (Mine.fac hI3 (Mine.fac hI4 (Mine.fac hI5 (Mine.fac hI6 (Mine.fac hI7 Mine.fa0))))))) ⟨_, _, rfl, ovr_set ovr_ovr rfl, ?_⟩
      have hni : nu ∉ (idxOf cs l).take i := not_mem_take (idxOf_nodup _ _) hnu
      rw [mixL_getD hn0 hc, if_neg hni, ← heldOf_in (hcok c (List.mem_of_getElem? hc)).nodup hlc' hl1, hTT, mixL_set hn0 hc] at hset
      rw [List.take_add_one, hnu]
      exact hset
    case done1 =>
      intro m9 nx9 h9 tk9 hjo4 F9 N9
      walk_at "hideG"
      obtain ⟨vs9, no9, rfl, hmm, hvs⟩ := hjo4
      walk_at "showG"
      rw [ovr_eq hmm] at F9
      rw [mixL_take_all hi1 fun c _ hc => by rw [← hTT]; exact heldOf_out hc] at hvs
      have ms9 := ms
      (repeat' (walk_at "go")); (try dsimp only)
      (repeat' (walk_at "go"))
      rename News _ _ _ _ => N5
      rename Fr _ _ _ _ => F5
      rename _ ∧ _ => hlt5
      rename_i te2 h5
      (refine Mine.exE4A4 (place_src (h := h5) (-l) gp1 hp2 (News.get N5 (.head _)) F5.keep) ?_; intro T2 l2 vs2 nn2 e2 hT2 ho2 hi2 hw2)
      have hteL2 : te2 ≠ L' := (N5 _ (.head _)).2.1
      rw [e2]
      have hopl : (cs.map (openOf T0)).length ≤ 900 := by simpa using hlc
      refine' for_seq hT2 ho2 (DueJ g te2 a hs ts tte nd (a.he, W.listOf vs9.toArray no9) (a.ta, o') (a.tr, W.listOf (vtr ++ [Value.int l tl]).toArray n1) q cs T' T0 l ck qs m0) hh ?F2 ?N2 ?j2 ?wh2 ?turn2 ?done2 ?x2 ?p2
      case F2 => exact F5
      case N2 => exact fun p hp => N5 p (by
        rcases List.mem_cons.mp hp with rfl | hp
        · exact .head _
        · exact .tail _ (.tail _ hp))
      case x2 => rfl
      case p2 => rfl
      case j2 => exact ⟨_, _, _, _, _, [], rfl, (fun y hy => ovr_ovr y (by revert hy; simp; intro h _; exact h)), by rw [List.take_zero]; exact mst, by rw [List.take_zero, mixL_nil]; exact iop, gck.inn, ⟨by simpa using hql, fun i x q h1 h2 => (gqe i x q h1 (by simpa using h2)).inn⟩, fun p hp => nomatch hp⟩
      case wh2 =>
        rcases hw2 with h | h
        · exact .inl h
        · exact .inr (Mine.mkA1E1 (h ▸ hteL2) _ (by rintro i m nx ⟨_, _, _, _, _, _, rfl, _⟩; rw [h]; exact .head _))
      case turn2 =>
        intro i v m1 nx h tk' I oI hv hjo9 hnI F3 N3
        walk_at "hideG"
        obtain ⟨vs', no', k', aq', nq', ex, rfl, hmm, hms, hvs', hck', hqs', hoff⟩ := hjo9
        rw [ovr_eq hmm] at F3
        (refine Mine.exE2A1 (hi2.at _ _ (by simpa using hv)) ?_; intro nu tn hsb75 hnu; subst hsb75)
        (refine Mine.exA1E1A1 (mem_idxOf.mp (List.mem_of_getElem? hnu)) ?_; intro hn0 c hc hlc')
        walk_at "showG"
        have hnl := (List.getElem?_eq_some_iff.mp hc).1
        have hml : (mixL ((idxOf cs (-l)).take i) (openOf T') (openOf T0) cs).length = cs.length := mixL_length
        have hI1 : @Ne Nat te2 I := hnI _ (.head _)
        have hI2 : @Ne Nat a.dx I := hnI _ (.tail _ (.head _))
        have hI3 : @Ne Nat a.he I := hnI _ (.tail _ (.tail _ (.head _)))
        have hI4 : @Ne Nat a.op I := hnI _ (.tail _ (.tail _ (.tail _ (.head _))))
        have hI5 : @Ne Nat a.ta I := hnI _ (.tail _ (.tail _ (.tail _ (.tail _ (.head _)))))
        have hI6 : @Ne Nat a.tr I := hnI _ (.tail _ (.tail _ (.tail _ (.tail _ (.tail _ (.head _))))))
        have hI7 : @Ne Nat q I := hnI _ (.tail _ (.tail _ (.tail _ (.tail _ (.tail _ (.tail _ (.head _)))))))
        have hI8 : ∀ p ∈ ex, p.1 ≠ I := fun p hp => hnI p (.tail _ (.tail _ (.tail _ (.tail _ (.tail _ (.tail _ (.tail _ hp)))))))
        have hx1 := hoff.ne (b := te2) (by walk_at "sim")
        have hx2 := hoff.ne (b := a.dx) (by walk_at "sim")
        have hx3 := hoff.ne (b := a.he) (by walk_at "sim")
        have hx4 := hoff.ne (b := a.op) (by walk_at "sim")
        have hx5 := hoff.ne (b := a.ta) (by walk_at "sim")
        have hx6 := hoff.ne (b := a.tr) (by walk_at "sim")
        have hx7 := hoff.ne (b := q) (by walk_at "sim")
        have hcc := hcok c (List.mem_of_getElem? hc)
        have hni : nu ∉ (idxOf cs (-l)).take i := not_mem_take (idxOf_nodup _ _) hnu
        have hti : (idxOf cs (-l)).take (i + 1) = (idxOf cs (-l)).take i ++ [nu] := by rw [List.take_add_one, hnu]; rfl
        have eO : (mixL ((idxOf cs (-l)).take (i + 1)) (openOf T') (openOf T0) cs).getD nu.toNat 0 = openOf T' c := by
          rw [mixL_getD hn0 hc, if_pos (by rw [hti]; simp)]
        have eH : (cs.map (heldOf T')).getD nu.toNat 0 = heldOf T' c := by
          rw [List.getD_eq_getElem?_getD, List.getElem?_map, hc]; rfl
        have eL : lostAt T' cs nu = decide (heldOf T' c = 0 ∧ openOf T' c = 0) := by unfold lostAt; rw [hc]
        have eD : dueAt T' cs nu = if heldOf T' c = 0 ∧ openOf T' c = 1 then [((freeOf T' c).getD 0 0, nu)] else [] := by unfold dueAt; rw [hc]
        (repeat' (walk_at "go"))
        rename IntsAre _ (List.set _ _ _) => hset
        rw [mixL_getD hn0 hc, if_neg hni, ← openOf_in hcc.nodup hlc' hl1, hTT, mixL_set hn0 hc, ← hti] at hset
        rw [eH]
        have e3 : clashOf T' cs l ck ((idxOf cs (-l)).take (i + 1)) = if lostAt T' cs nu = true then (nu, l) else clashOf T' cs l ck ((idxOf cs (-l)).take i) := by
          rw [hti]; exact clashOf_snoc
        have e4 : ((idxOf cs (-l)).take (i + 1)).any (lostAt T' cs) = (((idxOf cs (-l)).take i).any (lostAt T' cs) || lostAt T' cs nu) := by rw [hti]; simp
        have e5 : ((idxOf cs (-l)).take (i + 1)).flatMap (dueAt T' cs) = ((idxOf cs (-l)).take i).flatMap (dueAt T' cs) ++ dueAt T' cs nu := by rw [hti]; simp
        by_cases hA : heldOf T' c = 0
        · rw [if_pos (by simp [hA])]
          (repeat' (walk_at "go"))
          rw [eO]
          by_cases hB : openOf T' c = 0
          · have eL1 : lostAt T' cs nu = true := by rw [eL]; simp [hA, hB]
            have eD1 : dueAt T' cs nu = [] := by rw [eD, if_neg (by omega)]
            rw [if_pos (by simp [hB])]
            (repeat' (walk_at "go"))
            rw [if_pos rfl]
            (repeat' (walk_at "go"))
            (repeat' (walk_at "go")); (try dsimp only)
            rename News _ _ _ _ => N9
            rename _ ∧ _ => hD9
            (refine Mine.exA8 hD9 ?_; (try clear hD9); intro d1 d2 d3 d4 d5 d6 d7 d8 d9)
            refine turn_next (by k_asm) (news_rot8 N9) ?_ ⟨_, _, _, _, _, _, rfl, ovr_set (ovr_set ovr_ovr rfl) rfl, ?_, hset, ?_, ?_, ?_⟩
            · exact List.forall_mem_cons.mpr ⟨hI1, List.forall_mem_cons.mpr ⟨hI2, List.forall_mem_cons.mpr ⟨hI3, List.forall_mem_cons.mpr ⟨hI4, List.forall_mem_cons.mpr ⟨hI5, List.forall_mem_cons.mpr ⟨hI6, List.forall_mem_cons.mpr ⟨hI7, List.forall_mem_cons.mpr ⟨Nat.ne_of_gt d1, hI8⟩⟩⟩⟩⟩⟩⟩⟩
            · show some (Value.bool false) = _
              rw [e4, eL1]; simp
            · rw [e3, if_pos eL1]; exact (Mine.mkE3 _ _ _ (.inr (.head _)))
            · rw [e5, eD1, List.append_nil]; exact hqs'.more (fun r hr => .tail _ hr)
            · exact ownOff_cons (List.forall_mem_cons.mpr ⟨Nat.ne_of_gt d2, List.forall_mem_cons.mpr ⟨Nat.ne_of_gt d3, List.forall_mem_cons.mpr ⟨Nat.ne_of_gt d4, List.forall_mem_cons.mpr ⟨Nat.ne_of_gt d5, List.forall_mem_cons.mpr ⟨Nat.ne_of_gt d6, List.forall_mem_cons.mpr ⟨Nat.ne_of_gt d7, List.forall_mem_cons.mpr ⟨Nat.ne_of_gt d8, fun _ h => nomatch h⟩⟩⟩⟩⟩⟩⟩) hoff
          · have eL1 : lostAt T' cs nu = false := by rw [eL]; simp [hB]
            rw [if_neg (by simp [hB])]
            (repeat' (walk_at "go"))
            rw [if_neg (by decide)]
            (repeat' (walk_at "go"))
            rw [eH, if_pos (by simp [hA])]
            (repeat' (walk_at "go"))
            rw [eO]
            by_cases hC1 : openOf T' c = 1
            · (refine Mine.exE1 (free_of_counts hA hC1) ?_; intro y hy)
              have eD1 : dueAt T' cs nu = [(y, nu)] := by rw [eD, if_pos ⟨hA, hC1⟩, hy]; rfl
              rw [if_pos (by simp [hC1])]
              (repeat' (walk_at "go"))
              rw [if_pos rfl]
              (repeat' (walk_at "go"))
              rename News _ _ _ _ => NB
              refine' last_spec (a := a) (cs := cs) (c := c) (y := y) C' ?lF ?lx (Mine.mkE3 hs ts nd ?ldx) ?lcs ?llc ?lll ?lot hto2 lo2 hn0 hc ?ly ?_
              case lF => k_asm
              case lx => exact Fr.keep (by k_asm) _ _ gx
              case ldx => exact News.get NB (by k_mem)
              case lcs => exact gcl.keeps (Fr.keep (by k_asm))
              case llc => omega
              case lll => exact fun c hc => Nat.le_trans (hll c hc) (by decide)
              case lot => exact News.get NB (by k_mem)
              case ly => rw [hkT, hy]; rfl
              intro ty hL tkL hkL FL
              have NL := News.kp NB hkL (fun p _ => by simp)
              clear NB
              have hqz : (List.map Value.ref aq').length ≤ 100000 := by
                rw [List.length_map, hqs'.1, List.length_append]
                have h1 := dues_le (T := T') (cs := cs) (ns := (idxOf cs (-l)).take i)
                have h2 := idxOf_le cs (-l)
                have h3 : ((idxOf cs (-l)).take i).length ≤ (idxOf cs (-l)).length := by rw [List.length_take]; exact Nat.min_le_right _ _
                omega
              (repeat' (walk_at "go"))
              (repeat' (walk_at "go")); (try dsimp only)
              rename News _ _ _ _ => N9
              rename _ ∧ _ => hD9
              (refine Mine.exA8 hD9 ?_; (try clear hD9); intro d1 d2 d3 d4 d5 d6 d7 d8 d9)
              rename_i D9 _ _ _ _ _ _
              have e8 : List.map Value.ref aq' ++ [Value.ref D9] = List.map Value.ref (aq' ++ [D9]) := by simp
              refine turn_next (by k_asm) (news_rot8 N9) ?_ ⟨_, _, _, aq' ++ [D9], _, _, by rw [e8], ovr_set ovr_ovr rfl, ?_, hset, ?_, ?_, ?_⟩
              · exact List.forall_mem_cons.mpr ⟨hI1, List.forall_mem_cons.mpr ⟨hI2, List.forall_mem_cons.mpr ⟨hI3, List.forall_mem_cons.mpr ⟨hI4, List.forall_mem_cons.mpr ⟨hI5, List.forall_mem_cons.mpr ⟨hI6, List.forall_mem_cons.mpr ⟨hI7, List.forall_mem_cons.mpr ⟨Nat.ne_of_gt d1, hI8⟩⟩⟩⟩⟩⟩⟩⟩
              · show m1 _ = _
                rw [e4, eL1, Bool.or_false]; exact hms
              · rw [e3, if_neg (by rw [eL1]; decide)]; exact hck'.more (fun r hr => .tail _ hr)
              · rw [e5, eD1, ← List.append_assoc]; exact (hqs'.more (fun r hr => .tail _ hr)).snoc (Mine.mkE3 _ _ _ (.inr (.head _)))
              · exact ownOff_cons (List.forall_mem_cons.mpr ⟨Nat.ne_of_gt d2, List.forall_mem_cons.mpr ⟨Nat.ne_of_gt d3, List.forall_mem_cons.mpr ⟨Nat.ne_of_gt d4, List.forall_mem_cons.mpr ⟨Nat.ne_of_gt d5, List.forall_mem_cons.mpr ⟨Nat.ne_of_gt d6, List.forall_mem_cons.mpr ⟨Nat.ne_of_gt d7, List.forall_mem_cons.mpr ⟨Nat.ne_of_gt d8, fun _ h => nomatch h⟩⟩⟩⟩⟩⟩⟩) hoff
            · have eD1 : dueAt T' cs nu = [] := by rw [eD, if_neg (by omega)]
              rw [if_neg (by simp [hC1])]
              (repeat' (walk_at "go"))
              rw [if_neg (by decide)]
              (repeat' (walk_at "go"))
              (repeat' (walk_at "go")); (try dsimp only)
              refine turn_next (by k_asm) (by k_asm) ?_ ⟨_, _, _, _, _, _, rfl, ovr_set ovr_ovr rfl, ?_, hset, ?_, ?_, hoff⟩
              · exact List.forall_mem_cons.mpr ⟨hI1, List.forall_mem_cons.mpr ⟨hI2, List.forall_mem_cons.mpr ⟨hI3, List.forall_mem_cons.mpr ⟨hI4, List.forall_mem_cons.mpr ⟨hI5, List.forall_mem_cons.mpr ⟨hI6, List.forall_mem_cons.mpr ⟨hI7, hI8⟩⟩⟩⟩⟩⟩⟩
              · show m1 _ = _
                rw [e4, eL1, Bool.or_false]; exact hms
              · rw [e3, if_neg (by rw [eL1]; decide)]; exact hck'
              · rw [e5, eD1, List.append_nil]; exact hqs'
        · have eL1 : lostAt T' cs nu = false := by rw [eL]; simp [hA]
          have eD1 : dueAt T' cs nu = [] := by rw [eD, if_neg (by omega)]
          rw [if_neg (by simp [hA])]
          (repeat' (walk_at "go"))
          rw [if_neg (by decide)]
          (repeat' (walk_at "go"))
          rw [eH, if_neg (by simp [hA])]
          (repeat' (walk_at "go"))
          rw [if_neg (by decide)]
          (repeat' (walk_at "go"))
          (repeat' (walk_at "go")); (try dsimp only)
          refine turn_next (by k_asm) (by k_asm) ?_ ⟨_, _, _, _, _, _, rfl, ovr_set ovr_ovr rfl, ?_, hset, ?_, ?_, hoff⟩
          · exact List.forall_mem_cons.mpr ⟨hI1, List.forall_mem_cons.mpr ⟨hI2, List.forall_mem_cons.mpr ⟨hI3, List.forall_mem_cons.mpr ⟨hI4, List.forall_mem_cons.mpr ⟨hI5, List.forall_mem_cons.mpr ⟨hI6, List.forall_mem_cons.mpr ⟨hI7, hI8⟩⟩⟩⟩⟩⟩⟩
          · show m1 _ = _
            rw [e4, eL1, Bool.or_false]; exact hms
          · rw [e3, if_neg (by rw [eL1]; decide)]; exact hck'
          · rw [e5, eD1, List.append_nil]; exact hqs'
      case done2 =>
        intro m8 nx8 h8 tk8 hjo4 F8 N8
        walk_at "hideG"
        obtain ⟨vs8, no8, k8, aq8, nq8, ex8, rfl, hmm8, hms8, hvs8, hck8, hqs8, hoff8⟩ := hjo4
        walk_at "showG"
        (repeat' (walk_at "go"))
        (repeat' (walk_at "go")); (try dsimp only)
        rename Fr _ _ _ _ => F8
        have hk' : keysOf (kvs ++ [(l, .int cause tc)]) = T' := by rw [← hst]; exact hkT
        have e9 : ∀ {xs : List Int}, IntsAre vs2 xs → xs.take vs2.toArray.size = xs := fun h => List.take_of_length_le (by rw [List.size_toArray, h.length]; exact Nat.le_refl _)
        rw [mixL_take_all hi2 fun c _ hc => by rw [← hTT]; exact openOf_out hc] at hvs8
        rw [e9 hi2] at hck8 hqs8 ⊢
        refine retR F8 ⟨rfl, ⟨F8.keep _ _ gx, (Mine.mkE2A1 tte k8 (Mine.mkE3 hs ts nd (News.get N8 (by k_mem))) (hck8.at F8 N8 (by walk_at "sub"))), gcl.keeps F8.keep, (Mine.mkE2 okp kvp ⟨F8.keep _ _ gpl, hdp, fun k v e => ?_, hp2, hp3, hp4, fun p hp => ?_⟩), (Mine.mkE2A1 vs9 no9 (News.get N8 (by k_mem)) (by rw [hk']; exact hvs)),
          (Mine.mkE2A1 vs8 no8 (News.get N8 (by k_mem)) (by rw [hk']; exact hvs8)), gbe.keeps F8.keep, (Mine.mkE1A1 o' (News.get N8 (by k_mem)) (by rw [← hst]; exact hto2)), fun r hr => ?_, (Mine.mkE2A1 _ _ (News.get N8 (by k_mem)) (by rw [hk', ← hTT]; exact itr.append (.cons _ _ .nil)))⟩, (Mine.mkE2A2 aq8 nq8 (News.get N8 (by k_mem)) hqs8.1 (fun i x r h1 h2 => (hqs8.2 i x r h1 h2).at F8 N8 (by walk_at "sub")))⟩
        · (refine Mine.exE1A2E2A1 (gp1 k v e) ?_; intro p hsb76 hp vs n e' hi; subst hsb76)
          exact ⟨p, ⟨rfl, hp, (Mine.mkE2A1 vs n (F8.keep _ _ e') hi)⟩⟩
        · (refine Mine.exE2 (gp5 p hp) ?_; intro vs n e')
          exact (Mine.mkE2 vs n (F8.keep _ _ e'))
        · rcases List.mem_append.mp hr with hr | hr
          · exact S.tav r hr
          · rw [List.mem_singleton] at hr; subst hr; exact (Mine.mkE2 _ _ rfl)
end

/-! part P2 -/

theorem idxOf_snoc {cs : List (List Int)} {c : List Int} {k : Int} : idxOf (cs ++ [c]) k = idxOf cs k ++ if k ∈ c then [(cs.length : Int)] else [] := by
  unfold idxOf
  rw [List.zipIdx_append, List.filter_append, List.map_append]
  congr 1
  by_cases h : k ∈ c <;> simp [h]
theorem begunOf_snoc {cs : List (List Int)} {c : List Int} : begunOf (cs ++ [c]) = begunOf cs ++ if c.length = 1 then [(c.headD 0, (cs.length : Int))] else [] := by
  unfold begunOf
  rw [List.zipIdx_append, List.filter_append, List.map_append]
  congr 1
  by_cases h : c.length = 1 <;> simp [h]
theorem emptyOf_snoc {cs : List (List Int)} {c : List Int} : emptyOf (cs ++ [c]) = if c = [] then (cs.length : Int) else emptyOf cs := by
  unfold emptyOf
  rw [List.zipIdx_append, List.filter_append]
  cases c <;> simp

noncomputable def updG (tl : List (Addr × Obj)) (p : Addr) (o' : Obj) : List (Addr × Obj) := tl.map fun q => if @Eq Nat q.1 p then (q.1, o') else q
theorem updG_off {tl : List (Addr × Obj)} {p : Addr} {o' : Obj} (h : ∀ q ∈ tl, q.1 ≠ p) : updG tl p o' = tl := by
  unfold updG
  refine (List.map_congr_left (g := id) fun q hq => ?_).trans (List.map_id _)
  exact if_neg (h q hq)
theorem updG_fst {tl : List (Addr × Obj)} {p : Addr} {o' : Obj} : (updG tl p o').map (·.1) = tl.map (·.1) := by
  unfold updG
  rw [List.map_map]
  refine List.map_congr_left fun q _ => ?_
  show (if @Eq Nat q.1 p then (q.1, o') else q).1 = q.1
  split <;> rfl
theorem updG_self {tl : List (Addr × Obj)} {p : Addr} {o o' : Obj} (h : (p, o) ∈ tl) : (p, o') ∈ updG tl p o' := List.mem_map.mpr (Mine.mkE1A1 _ h (if_pos rfl))
theorem updG_other {tl : List (Addr × Obj)} {p x : Addr} {o o' : Obj} (h : (x, o) ∈ tl) (hx : x ≠ p) : (x, o) ∈ updG tl p o' := List.mem_map.mpr (Mine.mkE1A1 _ h (if_neg hx))
theorem updF_tl {p : Addr} {o : Obj} : ∀ {tl : List (Addr × Obj)}, (p, o) ∈ tl → (tl.map (·.1)).Nodup → UpdF p o tl (updG tl p)
  | q :: r, hm, hn => by
    rw [List.map_cons, List.nodup_cons] at hn
    rcases List.mem_cons.mp hm with rfl | hm
    · have h : ∀ q ∈ r, q.1 ≠ p := fun q hq e => hn.1 (e ▸ List.mem_map.mpr (Mine.mkE1A1 q hq rfl))
      have e : updG ((p, o) :: r) p = fun o' => (p, o') :: r := by
        funext o'
        have := updG_off (o' := o') h
        unfold updG at this ⊢
        rw [List.map_cons, this]; simp
      rw [e]; exact .head h
    · have h : q.1 ≠ p := fun e => hn.1 (e ▸ List.mem_map.mpr (Mine.mkE1A1 _ hm rfl))
      have e : updG (q :: r) p = fun o' => q :: updG r p o' := by
        funext o'
        unfold updG
        rw [List.map_cons, if_neg h]
      rw [e]; exact .tail h (updF_tl hm hn.2)

/-- the lists by literal, in the ledger's tail -/
structure PlIn (tl : List (Addr × Obj)) (kvp : List (Int × Value)) (f : Int → List Int) : Prop where
  found : ∀ k v, valueAt kvp k = some v → ∃ p vs n, v = .ref p ∧ (p, W.listOf (List.toArray vs) n) ∈ tl ∧ IntsAre vs (f k)
  lack : ∀ k, valueAt kvp k = none → f k = []
  inj : ∀ k k' v, valueAt kvp k = some v → valueAt kvp k' = some v → k = k'
  nd : (tl.map (·.1)).Nodup

theorem valueAt_stored {kvs : List (Int × Value)} {k k' : Int} {v : Value} (hn : valueAt kvs k = none) : valueAt (stored kvs k v) k' = if k' = k then some v else valueAt kvs k' := by
  have hk : k ∉ keysOf kvs := by
    intro h
    have := valueAt_isSome kvs k
    rw [hn] at this
    simp [h] at this
  have e : stored kvs k v = kvs ++ [(k, v)] := by
    unfold stored
    rw [if_neg]
    intro h
    (refine Mine.exE1A1 (List.any_eq_true.mp h) ?_; intro r hr e)
    exact hk (List.mem_map.mpr (Mine.mkE1A1 r hr (of_decide_eq_true e)))
  rw [e]
  by_cases hkk : k' = k
  · subst hkk
    rw [if_pos rfl]
    unfold valueAt at hn ⊢
    rw [List.find?_append]
    rw [Option.map_eq_none_iff] at hn
    rw [hn]; simp
  · rw [if_neg hkk]
    unfold valueAt
    rw [List.find?_append]
    have : List.find? (fun e => decide (e.1 = k')) [(k, v)] = none := by simp; exact fun e => hkk e.symm
    rw [this, Option.or_none]

theorem PlIn.there {tl : List (Addr × Obj)} {kvp : List (Int × Value)} {f f' : Int → List Int} {k n : Int} {t : Tok} {p : Addr} {vs : List Value} {no no' : Nat} (P : PlIn tl kvp f) (hk : valueAt kvp k = some (.ref p)) (hm : (p, W.listOf (List.toArray vs) no) ∈ tl) (hi : IntsAre vs (f k))
    (h1 : f' k = f k ++ [n]) (h2 : ∀ k', k' ≠ k → f' k' = f k') : PlIn (updG tl p (W.listOf (List.toArray (vs ++ [.int n t])) no')) kvp f' := by
  refine ⟨fun k' v hv => ?_, fun k' hv => ?_, P.inj, by rw [updG_fst]; exact P.nd⟩
  · by_cases hkk : k' = k
    · subst hkk
      rw [hk] at hv; cases hv
      exact (Mine.mkE3A2 p _ _ rfl (updG_self hm) (by rw [h1]; exact hi.append (.cons _ _ .nil)))
    · (refine Mine.exE3A2 (P.found k' v hv) ?_; intro p' vs' n' hsb77 hm' hi'; subst hsb77)
      refine (Mine.mkE3A2 p' vs' n' rfl (updG_other hm' (fun e => hkk ?_)) (by rw [h2 k' hkk]; exact hi'))
      subst e
      exact P.inj _ _ _ hv hk
  · rw [h2 k' (fun e => by rw [e, hk] at hv; cases hv)]; exact P.lack k' hv

theorem PlIn.new {tl : List (Addr × Obj)} {kvp : List (Int × Value)} {f f' : Int → List Int} {k n : Int} {t : Tok} {p : Addr} {no' : Nat} (P : PlIn tl kvp f) (hk : valueAt kvp k = none) (hp : ∀ q ∈ tl, q.1 ≠ p)
    (h1 : f' k = f k ++ [n]) (h2 : ∀ k', k' ≠ k → f' k' = f k') : PlIn ((p, W.listOf (List.toArray ([.int n t])) no') :: tl) (stored kvp k (.ref p)) f' := by
  have hoff : ∀ k' v, valueAt kvp k' = some v → v ≠ .ref p := fun k' v hv e => by
    walk_at "hideG"
    (refine Mine.exE3A2 (P.found k' v hv) ?_; intro p' vs' n' hsb78 hm' hi'; subst hsb78)
    walk_at "showG"
    cases e
    exact hp _ hm' rfl
  refine ⟨fun k' v hv => ?_, fun k' hv => ?_, fun k1 k2 v e1 e2 => ?_, ?_⟩
  · rw [valueAt_stored hk] at hv
    by_cases hkk : k' = k
    · subst hkk
      rw [if_pos rfl] at hv; cases hv
      exact (Mine.mkE3A2 p _ _ rfl (.head _) (by rw [h1, P.lack _ hk]; exact .cons _ _ .nil))
    · rw [if_neg hkk] at hv
      walk_at "hideG"
      (refine Mine.exE3A2 (P.found k' v hv) ?_; intro p' vs' n' hsb79 hm' hi'; subst hsb79)
      walk_at "showG"
      exact (Mine.mkE3A2 p' vs' n' rfl (.tail _ hm') (by rw [h2 k' hkk]; exact hi'))
  · rw [valueAt_stored hk] at hv
    by_cases hkk : k' = k
    · rw [if_pos hkk] at hv; cases hv
    · rw [if_neg hkk] at hv
      rw [h2 k' hkk]; exact P.lack k' hv
  · rw [valueAt_stored hk] at e1 e2
    by_cases h1 : k1 = k
    · by_cases h2 : k2 = k
      · rw [h1, h2]
      · rw [if_pos h1] at e1; rw [if_neg h2] at e2; cases e1
        exact absurd rfl (hoff _ _ e2)
    · by_cases h2 : k2 = k
      · rw [if_neg h1] at e1; rw [if_pos h2] at e2; cases e2
        exact absurd rfl (hoff _ _ e1)
      · rw [if_neg h1] at e1; rw [if_neg h2] at e2
        exact P.inj _ _ _ e1 e2
  · rw [List.map_cons, List.nodup_cons]
    exact ⟨fun h => by (refine Mine.exE1A1 (List.mem_map.mp h) ?_; intro q hq e); exact hp q hq e, P.nd⟩

/-- what is there of these addresses -/
noncomputable def tailOf (h : Heap) (ps : List Addr) : List (Addr × Obj) := ps.filterMap fun p => (h.get? p).map fun o => (p, o)
theorem tailOf_mem {h : Heap} {ps : List Addr} {q : Addr × Obj} : q ∈ tailOf h ps ↔ q.1 ∈ ps ∧ h.get? q.1 = some q.2 := by
  unfold tailOf
  rw [List.mem_filterMap]
  constructor
  · rintro ⟨p, hp, e⟩
    cases ho : h.get? p with
    | none => rw [ho] at e; cases e
    | some o => rw [ho] at e; cases e; exact ⟨hp, ho⟩
  · rintro ⟨h1, h2⟩
    exact (Mine.mkE1A1 q.1 h1 (by rw [h2]; rfl))
theorem tailOf_nodup {h : Heap} : ∀ {ps : List Addr}, ps.Nodup → ((tailOf h ps).map (·.1)).Nodup
  | [], _ => by simp [tailOf]
  | p :: r, hn => by
    rw [List.nodup_cons] at hn
    have ih := tailOf_nodup (h := h) hn.2
    cases ho : h.get? p with
    | none =>
      have : tailOf h (p :: r) = tailOf h r := by unfold tailOf; rw [List.filterMap_cons, ho]; rfl
      rw [this]; exact ih
    | some o =>
      have : tailOf h (p :: r) = (p, o) :: tailOf h r := by unfold tailOf; rw [List.filterMap_cons, ho]; rfl
      rw [this, List.map_cons, List.nodup_cons]
      refine ⟨fun hm => ?_, ih⟩
      (refine Mine.exE1A1 (List.mem_map.mp hm) ?_; intro q hq e)
      have h1 := (tailOf_mem.mp hq).1
      have e' : q.1 = p := e
      rw [e'] at h1; exact hn.1 h1

/-! part M10 -/
set_option maxHeartbeats 4000000


theorem updG_all {tl : List (Addr × Obj)} {p : Addr} {o' : Obj} {P : Addr → Prop} (h : ∀ q ∈ tl, P q.1) : ∀ q ∈ updG tl p o', P q.1 := fun q hq => by
  have h1 : q.1 ∈ tl.map (·.1) := by rw [← updG_fst (p := p) (o' := o')]; exact List.mem_map.mpr (Mine.mkE1A1 q hq rfl)
  (refine Mine.exE1A1 (List.mem_map.mp h1) ?_; intro r hr e)
  exact e ▸ h r hr
theorem updG_objs {tl : List (Addr × Obj)} {p : Addr} {o' : Obj} {P : Obj → Prop} (h : ∀ q ∈ tl, P q.2) (ho : P o') : ∀ q ∈ updG tl p o', P q.2 := fun q hq => by
  (refine Mine.exE1A1 (List.mem_map.mp hq) ?_; intro r hr hsb80; subst hsb80)
  show P (if @Eq Nat r.1 p then (r.1, o') else r).2
  split
  · exact ho
  · exact h r hr
theorem news_rot7 {g h : Heap} {L : Addr} {x i y1 y2 y3 y4 y5 y6 : Addr × Obj} {ex : List (Addr × Obj)} (N : News g L h (x :: i :: y1 :: y2 :: y3 :: y4 :: y5 :: y6 :: ex)) : News g L h (i :: y1 :: y2 :: y3 :: y4 :: y5 :: y6 :: x :: ex) := fun p hp => N p (by
  exact (by walk_at "sub" : ∀ p ∈ _, p ∈ _) _ hp)
theorem rising_len {hi : Nat} : ∀ {xs : List Nat} {lo : Nat}, xs.Pairwise (· < ·) → (∀ x ∈ xs, lo ≤ x ∧ x ≤ hi) → lo ≤ hi + 1 → xs.length + lo ≤ hi + 1
  | [], lo, _, _, h => by simpa using h
  | x :: r, lo, hp, hb, _ => by
    rw [List.pairwise_cons] at hp
    have h1 := hb x (.head _)
    have := rising_len (lo := x + 1) hp.2 (fun y hy => ⟨hp.1 y hy, (hb y (.tail _ hy)).2⟩) (by omega)
    rw [List.length_cons]; omega
theorem clause_len {c : List Int} (h : ClauseOk c) : c.length ≤ 5 := by
  have := rising_len (hi := 5) (xs := c.map Int.natAbs) (lo := 1) (by rw [List.pairwise_map]; exact h.2) (fun x hx => by
    (refine Mine.exE1A1 (List.mem_map.mp hx) ?_; intro l hl hsb81; subst hsb81)
    have := h.1 l hl
    omega) (by omega)
  rw [List.length_map] at this; omega
theorem allLt_mem {d : Nat} {l : List (Addr × Obj)} {q : Addr × Obj} (h : AllLt d l) (hq : q ∈ l) : @LT.lt Nat _ q.1 d := by
  induction l with
  | nil => cases hq
  | cons p r ih =>
    rcases List.mem_cons.mp hq with rfl | hq
    · exact h.1
    · exact ih h.2 hq
set_option hygiene false in
local macro_rules
| `(tactic| k_ne) => `(tactic| (refine neN ?_; (try dsimp only); with_reducible first | assumption | (refine Ne.symm ?_; assumption) | (refine Nat.ne_of_gt ?_; assumption) | (refine Nat.ne_of_lt ?_; assumption)))
theorem memL {α : Type} {a : α} {l : List α} (h : a ∈ l) : List.Mem a l := h
set_option hygiene false in
local macro_rules
| `(tactic| k_mem) => `(tactic| (refine Mine.memL ?_; with_reducible assumption))
set_option hygiene false in
local macro_rules
| `(tactic| walk_at "all") => `(tactic| first | exact List.forall_mem_nil _ | with_reducible assumption | (refine' List.forall_mem_cons.mpr ⟨?a, ?b⟩; (case a => k_ne); (case b => walk_at "all")))
set_option hygiene false in
local macro_rules
| `(tactic| k_all) => `(tactic| walk_at "all")
set_option hygiene false in
local macro_rules
| `(tactic| k_updF) => `(tactic| first | (refine' UpdF.head ?a; (case a => walk_at "all")) | (refine' UpdF.tail ?a ?b; (case a => k_ne); (case b => k_updF)) | (refine' Mine.updF_tl ?a ?b; (case a => with_reducible assumption); (case b => with_reducible assumption)))

section
variable {prog : Program} {w : World} {A : Around} {E : Value → Shared → Prop} {s : Shared} {Q : Value → Shared → Prop}
theorem len_listN {l : Addr} {vs : List Value} {n : Nat} (ho : s.heap.get? l = some (W.listOf vs.toArray n)) (hz : vs.length ≤ 100000)
    (h : ∀ t s', s' = { s with toks := s.toks + 1 + 1 } → Q (.int (vs.length : Int) t) s') : wpAny (model prog w) A (call (.builtin "len") [.ref l]) Q E s := by
  refine Calls.call_len_list (Mine.mkE1A2E1 _ ho rfl _ rfl) (by simp; omega) ?_
  rw [List.size_toArray]; exact h _ _ rfl
theorem len_tupN {l : Addr} {vs : List Value} {n : Nat} (ho : s.heap.get? l = some { cls := .type "tuple", data := .seq vs.toArray n }) (hz : vs.length ≤ 100000)
    (h : ∀ t s', s' = { s with toks := s.toks + 1 + 1 } → Q (.int (vs.length : Int) t) s') : wpAny (model prog w) A (call (.builtin "len") [.ref l]) Q E s := by
  refine len_tuple (Mine.mkE1A2E1 _ ho rfl _ rfl) (by simp; omega) ?_
  rw [List.size_toArray]; exact h _ _ rfl
theorem tup_item {value slice : PySem.Expr} {l : Addr} {vs : List Value} {ns : List Int} {n : Nat} {k : Int} {t : Tok} (ho : s.heap.get? l = some { cls := .type "tuple", data := .seq vs.toArray n }) (hi : IntsAre vs ns) (h0 : 0 ≤ k) (h1 : k < (ns.length : Int)) (hz : ns.length ≤ 1000)
    (h : ∀ u, Q (.int (ns.getD k.toNat 0) u) s) (hs : subscripted slice false (.ref l) (.int k t) = operate [.ref l, .int k t] (getItem (.ref l) (.int k t)) := by with_unfolding_all rfl) :
    wpAny (model prog w) A (subscriptTail value slice (.ref l) (.int k t)) Q E s := by
  have ht : IsTup s.heap l vs.toArray := (Mine.mkE1A2E1 _ ho rfl _ rfl)
  have hk : k.toNat < vs.length := by rw [hi.length]; omega
  (refine Mine.exE1 (hi.int_at k.toNat vs[k.toNat] (by simp [hk])) ?_; intro u hu)
  refine tail_any ht.typeIs slot_tuple_getitem.lookup (getItem_tuple (j := k.toNat) (x := vs[k.toNat]) ht (by omega) (by omega) (seqIndex_of h0 (by simpa [hi.length] using h1)) (by simp [hk]) ?_) hs
  rw [hu]; exact h u
end
set_option hygiene false in
local macro_rules
| `(tactic| walk_at "subscriptTail") => `(tactic| ((with_reducible show wpAny _ _ (subscriptTail _ _ (Value.ref _) (Value.int _ _)) _ _ _); k_dflt (refine Mine.tup_item (by walk_at "at") (by assumption) (by walk_at "fact") (by walk_at "fact") (by walk_at "fact") ?_ (by with_unfolding_all rfl)); intro _))
local macro_rules
| `(tactic| walk_at "call builtin:len") => `(tactic| (k_dflt (first
  | (refine Mine.len_listN (by walk_at "at") (by walk_at "fact") ?_)
  | (refine Mine.len_tupN (by walk_at "at") (by walk_at "fact") ?_)); intro tlen slen hslen; subst hslen))

section
variable {w : World} {mg mb : Str → Option Value} {n : Nat} {A : Around} {h₀ : Heap} {L : Addr} {m : Str → Option Value} {s : Shared} {E : Value → Shared → Prop} {Q : Value → Shared → Prop}

inductive PlJ (w : World) (e1 e2 : Addr × Obj) (pl : Addr) (e4 e5 e6 : Addr × Obj) (m0 : Str → Option Value) (cs : List (List Int)) (c : List Int) (ps : List Addr) (SH : Heap) (i : Nat) (m : Str → Option Value) (nx : List (Addr × Obj)) : Prop
  | mk (op' : Obj) (kvp' : List (Int × Value)) (tl : List (Addr × Obj)) (hnx : nx = e1 :: e2 :: (pl, op') :: e4 :: e5 :: e6 :: tl) (hm : ∀ y, [Str.ofString "literal"].contains y = false → m y = m0 y) (hd : op'.IsDictOf (intKind PP w) kvp')
      (hp : PlIn tl kvp' (fun k => idxOf cs k ++ if k ∈ c.take i then [(cs.length : Int)] else [])) (hl : kvp'.length ≤ 5 * cs.length + i) (ht : ∀ q ∈ tl, q.1 ∈ ps ∨ SH.get? q.1 = none) (ho : ∀ q ∈ tl, ∃ vs n, q.2 = W.listOf (List.toArray vs) n) : PlJ w e1 e2 pl e4 e5 e6 m0 cs c ps SH i m nx

theorem add_spec {a : StA} {ps : List Addr} {cs : List (List Int)} {c : List Int} {ck : Int × Int} {x : Addr} (C : Cx w mg mb (n + 1) A h₀ L) (F : Fr h₀ L s.heap m)
    (S : StepsAt w s.heap a ps cs [] ck) (O : StOk a ps) (hx : TupInts s.heap x c) (hcok : ClauseOk c)
    (hmut : ∀ b ∈ [a.dx, a.cl, a.pl, a.he, a.op, a.be] ++ ps, h₀.get? b = none ∧ b ≠ L) (hlc : cs.length ≤ 800)
    (hQ : ∀ ps' h' tk, StepsAt w h' a ps' (cs ++ [c]) [] ck → StOk a ps' → (∀ p ∈ ps', p ∈ ps ∨ s.heap.get? p = none) → Kp ([a.dx, a.cl, a.pl, a.he, a.op, a.be] ++ ps) s.heap h' → Fr h₀ L h' m → Q .none { s with heap := h', toks := tk }) :
    wpAny (model PP w) A (call (.ref 35) [.ref a.x, .ref x]) Q E s := by
  refine' callR (binds := [(Str.ofString "self", .ref a.x), (Str.ofString "clause", .ref x)]) (R := fun v h' => v = .none ∧ ∃ ps', StepsAt w h' a ps' (cs ++ [c]) [] ck ∧ StOk a ps' ∧ (∀ p ∈ ps', p ∈ ps ∨ s.heap.get? p = none)) ([a.dx, a.cl, a.pl, a.he, a.op, a.be] ++ ps) C F hmut ?ho ?hcd ?hb ?hl ?h ?hQ ?hcell ?c1 ?c2 ?c3
  case ho => exact rfl
  case hcd => exact rfl
  case hb => exact BindsTo.of_eq rfl
  case hl => exact locs rfl
  case hcell => decide
  case c1 => rfl
  case c2 => rfl
  case c3 => rfl
  case hQ =>
    intro v h' tk hjo3 hk' F'
    walk_at "hideG"
    (refine Mine.exA1 hjo3 ?_; (try clear hjo3); intro hsb82 hrun83; refine Mine.exE1 hrun83 ?_; clear hrun83; intro ps' hrun84; refine Mine.exA2 hrun84 ?_; clear hrun84; intro h1 h2 h3; subst hsb82)
    walk_at "showG"
    exact hQ _ _ _ h1 h2 h3 hk' F'
  case h =>
    intro g L' h₁ hg hL' C' F' hk₁
    walk_at "hideG"
    (refine Mine.exE2A1 S.dx ?_; intro tte kc hnst85 hck; obtain ⟨hs, ts, nd, hdx⟩ := hnst85)
    (refine Mine.exE2A6 S.pl ?_; intro okp kvp hop hdp hp1 hp2 hp3 hpl hps)
    (refine Mine.exE2A1 S.he ?_; intro vhe nhe hhe ihe)
    (refine Mine.exE2A1 S.op ?_; intro vop nop hopn iop)
    (refine Mine.exE2A2 S.cl ?_; intro acl ncl hcl lcl fcl)
    (refine Mine.exE2A2 S.be ?_; intro abe nbe hbe lbe fbe)
    (refine Mine.exE2A1 S.tr ?_; intro vtr ntr htr itr)
    (refine Mine.exE1A1 S.ta ?_; intro ot hot hto)
    (refine Mine.exE2A1 hx ?_; (try clear hx); intro vc nc hxo ic)
    have nd0 := O.nd
    have hnps : ps.Nodup := (List.nodup_append.mp nd0).2.1
    have hoffps : ∀ b ∈ ([a.x, a.dx, a.cl, a.pl, a.he, a.op, a.be, a.ta, a.tr] : List Nat), b ∉ ps := fun b hb h => (List.nodup_append.mp nd0).2.2 b hb b h rfl
    obtain ⟨n01, n02, n03, n04, n05, n06, n07, n08, n09, n12, n13, n14, n15, n16, n17, n18, n19, n23, n24, n25, n26, n27, n28, n29, n34, n35, n36, n37, n38, n39, n45, n46, n47, n48, n49, n56, n57, n58, n59, n67, n68, n69, n78, n79, n89, n99⟩ := O.ne
    walk_at "showG"
    have gk := gkOf hg
    have gkT := gkTOf gk (S.noTup.sub fun b hb => (List.mem_append.mp hb).elim (fun h => List.mem_append_left _ ((by walk_at "sub" : ∀ p ∈ _, p ∈ _) _ h)) fun h => List.mem_append_right _ h)
    have gno : ∀ b, g.get? b = none → b ∉ ([a.dx, a.cl, a.pl, a.he, a.op, a.be] ++ ps) → s.heap.get? b = none := by
      intro b e hb
      cases ho : s.heap.get? b with
      | none => rfl
      | some o => rw [gk _ _ hb ho] at e; cases e
    have gx := gk _ _ (Mine.nma (Mine.nmc n01 (Mine.nmc n02 (Mine.nmc n03 (Mine.nmc n04 (Mine.nmc n05 (Mine.nmc n06 Mine.nm0)))))) (hoffps _ (by walk_at "sim"))) S.x
    have gta := gk _ _ (Mine.nma (Mine.nmc (fun e => n17 e.symm) (Mine.nmc (fun e => n27 e.symm) (Mine.nmc (fun e => n37 e.symm) (Mine.nmc (fun e => n47 e.symm) (Mine.nmc (fun e => n57 e.symm) (Mine.nmc (fun e => n67 e.symm) Mine.nm0)))))) (hoffps _ (by walk_at "sim"))) hot
    have gtr := gk _ _ (Mine.nma (Mine.nmc (fun e => n18 e.symm) (Mine.nmc (fun e => n28 e.symm) (Mine.nmc (fun e => n38 e.symm) (Mine.nmc (fun e => n48 e.symm) (Mine.nmc (fun e => n58 e.symm) (Mine.nmc (fun e => n68 e.symm) Mine.nm0)))))) (hoffps _ (by walk_at "sim"))) htr
    have gcl : ∀ (i : Nat) x c, acl[i]? = some x → cs[i]? = some c → TupInts g x c := fun i x c h1 h2 => by
      (refine Mine.exE2A1 (fcl i x c h1 h2) ?_; intro vs n e hi)
      exact (Mine.mkE2A1 vs n (gkT _ _ _ e) hi)
    have gbe : ∀ (i : Nat) x c, abe[i]? = some x → (begunOf cs)[i]? = some c → PairAt g x c := fun i x c h1 h2 => by
      (refine Mine.exE3 (fbe i x c h1 h2) ?_; intro t u n e)
      exact (Mine.mkE3 t u n (gkT _ _ _ e))
    have gck : PairAt g kc ck := by (refine Mine.exE3 hck ?_; (try clear hck); intro t u n e); exact (Mine.mkE3 t u n (gkT _ _ _ e))
    have gxo := gkT _ _ _ hxo
    have N : News g L' h₁ ((a.dx, dictOf (stEs hs ts a (.int (emptyOf cs) tte) (.ref kc)) nd) :: (a.cl, W.listOf (acl.map Value.ref).toArray ncl) :: (a.pl, okp) :: (a.he, W.listOf vhe.toArray nhe) :: (a.op, W.listOf vop.toArray nop) :: (a.be, W.listOf (abe.map Value.ref).toArray nbe) :: tailOf s.heap ps) := by
      rw [hg, hL']
      exact List.forall_mem_cons.mpr ⟨news_of hdx (by walk_at "sim") hk₁, List.forall_mem_cons.mpr ⟨news_of hcl (by walk_at "sim") hk₁, List.forall_mem_cons.mpr ⟨news_of hop (by walk_at "sim") hk₁, List.forall_mem_cons.mpr ⟨news_of hhe (by walk_at "sim") hk₁,
        List.forall_mem_cons.mpr ⟨news_of hopn (by walk_at "sim") hk₁, List.forall_mem_cons.mpr ⟨news_of hbe (by walk_at "sim") hk₁, fun q hq => news_of (tailOf_mem.mp hq).2 (List.mem_append_right _ (tailOf_mem.mp hq).1) hk₁⟩⟩⟩⟩⟩⟩
    have szx := S.x
    have szdx := hdx
    have szcl := hcl
    have szpl := hop
    have szhe := hhe
    have szop := hopn
    have szbe := hbe
    have szta := hot
    have sztr := htr
    have hP0 : PlIn (tailOf s.heap ps) kvp (idxOf cs) := ⟨fun k v e => by
      walk_at "hideG"
      (refine Mine.exE1A2E2A1 (hp1 k v e) ?_; intro p hsb86 hp vs n e' hi; subst hsb86)
      walk_at "showG"
      exact (Mine.mkE3A2 p vs n rfl (tailOf_mem.mpr ⟨hp, e'⟩) hi), hp2, hp3, tailOf_nodup hnps⟩
    have hT0 : ∀ q ∈ tailOf s.heap ps, q.1 ∈ ps ∨ s.heap.get? q.1 = none := fun q hq => .inl (tailOf_mem.mp hq).1
    have hTl : ∀ q ∈ tailOf s.heap ps, ∃ vs n, q.2 = W.listOf (List.toArray vs) n := fun q hq => by
      (refine Mine.exA1 (tailOf_mem.mp hq) ?_; intro h1 h2)
      (refine Mine.exE2 (hps _ h1) ?_; intro vs n e)
      rw [e] at h2; exact (Mine.mkE2 vs n ((Option.some.inj h2).symm))
    generalize hsz0 : s.heap = SH at *
    generalize tailOf SH ps = tl0 at *
    have X := C'.G.X
    have T := C'.G.T
    have hh := C'.hh
    have lo1 := O.lo1
    have zc1 : (acl.map Value.ref).length ≤ 100000 := by simp; omega
    have hL1 : @LT.lt Nat _ L' h₁.objs.size := F'.ns.lt
    have hxe : ∀ (b : Nat) o, SH.get? b = some o → b ∉ ps → ∀ tl : List (Addr × Obj), (∀ q ∈ tl, q.1 ∈ ps ∨ SH.get? q.1 = none) → ∀ q ∈ tl, q.1 ≠ b := fun b o h1 h2 tl h3 q hq e => by
      rcases h3 q hq with h | h
      · exact h2 (e ▸ h)
      · rw [e, h1] at h; cases h
    clear hk₁ hdx hck hp1 hhe hopn htr hot hxo gk gkT hps hcl hop hbe fcl fbe
    (repeat' (walk_at "go"))
    rename News _ _ _ _ => N1
    rename Fr _ _ _ _ => F1
    (refine Mine.exE1A1 (Fr.gen F1) ?_; intro m0 hm0 F2)
    have ms : m0 (Str.ofString "self") = some (.ref a.x) := by rw [hm0]; rfl
    have mc : m0 (Str.ofString "clause") = some (.ref x) := by rw [hm0]; rfl
    have mn : ∃ tn, m0 (Str.ofString "number") = some (.int (cs.length : Int) tn) := ⟨_, by rw [hm0, ← lcl, ← List.length_map (f := Value.ref)]; rfl⟩
    (refine Mine.exE1 mn ?_; (try clear mn); intro tn mn)
    clear F1 hm0
    refine' for_seq (T := "tuple") (.inr rfl) (Fr.keep F2 _ _ gxo) (PlJ w (a.dx, dictOf (stEs hs ts a (.int (emptyOf cs) tte) (.ref kc)) nd) (a.cl, W.listOf (acl.map Value.ref).toArray ncl) a.pl (a.he, W.listOf vhe.toArray nhe) (a.op, W.listOf vop.toArray nop) (a.be, W.listOf (abe.map Value.ref).toArray nbe) m0 cs c ps SH) hh ?F1 ?N1 ?j1 ?wh1 ?turn1 ?done1 ?x1 ?p1
    case F1 => exact F2
    case N1 => exact N1
    case x1 => rfl
    case p1 => rfl
    case wh1 => exact .inl ⟨_, gxo⟩
    case j1 => exact ⟨_, _, _, rfl, ovr_refl, hdp, by simpa using hP0, by omega, hT0, hTl⟩
    case turn1 =>
      intro i v m1 nx h tk' I oI hv hjo9 hnI F3 N3
      walk_at "hideG"
      obtain ⟨op', kvp', tl, rfl, hmm, hdo, hPl, hle, hTt, hLs⟩ := hjo9
      rw [ovr_eq hmm] at F3
      (refine Mine.exE2A1 (ic.at _ _ (by simpa using hv)) ?_; intro lit tlit hsb87 hlit; subst hsb87)
      walk_at "showG"
      have hil : i < c.length := (List.getElem?_eq_some_iff.mp hlit).1
      have hI1 : @Ne Nat a.dx I := hnI _ (.head _)
      have hI2 : @Ne Nat a.cl I := hnI _ (.tail _ (.head _))
      have hI3 : @Ne Nat a.pl I := hnI _ (.tail _ (.tail _ (.head _)))
      have hI4 : @Ne Nat a.he I := hnI _ (.tail _ (.tail _ (.tail _ (.head _))))
      have hI5 : @Ne Nat a.op I := hnI _ (.tail _ (.tail _ (.tail _ (.tail _ (.head _)))))
      have hI6 : @Ne Nat a.be I := hnI _ (.tail _ (.tail _ (.tail _ (.tail _ (.tail _ (.head _))))))
      have hI8 : ∀ p ∈ tl, p.1 ≠ I := fun p hp => hnI p (.tail _ (.tail _ (.tail _ (.tail _ (.tail _ (.tail _ hp))))))
      have hx1 := hxe _ _ szdx (hoffps _ (by walk_at "sim")) tl hTt
      have hx2 := hxe _ _ szcl (hoffps _ (by walk_at "sim")) tl hTt
      have hx3 := hxe _ _ szpl (hoffps _ (by walk_at "sim")) tl hTt
      have hx4 := hxe _ _ szhe (hoffps _ (by walk_at "sim")) tl hTt
      have hx5 := hxe _ _ szop (hoffps _ (by walk_at "sim")) tl hTt
      have hx6 := hxe _ _ szbe (hoffps _ (by walk_at "sim")) tl hTt
      have hnt := hPl.nd
      have hni : lit ∉ c.take i := not_mem_take hcok.nodup hlit
      have hf1 : (idxOf cs lit ++ if lit ∈ c.take (i + 1) then [(cs.length : Int)] else []) = (idxOf cs lit ++ if lit ∈ c.take i then [(cs.length : Int)] else []) ++ [(cs.length : Int)] := by
        rw [if_neg hni, List.append_nil, List.take_add_one, hlit, if_pos (by walk_at "sim")]
      have hf2 : ∀ k', k' ≠ lit → (idxOf cs k' ++ if k' ∈ c.take (i + 1) then [(cs.length : Int)] else []) = (idxOf cs k' ++ if k' ∈ c.take i then [(cs.length : Int)] else []) := fun k' hk' => by
        rw [List.take_add_one, hlit]; simp [hk']
      have hcl5 : c.length ≤ 5 := clause_len hcok
      have hksz : kvp'.length ≤ sizeLine := by rw [sizeLine_eq]; omega
      (repeat' (walk_at "go"))
      rename News _ _ _ _ => NB
      rename _ ∧ _ => hD9
      (refine Mine.exA7 hD9 ?_; (try clear hD9); intro e1 e2 e3 e4 e5 e6 e7 hD9)
      rename_i D9 _ _
      cases hval : valueAt kvp' lit with
      | some v =>
        walk_at "hideG"
        (refine Mine.exE3A2 (hPl.found lit v hval) ?_; intro p vs no hsb88 hm hi; subst hsb88)
        walk_at "showG"
        refine' kob_setdef_there (k := lit) NB ?hp hdo lo1 (intKind_is _ _ _ _) (PySem.F.args_dict_setdefault_3 _ _ _) hval hksz ?_
        case hp => k_mem
        have hp1 : @Ne Nat p a.dx := hx1 _ hm
        have hp2 : @Ne Nat p a.cl := hx2 _ hm
        have hp3 : @Ne Nat p a.pl := hx3 _ hm
        have hp4 : @Ne Nat p a.he := hx4 _ hm
        have hp5 : @Ne Nat p a.op := hx5 _ hm
        have hp6 : @Ne Nat p a.be := hx6 _ hm
        have hp7 : @Ne Nat p I := hI8 _ hm
        have hp8 : @LT.lt Nat _ p D9 := allLt_mem hD9 hm
        have hz9 : vs.length ≤ 100000 := by
          rw [hi.length, List.length_append]
          have := idxOf_le cs lit
          have : (if lit ∈ c.take i then [(cs.length : Int)] else []).length ≤ 1 := by split <;> simp
          omega
        (repeat' (walk_at "go"))
        (repeat' (walk_at "go")); (try dsimp only)
        rename News _ _ _ _ => N9
        refine turn_next (by k_asm) (fun q hq => N9 q (.tail _ hq)) ?_ ⟨_, _, _, rfl, ovr_set ovr_ovr rfl, hdo, hPl.there hval hm hi hf1 hf2, by omega, updG_all (P := fun b => b ∈ ps ∨ SH.get? b = none) hTt, updG_objs (P := fun o => ∃ vs n, o = W.listOf (List.toArray vs) n) hLs (Mine.mkE2 _ _ rfl)⟩
        exact List.forall_mem_cons.mpr ⟨hI1, List.forall_mem_cons.mpr ⟨hI2, List.forall_mem_cons.mpr ⟨hI3, List.forall_mem_cons.mpr ⟨hI4, List.forall_mem_cons.mpr ⟨hI5, List.forall_mem_cons.mpr ⟨hI6, updG_all (P := fun b => b ≠ I) hI8⟩⟩⟩⟩⟩⟩
      | none =>
        refine' kob_setdef_new (k := lit) ?F ?NB ?U hdo lo1 (intKind_is _ _ _ _) (PySem.F.args_dict_setdefault_3 _ _ _) hval hksz ?_
        case F => k_asm
        case NB => k_asm
        case U => k_updF
        intro h9 o9 F9 N9 hd9
        (repeat' (walk_at "go"))
        (repeat' (walk_at "go")); (try dsimp only)
        rename News _ _ _ _ => N9
        have hDn : D9 ∈ ps ∨ SH.get? D9 = none := by
          by_cases hDp : D9 ∈ ps
          · exact .inl hDp
          · refine .inr (gno D9 (N9 _ (.head _)).2.2 ?_)
            simp only [List.mem_append, List.mem_cons, List.not_mem_nil, or_false, not_or]
            exact ⟨⟨Nat.ne_of_gt e2, Nat.ne_of_gt e3, Nat.ne_of_gt e4, Nat.ne_of_gt e5, Nat.ne_of_gt e6, Nat.ne_of_gt e7⟩, hDp⟩
        refine turn_next (by k_asm) (news_rot7 N9) ?_ ⟨_, _, _, rfl, ovr_set ovr_ovr rfl, hd9, hPl.new hval (fun q hq => Nat.ne_of_lt (allLt_mem hD9 hq)) hf1 hf2, Nat.le_trans stored_length (by omega), List.forall_mem_cons.mpr ⟨hDn, hTt⟩, List.forall_mem_cons.mpr ⟨(Mine.mkE2 _ _ rfl), hLs⟩⟩
        exact List.forall_mem_cons.mpr ⟨hI1, List.forall_mem_cons.mpr ⟨hI2, List.forall_mem_cons.mpr ⟨hI3, List.forall_mem_cons.mpr ⟨hI4, List.forall_mem_cons.mpr ⟨hI5, List.forall_mem_cons.mpr ⟨hI6, List.forall_mem_cons.mpr ⟨Nat.ne_of_gt e1, hI8⟩⟩⟩⟩⟩⟩⟩
    case done1 =>
      intro m9 nx9 h9 tk9 hjo4 F9 N9
      walk_at "hideG"
      obtain ⟨op', kvp', tl, rfl, hmm, hdo, hPl, hle, hTt, hLs⟩ := hjo4
      walk_at "showG"
      rw [ovr_eq hmm] at F9
      have hx1 := hxe _ _ szdx (hoffps _ (by walk_at "sim")) tl hTt
      have hx2 := hxe _ _ szcl (hoffps _ (by walk_at "sim")) tl hTt
      have hx3 := hxe _ _ szpl (hoffps _ (by walk_at "sim")) tl hTt
      have hx4 := hxe _ _ szhe (hoffps _ (by walk_at "sim")) tl hTt
      have hx5 := hxe _ _ szop (hoffps _ (by walk_at "sim")) tl hTt
      have hx6 := hxe _ _ szbe (hoffps _ (by walk_at "sim")) tl hTt
      have hnt := hPl.nd
      have fin : ∀ (h : Heap) (te' : Tok) (n1 n2 n3 n4 : Nat) (u1 u2 : Tok) (abe' : List Addr), (∀ b o, g.get? b = some o → h.get? b = some o) → h.get? a.dx = some (dictOf (stEs hs ts a (.int (emptyOf (cs ++ [c])) te') (.ref kc)) nd) → h.get? a.cl = some (W.listOf (acl.map Value.ref ++ [Value.ref x]).toArray n1) →
          h.get? a.he = some (W.listOf (vhe ++ [Value.int 0 u1]).toArray n2) → h.get? a.op = some (W.listOf (vop ++ [Value.int (vc.length : Int) u2]).toArray n3) → h.get? a.pl = some op' → h.get? a.be = some (W.listOf (abe'.map Value.ref).toArray n4) → abe'.length = (begunOf (cs ++ [c])).length →
          (∀ (i : Nat) x q, abe'[i]? = some x → (begunOf (cs ++ [c]))[i]? = some q → PairAt h x q) → (∀ q ∈ tl, h.get? q.1 = some q.2) → ∃ ps', StepsAt w h a ps' (cs ++ [c]) [] ck ∧ StOk a ps' ∧ ∀ p ∈ ps', p ∈ ps ∨ SH.get? p = none := by
        intro h te' n1 n2 n3 n4 u1 u2 abe' hk d1 d2 d3 d4 d5 d6 d7 d8 d9
        have htk : c.take vc.toArray.size = c := List.take_of_length_le (by rw [List.size_toArray, ic.length]; exact Nat.le_refl _)
        have hcl5 : c.length ≤ 5 := clause_len hcok
        have hsz : vc.toArray.size = c.length := by rw [List.size_toArray, ic.length]
        refine (Mine.mkE1A2 (tl.map (·.1)) ⟨hk _ _ gx, (Mine.mkE2A1 te' kc (Mine.mkE3 hs ts nd d1) (gck.keeps hk)), (Mine.mkE2A2 (acl ++ [x]) n1 (by rw [List.map_append]; exact d2) (by simp [lcl]) (fun i y d h1 h2 => ?_)), (Mine.mkE2 op' kvp' ⟨d5, hdo, fun k v e => ?_, fun k e => ?_, hPl.inj, ?_, fun p hp => ?_⟩), (Mine.mkE2A1 _ n2 d3 ?_), (Mine.mkE2A1 _ n3 d4 ?_), (Mine.mkE2A2 abe' n4 d6 d7 d8), (Mine.mkE1A1 ot (hk _ _ gta) hto), (fun q hq => nomatch hq), (Mine.mkE2A1 vtr ntr (hk _ _ gtr) itr)⟩ ⟨?_, O.lo1, O.lo2⟩ (fun p hp => ?_))
        · by_cases hi : i < acl.length
          · rw [List.getElem?_append_left hi] at h1
            rw [List.getElem?_append_left (lcl ▸ hi)] at h2
            exact (gcl i y d h1 h2).keeps hk
          · rw [List.getElem?_append_right (by omega)] at h1
            rw [List.getElem?_append_right (by omega), ← lcl] at h2
            have : i - acl.length = 0 := by
              have := (List.getElem?_eq_some_iff.mp h1).1; simp at this; omega
            rw [this] at h1 h2
            cases h1; cases h2
            exact (Mine.mkE2A1 vc nc (hk _ _ gxo) ic)
        · (refine Mine.exE3A2 (hPl.found k v e) ?_; intro p vs n hsb89 hm hi; subst hsb89)
          refine ⟨p, ⟨rfl, List.mem_map.mpr (Mine.mkE1A1 _ hm rfl), (Mine.mkE2A1 vs n (d9 _ hm) ?_)⟩⟩
          rw [htk] at hi
          rw [idxOf_snoc]; exact hi
        · have := hPl.lack k e
          rw [htk] at this
          rw [idxOf_snoc]; exact this
        · rw [List.length_append, List.length_singleton]; omega
        · (refine Mine.exE1A1 (List.mem_map.mp hp) ?_; intro q hq hsb90; subst hsb90)
          (refine Mine.exE2 (hLs q hq) ?_; intro vs n e)
          exact (Mine.mkE2 vs n (by rw [d9 q hq, e]))
        · rw [List.map_append]
          exact ihe.append (by show IntsAre _ [heldOf (keysOf []) c]; have : heldOf (keysOf []) c = 0 := by unfold heldOf keysOf; simp
                               rw [this]; exact .cons _ _ .nil)
        · rw [List.map_append]
          exact iop.append (by show IntsAre _ [openOf (keysOf []) c]; have : openOf (keysOf []) c = (vc.length : Int) := by unfold openOf keysOf; rw [ic.length, List.filter_eq_self.mpr (by walk_at "sim")]
                               rw [this]; exact .cons _ _ .nil)
        · refine List.nodup_append.mpr ⟨(List.nodup_append.mp O.nd).1, hPl.nd, fun b hb p hp e => ?_⟩
          (refine Mine.exE1A1 (List.mem_map.mp hp) ?_; intro q hq hsb91; subst hsb91)
          have hbp := hoffps b hb
          (refine Mine.exE1 (show ∃ o, SH.get? b = some o from by
            simp only [List.mem_cons, List.not_mem_nil, or_false] at hb
            rcases hb with rfl | rfl | rfl | rfl | rfl | rfl | rfl | rfl | rfl <;> exact ⟨_, by assumption⟩) ?_; intro o ho)
          exact hxe b o ho hbp tl hTt q hq e.symm
        · (refine Mine.exE1A1 (List.mem_map.mp hp) ?_; intro q hq hsb92; subst hsb92)
          exact hTt q hq
      have zc2 : vc.length ≤ 100000 := by rw [ic.length]; have := clause_len hcok; omega
      have zc3 : vhe.length ≤ 100000 := by rw [ihe.length]; simp; omega
      have zc4 : vop.length ≤ 100000 := by rw [iop.length]; simp; omega
      have zc5 : (abe.map Value.ref).length ≤ 100000 := by
        rw [List.length_map, lbe]
        have : (begunOf cs).length ≤ cs.length := by unfold begunOf; rw [List.length_map]; exact Nat.le_trans (List.length_filter_le _ _) (by walk_at "sim")
        omega
      (repeat' (walk_at "go")); (try dsimp only)
      (repeat' (walk_at "go"))
      by_cases h0 : c.length = 0
      · have h0' : c = [] := List.eq_nil_of_length_eq_zero h0
        rw [if_pos (by simp [ic.length, h0])]
        (repeat' (walk_at "go"))
        (repeat' (walk_at "go")); (try dsimp only)
        rename News _ _ _ _ => N8
        rename Fr _ _ _ _ => F8
        refine retR F8 ⟨rfl, fin _ _ _ _ _ _ _ _ abe F8.keep (by rw [emptyOf_snoc, if_pos h0']; exact News.get N8 (by k_mem)) (News.get N8 (by k_mem)) (News.get N8 (by k_mem)) (News.get N8 (by k_mem)) (News.get N8 (by k_mem)) (News.get N8 (by k_mem)) ?_ ?_ ?_⟩
        · rw [begunOf_snoc, if_neg (by omega), List.append_nil]; exact lbe
        · rw [begunOf_snoc, if_neg (by omega), List.append_nil]; exact fun i x q h1 h2 => (gbe i x q h1 h2).keeps F8.keep
        · exact fun q hq => (N8 q ((by walk_at "sub" : ∀ p ∈ _, p ∈ _) _ hq)).1
      · rw [if_neg (by simp [ic.length, h0])]
        have h0' : ¬ c = [] := fun e => h0 (by rw [e]; rfl)
        (repeat' (walk_at "go"))
        by_cases h1 : c.length = 1
        · rw [if_pos (by simp [ic.length, h1])]
          have hk1 : (0 : Int) < (c.length : Int) := by omega
          have hk2 : c.length ≤ 1000 := by omega
          (repeat' (walk_at "go"))
          (repeat' (walk_at "go")); (try dsimp only)
          rename News _ _ _ _ => N8
          rename Fr _ _ _ _ => F8
          rename _ ∧ _ => hK9
          (refine Mine.exE1 (List.length_eq_one_iff.mp h1) ?_; intro y hsb93; subst hsb93)
          have hb9 : begunOf (cs ++ [[y]]) = begunOf cs ++ [(y, (cs.length : Int))] := by rw [begunOf_snoc]; rfl
          refine retR F8 ⟨rfl, fin _ _ _ _ _ _ _ _ (abe ++ [_]) F8.keep (by rw [emptyOf_snoc, if_neg h0']; exact News.get N8 (by k_mem)) (News.get N8 (by k_mem)) (News.get N8 (by k_mem)) (News.get N8 (by k_mem)) (News.get N8 (by k_mem)) (by rw [List.map_append]; exact News.get N8 (by k_mem)) ?_ ?_ ?_⟩
          · rw [hb9, List.length_append, List.length_append, lbe]; rfl
          · rw [hb9]
            intro i x q h1 h2
            by_cases hi : i < abe.length
            · rw [List.getElem?_append_left hi] at h1
              rw [List.getElem?_append_left (lbe ▸ hi)] at h2
              exact (gbe i x q h1 h2).keeps F8.keep
            · rw [List.getElem?_append_right (by omega)] at h1
              rw [List.getElem?_append_right (by omega), ← lbe] at h2
              have : i - abe.length = 0 := by
                have := (List.getElem?_eq_some_iff.mp h1).1; simp at this; omega
              rw [this] at h1 h2
              cases h1; cases h2
              exact (Mine.mkE3 _ _ _ ((N8 _ (.head _)).1))
          · exact fun q hq => (N8 q ((by walk_at "sub" : ∀ p ∈ _, p ∈ _) _ hq)).1
        · rw [if_neg (by simp [ic.length]; omega)]
          (repeat' (walk_at "go"))
          (repeat' (walk_at "go")); (try dsimp only)
          rename News _ _ _ _ => N8
          rename Fr _ _ _ _ => F8
          refine retR F8 ⟨rfl, fin _ _ _ _ _ _ _ _ abe F8.keep (by rw [emptyOf_snoc, if_neg h0']; exact News.get N8 (by k_mem)) (News.get N8 (by k_mem)) (News.get N8 (by k_mem)) (News.get N8 (by k_mem)) (News.get N8 (by k_mem)) (News.get N8 (by k_mem)) ?_ ?_ ?_⟩
          · rw [begunOf_snoc, if_neg (by omega), List.append_nil]; exact lbe
          · rw [begunOf_snoc, if_neg (by omega), List.append_nil]; exact fun i x q h1 h2 => (gbe i x q h1 h2).keeps F8.keep
          · exact fun q hq => (N8 q ((by walk_at "sub" : ∀ p ∈ _, p ∈ _) _ hq)).1
end

/-! part M11 -/
set_option maxHeartbeats 4000000


theorem Cx.room {w : World} {mg mb : Str → Option Value} {n : Nat} {A : Around} {h₀ : Heap} {L : Addr} (C : Cx w mg mb n A h₀ L) : A.units + 64 < cLine := by
  have := C.un; unfold cLine; omega
section
variable {prog : Program} {w : World} {A : Around} {E : Value → Shared → Prop} {s : Shared} {h₀ : Heap} {L : Addr} {m : Str → Option Value} {news : List (Addr × Obj)}
theorem ne_lists {a b : Addr} {xs ys : List Value} {n n' : Nat} {ns ms : List Int} {Q : Value → Shared → Prop} (ha : s.heap.get? a = some (W.listOf xs.toArray n)) (hb : s.heap.get? b = some (W.listOf ys.toArray n')) (hi : IntsAre xs ns) (hj : IntsAre ys ms) (hu : A.units + 64 < cLine)
    (h : Q (.bool (!decide (ns = ms))) s) : wpAny (model prog w) A (compareOp .NotEq (.ref a) (.ref b)) Q E s := ke_ne_ints (Mine.mkE1A2E1 _ ha rfl _ rfl) (Mine.mkE1A2E1 _ hb rfl _ rfl) hi hj hu h
theorem eq_lists {a b : Addr} {xs ys : List Value} {n n' : Nat} {ns ms : List Int} {Q : Value → Shared → Prop} (ha : s.heap.get? a = some (W.listOf xs.toArray n)) (hb : s.heap.get? b = some (W.listOf ys.toArray n')) (hi : IntsAre xs ns) (hj : IntsAre ys ms) (hu : A.units + 64 < cLine)
    (h : Q (.bool (decide (ns = ms))) s) : wpAny (model prog w) A (compareOp .Eq (.ref a) (.ref b)) Q E s := ke_eq_ints (Mine.mkE1A2E1 _ ha rfl _ rfl) (Mine.mkE1A2E1 _ hb rfl _ rfl) hi hj hu h
theorem pop_int {D : Addr} {n : Nat} {us : List Value} {T0 : List Int} {l : Int} {news' : List (Addr × Obj)} {Q : Value → Shared → Prop} (F : Fr h₀ L s.heap m) (N : News h₀ L s.heap news) (U : Upd D (W.listOf us.toArray n) (W.listOf us.dropLast.toArray (n + 1)) news news') (hi : IntsAre us (T0 ++ [l]))
    (hz : T0.length ≤ 100000) (h : ∀ h' t, Fr h₀ L h' m → News h₀ L h' news' → IntsAre us.dropLast T0 → Q (.int l t) { s with heap := h' }) : wpAny (model prog w) A (call (.builtin "list.pop") [.ref D]) Q E s := by
  have hl := hi.length
  rw [List.length_append, List.length_singleton] at hl
  refine kpa_pop F N U hi (by omega) (by rw [sizeLine_eq]; omega) fun h' t F' N' hi' => ?_
  rw [List.dropLast_concat] at hi'
  have e : (T0 ++ [l]).getLastD 0 = l := by simp
  rw [e]
  exact h h' t F' N' hi'
end
set_option hygiene false in
local macro_rules
| `(tactic| walk_at "compareOp NotEq ref ref") => `(tactic| ((with_reducible show wpAny _ _ (compareOp CmpOp.NotEq (Value.ref _) (Value.ref _)) _ _ _); k_dflt (refine Mine.ne_lists (by walk_at "at") (by walk_at "at") (by first | assumption | exact .nil) (by first | exact .nil | assumption) (by exact Mine.Cx.room (by assumption)) ?_)))
local macro_rules
| `(tactic| walk_at "call builtin:list.pop") => `(tactic| ((with_reducible show wpAny _ _ (call (Value.builtin "list.pop") [Value.ref _]) _ _ _); k_dflt (refine Mine.pop_int (by k_asm) (by k_asm) (by k_upd) (by assumption) (by walk_at "fact") ?_); intro h' t' F' N' i'))
local macro_rules
| `(tactic| walk_at "delItem ref int") => `(tactic| (k_dflt (refine kob_del (knd := PySem.intKind _ _) (by k_asm) (by k_asm) (by k_updF) (by assumption) (intKind_is _ _ _ _) (by assumption) (by assumption) ?_); intro h' o' F' N' hd'))

theorem eq_nil_or_snoc (kvs : List (Int × Value)) : kvs = [] ∨ ∃ kvs0 l v, kvs = kvs0 ++ [(l, v)] := by
  rcases List.eq_nil_or_concat kvs with h | ⟨kvs0, ⟨l, v⟩, h⟩
  · exact .inl h
  · exact .inr (Mine.mkE3 kvs0 l v (by rw [h]; simp))
theorem without_snoc {kvs : List (Int × Value)} {l : Int} {v : Value} (h : ((kvs ++ [(l, v)]).map (·.1)).Nodup) : without (kvs ++ [(l, v)]) l = kvs := by
  unfold without
  rw [List.map_append, List.nodup_append] at h
  rw [List.filter_append, List.filter_eq_self.mpr (fun q hq => by
    have := h.2.2 q.1 (List.mem_map.mpr (Mine.mkE1A1 q hq rfl)) l (by walk_at "sim")
    simpa using this)]
  simp

section
variable {w : World} {mg mb : Str → Option Value} {n : Nat} {A : Around} {h₀ : Heap} {L : Addr} {m : Str → Option Value} {s : Shared} {E : Value → Shared → Prop} {Q : Value → Shared → Prop}

theorem undo_spec {a : StA} {ps : List Addr} {cs : List (List Int)} {kvs : List (Int × Value)} {ck : Int × Int} (C : Cx w mg mb (n + 1) A h₀ L) (F : Fr h₀ L s.heap m)
    (S : StepsAt w s.heap a ps cs kvs ck) (O : StOk a ps) (hmut : ∀ b ∈ [a.he, a.op, a.ta, a.tr], h₀.get? b = none ∧ b ≠ L) (hcok : ∀ c ∈ cs, ClauseOk c) (hlc : cs.length ≤ 900) (hlk : kvs.length ≤ 900)
    (hQ : ∀ h' tk, StepsAt w h' a ps cs [] ck → Kp [a.he, a.op, a.ta, a.tr] s.heap h' → Fr h₀ L h' m → Q .none { s with heap := h', toks := tk }) :
    wpAny (model PP w) A (call (.ref 59) [.ref a.x]) Q E s := by
  refine' callR (binds := [(Str.ofString "self", .ref a.x)]) (R := fun v h' => v = .none ∧ StepsAt w h' a ps cs [] ck) [a.he, a.op, a.ta, a.tr] C F hmut ?ho ?hcd ?hb ?hl ?h ?hQ ?hcell ?c1 ?c2 ?c3
  case ho => exact rfl
  case hcd => exact rfl
  case hb => exact BindsTo.of_eq rfl
  case hl => exact locs rfl
  case hcell => decide
  case c1 => rfl
  case c2 => rfl
  case c3 => rfl
  case hQ =>
    rintro v h' tk ⟨rfl, h1⟩ hk' F'
    exact hQ _ _ h1 hk' F'
  case h =>
    intro g L' h₁ hg hL' C' F' hk₁
    walk_at "hideG"
    (refine Mine.exE2A1 S.dx ?_; intro tte kc hnst94 hck; obtain ⟨hs, ts, nd, hdx⟩ := hnst94)
    (refine Mine.exE2A6 S.pl ?_; intro okp kvp hop hdp hp1 hp2 hp3 hp4 hp5)
    (refine Mine.exE2A1 S.he ?_; intro vhe nhe hhe ihe)
    (refine Mine.exE2A1 S.op ?_; intro vop nop hopn iop)
    (refine Mine.exE2A1 S.tr ?_; intro vtr ntr htr itr)
    (refine Mine.exE1A1 S.ta ?_; intro ot hot hto)
    obtain ⟨n01, n02, n03, n04, n05, n06, n07, n08, n09, n12, n13, n14, n15, n16, n17, n18, n19, n23, n24, n25, n26, n27, n28, n29, n34, n35, n36, n37, n38, n39, n45, n46, n47, n48, n49, n56, n57, n58, n59, n67, n68, n69, n78, n79, n89, n99⟩ := O.ne
    walk_at "showG"
    have gk := gkOf hg
    have gkT := gkTOf gk ((((NoTup.nil.lst htr).isd hot hto).lst hopn).lst hhe)
    have psq : ∀ p ∈ ps, p ∉ [a.he, a.op, a.ta, a.tr] := fun p hp => nmc (fun e => n49 (e ▸ hp)) (nmc (fun e => n59 (e ▸ hp)) (nmc (fun e => n79 (e ▸ hp)) (nmc (fun e => n89 (e ▸ hp)) nm0)))
    have gx := gk _ _ (Mine.nmc n04 (Mine.nmc n05 (Mine.nmc n07 (Mine.nmc n08 Mine.nm0)))) S.x
    have gdx := gk _ _ (Mine.nmc n14 (Mine.nmc n15 (Mine.nmc n17 (Mine.nmc n18 Mine.nm0)))) hdx
    have gcl : ClausesAt g a.cl cs := by
      (refine Mine.exE2A2 S.cl ?_; intro as na e l f)
      refine (Mine.mkE2A2 as na (gk _ _ (Mine.nmc n24 (Mine.nmc n25 (Mine.nmc n27 (Mine.nmc n28 Mine.nm0)))) e) l (fun i x c h1 h2 => ?_))
      (refine Mine.exE2A1 (f i x c h1 h2) ?_; intro vs n e hi)
      exact (Mine.mkE2A1 vs n (gkT _ _ _ e) hi)
    have gpl := gk _ _ (Mine.nmc n34 (Mine.nmc n35 (Mine.nmc n37 (Mine.nmc n38 Mine.nm0)))) hop
    have gp1 : ∀ k v, valueAt kvp k = some v → ∃ p, v = .ref p ∧ p ∈ ps ∧ ListInts g p (idxOf cs k) := by
      intro k v e
      walk_at "hideG"
      (refine Mine.exE1A2E2A1 (hp1 k v e) ?_; intro p hsb95 hp vs n e' hi; subst hsb95)
      walk_at "showG"
      exact ⟨p, ⟨rfl, hp, (Mine.mkE2A1 vs n (gk _ _ (psq p hp) e') hi)⟩⟩
    have gp5 : ∀ p ∈ ps, ∃ vs n, g.get? p = some (W.listOf (List.toArray vs) n) := by
      intro p hp
      (refine Mine.exE2 (hp5 p hp) ?_; intro vs n e')
      exact (Mine.mkE2 vs n (gk _ _ (psq p hp) e'))
    have gbe : PairsAt g a.be (begunOf cs) := by
      (refine Mine.exE2A2 S.be ?_; intro as na e l f)
      refine (Mine.mkE2A2 as na (gk _ _ (Mine.nmc (fun e => n46 e.symm) (Mine.nmc (fun e => n56 e.symm) (Mine.nmc n67 (Mine.nmc n68 Mine.nm0)))) e) l (fun i x c h1 h2 => ?_))
      (refine Mine.exE3 (f i x c h1 h2) ?_; intro t u n e)
      exact (Mine.mkE3 t u n (gkT _ _ _ e))
    have gck : PairAt g kc ck := by (refine Mine.exE3 hck ?_; (try clear hck); intro t u n e); exact (Mine.mkE3 t u n (gkT _ _ _ e))
    have N : News g L' h₁ [(a.he, W.listOf vhe.toArray nhe), (a.op, W.listOf vop.toArray nop), (a.ta, ot), (a.tr, W.listOf vtr.toArray ntr)] := by
      rw [hg, hL']
      exact List.forall_mem_cons.mpr ⟨news_of hhe (by walk_at "sim") hk₁, List.forall_mem_cons.mpr ⟨news_of hopn (by walk_at "sim") hk₁, List.forall_mem_cons.mpr ⟨news_of hot (by walk_at "sim") hk₁,
        List.forall_mem_cons.mpr ⟨news_of htr (by walk_at "sim") hk₁, by simp⟩⟩⟩⟩
    have X := C'.G.X
    have T := C'.G.T
    have hh := C'.hh
    have lo1 := O.lo1
    have lo2 := O.lo2
    have hL1 : @LT.lt Nat _ L' h₁.objs.size := F'.ns.lt
    clear hk₁ hdx hck hop hp1 hhe hopn htr hot gk gkT hp5
    (repeat' (walk_at "go"))
    rename News _ _ _ _ => N1
    rename Fr _ _ _ _ => F1
    (refine Mine.exE1A1 (Fr.gen F1) ?_; intro m0 hm0 F2)
    have ms : m0 (Str.ofString "self") = some (.ref a.x) := by rw [hm0]; rfl
    clear F1 hm0
    refine' While_inv2 (n₀ := kvs.length) (fun k m nx => ∃ kvs' vhe nhe vop nop ot vtr ntr, k = kvs'.length ∧ nx = [(a.he, W.listOf (List.toArray vhe) nhe), (a.op, W.listOf (List.toArray vop) nop), (a.ta, ot), (a.tr, W.listOf (List.toArray vtr) ntr)] ∧
      (∀ y, [Str.ofString "literal", Str.ofString "number"].contains y = false → m y = m0 y) ∧ ot.IsDictOf (intKind PP w) kvs' ∧ IntsAre vhe (cs.map (heldOf (keysOf kvs'))) ∧ IntsAre vop (cs.map (openOf (keysOf kvs'))) ∧ IntsAre vtr (keysOf kvs') ∧ kvs'.length ≤ 900) ?wF ?wN ?wJ ?turn ?wE
    case wF => exact F2
    case wN => exact N1
    case wJ => exact (Mine.mkE8 _ _ _ _ _ _ _ _ ⟨rfl, rfl, ovr_refl, hto, ihe, iop, itr, hlk⟩)
    case wE => passes_own
    case turn =>
      intro k m1 nx h2 tk2 F3 N3 hjo7
      walk_at "hideG"
      (refine Mine.exE8 hjo7 ?_; (try clear hjo7); intro kvs' vhe nhe vop nop ot vtr ntr hrun98; refine Mine.exA7 hrun98 ?_; clear hrun98; intro hsb96 hsb97 hmm hto ihe iop itr hlk; subst hsb96; subst hsb97)
      walk_at "showG"
      rw [ovr_eq hmm] at F3
      have hnd : (kvs'.map (·.1)).Nodup := by (refine Mine.exE2 hto ?_; (try clear hto); intro es ep hrun99; refine Mine.exA4 hrun99 ?_; clear hrun99; intro _ _ _ _ h); exact h
      (repeat' (walk_at "go"))
      rename News _ _ _ _ => N4
      rcases eq_nil_or_snoc kvs' with rfl | ⟨kvs0, l, v, rfl⟩
      · rw [if_neg (by simp [keysOf])]
        (repeat' (walk_at "go"))
        (repeat' (walk_at "go")); (try dsimp only)
        rename Fr _ _ _ _ => F8
        rename News _ _ _ _ => N8
        refine retR F8 ⟨rfl, ⟨F8.keep _ _ gx, (Mine.mkE2A1 tte kc (Mine.mkE3 hs ts nd (F8.keep _ _ gdx)) (gck.keeps F8.keep)), gcl.keeps F8.keep, (Mine.mkE2 okp kvp ⟨F8.keep _ _ gpl, hdp, fun k v e => ?_, hp2, hp3, hp4, fun p hp => ?_⟩), (Mine.mkE2A1 vhe nhe (News.get N8 (by k_mem)) ihe),
          (Mine.mkE2A1 vop nop (News.get N8 (by k_mem)) iop), gbe.keeps F8.keep, (Mine.mkE1A1 ot (News.get N8 (by k_mem)) hto), (fun q hq => nomatch hq), (Mine.mkE2A1 vtr ntr (News.get N8 (by k_mem)) itr)⟩⟩
        · (refine Mine.exE1A2E2A1 (gp1 k v e) ?_; intro p hsb100 hp vs n e' hi; subst hsb100)
          exact ⟨p, ⟨rfl, hp, (Mine.mkE2A1 vs n (F8.keep _ _ e') hi)⟩⟩
        · (refine Mine.exE2 (gp5 p hp) ?_; intro vs n e')
          exact (Mine.mkE2 vs n (F8.keep _ _ e'))
      · have hkk : keysOf (kvs0 ++ [(l, v)]) = keysOf kvs0 ++ [l] := by simp [keysOf]
        rw [if_pos (by rw [hkk]; simp)]
        have hw0 := without_snoc hnd
        have hl1 : l ∉ keysOf kvs0 := by
          have hnd' : (keysOf (kvs0 ++ [(l, v)])).Nodup := hnd
          rw [hkk] at hnd'
          exact fun h => (List.nodup_append.mp hnd').2.2 l h l (by walk_at "sim") rfl
        have hvl : (valueAt (kvs0 ++ [(l, v)]) l).isSome = true := by rw [valueAt_isSome, hkk]; simp
        have hlk' : kvs0.length + 1 ≤ 900 := by simpa using hlk
        have hsz : (kvs0 ++ [(l, v)]).length ≤ sizeLine := by rw [sizeLine_eq]; simp; omega
        have hz0 : (keysOf kvs0).length ≤ 100000 := by simp [keysOf]; omega
        rw [hkk] at ihe iop itr
        clear hkk
        have N5 : News g L' _ _ := fun p hp => N4 p (.tail _ hp)
        clear N4
        (repeat' (walk_at "go"))
        rw [hw0] at *
        rename Obj.IsDictOf _ _ kvs0 => hto0
        rename IntsAre _ (keysOf kvs0) => itr0
        rename News _ _ _ _ => N6
        rename Fr _ _ _ _ => F6
        rename _ ∧ _ => hlt6
        generalize hT : keysOf kvs0 = T0 at *
        rename_i te h6
        (refine Mine.exE1A1 (show ∃ o', o' = _ ∧ Obj.IsDictOf (intKind PP w) o' kvs0 from (Mine.mkE1A1 _ rfl hto0)) ?_; intro o' ho'e hto0)
        rw [← ho'e] at N6
        clear ho'e
        (refine Mine.exE4A4 (place_src (h := h6) l gp1 hp2 (News.get N6 (.head _)) F6.keep) ?_; intro T1 l1 vs1 nn1 e1 hT1 ho1 hi1 hw1)
        rw [e1]
        have hteL : te ≠ L' := (N6 _ (.head _)).2.1
        (refine Mine.exE1A1 (Fr.gen F6) ?_; intro m2 hm2 F7)
        have ms2 : m2 (Str.ofString "self") = some (.ref a.x) := by rw [hm2]; exact ms
        have ml2 : ∃ tl, m2 (Str.ofString "literal") = some (.int l tl) := ⟨_, by rw [hm2]; rfl⟩
        (refine Mine.exE1 ml2 ?_; (try clear ml2); intro tl ml2)
        have mm2 : ∀ y, [Str.ofString "literal", Str.ofString "number"].contains y = false → m2 y = m0 y := by rw [hm2]; exact ovr_set ovr_ovr rfl
        clear F6 hm2
        refine' for_seq hT1 ho1 (fun i => ListJ1 (te, { cls := .type "tuple", data := .seq #[] }) a.he [(a.op, W.listOf vop.toArray nop), (a.ta, o'), (a.tr, W.listOf vtr.dropLast.toArray (ntr + 1))] [Str.ofString "number"] m2 (mixL ((idxOf cs l).take i) (heldOf T0) (heldOf (T0 ++ [l])) cs)) hh ?F1 ?N1 ?j1 ?wh1 ?turn1 ?done1 ?x1 ?p1
        case F1 => exact F7
        case N1 => exact N6
        case x1 => rfl
        case p1 => rfl
        case j1 => exact ⟨_, _, rfl, ovr_refl, by rw [List.take_zero, mixL_nil]; exact ihe⟩
        case wh1 =>
          rcases hw1 with h | h
          · exact .inl h
          · exact .inr (Mine.mkA1E1 (h ▸ hteL) _ (by rintro i m nx ⟨_, _, rfl, _⟩; rw [h]; exact .head _))
        case turn1 =>
          intro i v m1 nx h tk' I oI hv hjo9 hnI F3 N3
          walk_at "hideG"
          obtain ⟨vs', no', rfl, hmm, hvs⟩ := hjo9
          rw [ovr_eq hmm] at F3
          (refine Mine.exE2A1 (hi1.at _ _ (by simpa using hv)) ?_; intro nu tn hsb101 hnu; subst hsb101)
          (refine Mine.exA1E1A1 (mem_idxOf.mp (List.mem_of_getElem? hnu)) ?_; intro hn0 c hc hlc')
          walk_at "showG"
          have hnl := (List.getElem?_eq_some_iff.mp hc).1
          have hni : nu ∉ (idxOf cs l).take i := not_mem_take (idxOf_nodup _ _) hnu
          have hI1 : @Ne Nat te I := hnI _ (.head _)
          have hI2 : @Ne Nat a.he I := hnI _ (.tail _ (.head _))
          have hI3 : @Ne Nat a.op I := hnI _ (.tail _ (.tail _ (.head _)))
          have hI4 : @Ne Nat a.ta I := hnI _ (.tail _ (.tail _ (.tail _ (.head _))))
          have hI5 : @Ne Nat a.tr I := hnI _ (.tail _ (.tail _ (.tail _ (.tail _ (.head _)))))
          (repeat' (walk_at "go"))
          rename IntsAre _ (List.set _ _ _) => hset
          (repeat' (walk_at "go")); (try dsimp only)
          refine turn_next (by k_asm) (by k_asm) (Mine.fac hI1 (Mine.fac hI2 (Mine.fac hI3 (Mine.fac hI4 (Mine.fac hI5 Mine.fa0))))) ⟨_, _, rfl, ovr_set ovr_ovr rfl, ?_⟩
          rw [mixL_getD hn0 hc, if_neg hni, heldOf_in (hcok c (List.mem_of_getElem? hc)).nodup hlc' hl1, Int.add_sub_cancel, mixL_set hn0 hc] at hset
          rw [List.take_add_one, hnu]
          exact hset
        case done1 =>
          intro m9 nx9 h9 tk9 hjo4 F9 N9
          walk_at "hideG"
          obtain ⟨vs9, no9, rfl, hmm, hvs⟩ := hjo4
          walk_at "showG"
          rw [ovr_eq hmm] at F9
          rw [mixL_take_all hi1 fun c _ hc => (heldOf_out hc).symm] at hvs
          have N10 : News g L' h9 [(a.he, W.listOf vs9.toArray no9), (a.op, W.listOf vop.toArray nop), (a.ta, o'), (a.tr, W.listOf vtr.dropLast.toArray (ntr + 1))] := fun p hp => N9 p (.tail _ hp)
          clear N9
          (repeat' (walk_at "go")); (try dsimp only)
          (repeat' (walk_at "go"))
          rename News _ _ _ _ => N5
          rename Fr _ _ _ _ => F5
          rename _ ∧ _ => hlt5
          rename_i te2 h5
          (refine Mine.exE4A4 (place_src (h := h5) (-l) gp1 hp2 (News.get N5 (.head _)) F5.keep) ?_; intro T2 l2 vs2 nn2 e2 hT2 ho2 hi2 hw2)
          have hteL2 : te2 ≠ L' := (N5 _ (.head _)).2.1
          rw [e2]
          refine' for_seq hT2 ho2 (fun i => ListJ2 (te2, { cls := .type "tuple", data := .seq #[] }) (a.he, W.listOf vs9.toArray no9) a.op [(a.ta, o'), (a.tr, W.listOf vtr.dropLast.toArray (ntr + 1))] [Str.ofString "number"] m2 (mixL ((idxOf cs (-l)).take i) (openOf T0) (openOf (T0 ++ [l])) cs)) hh ?F2 ?N2 ?j2 ?wh2 ?turn2 ?done2 ?x2 ?p2
          case F2 => exact F5
          case N2 => exact N5
          case x2 => rfl
          case p2 => rfl
          case j2 => exact ⟨_, _, rfl, ovr_ovr, by rw [List.take_zero, mixL_nil]; exact iop⟩
          case wh2 =>
            rcases hw2 with h | h
            · exact .inl h
            · exact .inr (Mine.mkA1E1 (h ▸ hteL2) _ (by rintro i m nx ⟨_, _, rfl, _⟩; rw [h]; exact .head _))
          case turn2 =>
            intro i v m1 nx h tk' I oI hv hjo9 hnI F3 N3
            walk_at "hideG"
            obtain ⟨vs', no', rfl, hmm, hvs'⟩ := hjo9
            rw [ovr_eq hmm] at F3
            (refine Mine.exE2A1 (hi2.at _ _ (by simpa using hv)) ?_; intro nu tn hsb102 hnu; subst hsb102)
            (refine Mine.exA1E1A1 (mem_idxOf.mp (List.mem_of_getElem? hnu)) ?_; intro hn0 c hc hlc')
            walk_at "showG"
            have hnl := (List.getElem?_eq_some_iff.mp hc).1
            have hni : nu ∉ (idxOf cs (-l)).take i := not_mem_take (idxOf_nodup _ _) hnu
            have hI1 : @Ne Nat te2 I := hnI _ (.head _)
            have hI2 : @Ne Nat a.he I := hnI _ (.tail _ (.head _))
            have hI3 : @Ne Nat a.op I := hnI _ (.tail _ (.tail _ (.head _)))
            have hI4 : @Ne Nat a.ta I := hnI _ (.tail _ (.tail _ (.tail _ (.head _))))
            have hI5 : @Ne Nat a.tr I := hnI _ (.tail _ (.tail _ (.tail _ (.tail _ (.head _)))))
            (repeat' (walk_at "go"))
            rename IntsAre _ (List.set _ _ _) => hset
            (repeat' (walk_at "go")); (try dsimp only)
            refine turn_next (by k_asm) (by k_asm) (Mine.fac hI1 (Mine.fac hI2 (Mine.fac hI3 (Mine.fac hI4 (Mine.fac hI5 Mine.fa0))))) ⟨_, _, rfl, ovr_set ovr_ovr rfl, ?_⟩
            rw [mixL_getD hn0 hc, if_neg hni, openOf_in (hcok c (List.mem_of_getElem? hc)).nodup hlc' hl1, Int.sub_add_cancel, mixL_set hn0 hc] at hset
            rw [List.take_add_one, hnu]
            exact hset
          case done2 =>
            intro m8 nx8 h8 tk8 hjo4 F8 N8
            walk_at "hideG"
            obtain ⟨vs8, no8, rfl, hmm8, hvs8⟩ := hjo4
            walk_at "showG"
            rw [mixL_take_all hi2 fun c _ hc => (openOf_out hc).symm] at hvs8
            (repeat' (walk_at "go")); (try dsimp only)
            (repeat' (walk_at "go"))
            refine (Mine.mkE5 _ _ _ _ kvs0.length ⟨rfl, F8, fun p hp => N8 p (.tail _ hp), by simp, (Mine.mkE8 kvs0 _ _ _ _ _ _ _ ⟨rfl, rfl, fun y hy => ?_, hto0, by rw [hT]; exact hvs, by rw [hT]; exact hvs8, by rw [hT]; exact itr0, by omega⟩)⟩)
            rw [hmm8 y (by revert hy; simp)]
            exact mm2 y hy
end

/-! part M12 -/
set_option maxHeartbeats 4000000

/-- all that is there, beyond the ground, the names and what may change -/
noncomputable def snap (g : Heap) (L : Addr) (h : Heap) (ch : List Addr) : List (Addr × Obj) := (List.range h.objs.size).filterMap fun b => match h.get? b with
  | some o => if (g.get? b).isNone = true ∧ b ≠ L ∧ b ∉ ch then some (b, o) else none
  | none => none

theorem mem_snap {g : Heap} {L : Addr} {h : Heap} {ch : List Addr} {q : Addr × Obj} : q ∈ snap g L h ch ↔ h.get? q.1 = some q.2 ∧ g.get? q.1 = none ∧ q.1 ≠ L ∧ q.1 ∉ ch := by
  unfold snap
  rw [List.mem_filterMap]
  constructor
  · rintro ⟨b, _, e⟩
    cases ho : h.get? b with
    | none => rw [ho] at e; cases e
    | some o =>
      rw [ho] at e
      dsimp only at e
      by_cases hc : (g.get? b).isNone = true ∧ b ≠ L ∧ b ∉ ch
      · rw [if_pos hc] at e; cases e
        exact ⟨ho, Option.isNone_iff_eq_none.mp hc.1, hc.2⟩
      · rw [if_neg hc] at e; cases e
  · rintro ⟨h1, h2, h3⟩
    refine (Mine.mkE1A1 q.1 (List.mem_range.mpr (Heap.lt_size h1)) ?_)
    rw [h1]
    dsimp only
    rw [if_pos ⟨by rw [h2]; rfl, h3⟩]

theorem snap_news {g : Heap} {L : Addr} {h : Heap} {ch : List Addr} : News g L h (snap g L h ch) := fun q hq => by
  (refine Mine.exA3 (mem_snap.mp hq) ?_; intro h1 h2 h3 _)
  exact ⟨h1, h3, h2⟩
theorem snap_keep {g : Heap} {L : Addr} {h h' : Heap} {ch : List Addr} {m : Str → Option Value} (F0 : ∀ b o, g.get? b = some o → h.get? b = some o) (F : Fr g L h' m) (N : News g L h' (snap g L h ch)) : Kp (L :: ch) h h' := fun b o hb e => by
  have hb' : b ≠ L ∧ b ∉ ch := by simpa using hb
  cases hg : g.get? b with
  | none => exact (N _ ((mem_snap (q := (b, o))).mpr ⟨e, hg, hb'⟩)).1
  | some o' =>
    have := F0 _ _ hg
    rw [e] at this; cases this
    exact F.keep _ _ hg
theorem snap_off {g : Heap} {L : Addr} {h : Heap} {ch : List Addr} {b : Addr} (hb : b ∈ ch) : ∀ q ∈ snap g L h ch, q.1 ≠ b := fun q hq e => (mem_snap.mp hq).2.2.2 (e ▸ hb)
theorem snap_offL {g : Heap} {L : Addr} {h : Heap} {ch : List Addr} : ∀ q ∈ snap g L h ch, q.1 ≠ L := fun _ hq => (mem_snap.mp hq).2.2.1
theorem snap_offG {g : Heap} {L : Addr} {h : Heap} {ch : List Addr} {b : Addr} (hb : h.get? b = none) : ∀ q ∈ snap g L h ch, q.1 ≠ b := fun _ hq e => by
  have := (mem_snap.mp hq).1
  rw [e, hb] at this; cases this

theorem Fr.noTup {g h : Heap} {L : Addr} {m : Str → Option Value} (F : Fr g L h m) : NoTup h [L] := NoTup.nil.ns F
theorem StepsAt.kp {w : World} {h h' : Heap} {ch : List Addr} {a : StA} {ps : List Addr} {cs : List (List Int)} {kvs : List (Int × Value)} {ck : Int × Int} (S : StepsAt w h a ps cs kvs ck) (k : Kp ch h h') (H : NoTup h ch)
    (ho : ∀ b ∈ (([a.x, a.dx, a.cl, a.pl, a.he, a.op, a.be, a.ta, a.tr] : List Nat) ++ ps), b ∉ ch) : StepsAt w h' a ps cs kvs ck := by
  have ho' : ∀ b ∈ ([a.x, a.dx, a.cl, a.pl, a.he, a.op, a.be, a.ta, a.tr] : List Nat), b ∉ ch := fun b hb => ho b (List.mem_append_left _ hb)
  refine ⟨k _ _ (ho' _ (by walk_at "sim")) S.x, ?_, S.cl.kp k (ho' _ (by walk_at "sim")) H, S.pl.kp k (ho' _ (by walk_at "sim")) (fun p hp => ho p (List.mem_append_right _ hp)), S.he.kp k (ho' _ (by walk_at "sim")), S.op.kp k (ho' _ (by walk_at "sim")), S.be.kp k (ho' _ (by walk_at "sim")) H, ?_, S.tav, S.tr.kp k (ho' _ (by walk_at "sim"))⟩
  · (refine Mine.exE2A1 S.dx ?_; intro te kc hnst104 p; obtain ⟨hs, ts, n, e⟩ := hnst104)
    refine (Mine.mkE2A1 te kc (Mine.mkE3 hs ts n (k _ _ (ho' _ (by walk_at "sim")) e)) ?_)
    (refine Mine.exE3 p ?_; (try clear p); intro t u n e)
    exact (Mine.mkE3 t u n (k _ _ (H.off e) e))
  · (refine Mine.exE1A1 S.ta ?_; intro o e d)
    exact (Mine.mkE1A1 o (k _ _ (ho' _ (by walk_at "sim")) e) d)

def WhileStepH (h₀ : Heap) (L : Addr) (s : Shared) (J : Nat → (Str → Option Value) → Heap → Prop) (Q : Flow → Shared → Prop) (n : Nat) (f : Flow) (s₃ : Shared) : Prop :=
  match f with
  | .next | .cont => ∃ h' tk m₂ n', s₃ = { s with heap := h', toks := tk } ∧ Fr h₀ L h' m₂ ∧ n' < n ∧ J n' m₂ h'
  | .brk => Q .next s₃
  | .ret v => Q (.ret v) s₃
theorem stepH {h₀ : Heap} {L : Addr} {s : Shared} {J : Nat → (Str → Option Value) → Heap → Prop} {Q : Flow → Shared → Prop} {n n' : Nat} {h' : Heap} {tk : Nat} {m₂ : Str → Option Value} (F : Fr h₀ L h' m₂) (hn : n' < n) (hJ : J n' m₂ h') : WhileStepH h₀ L s J Q n .next { s with heap := h', toks := tk } := (Mine.mkE4 h' tk m₂ n' ⟨rfl, F, hn, hJ⟩)
theorem go_wret {h₀ : Heap} {L : Addr} {J : Nat → (Str → Option Value) → Heap → Prop} {n : Nat} {s s₂ : Shared} {Q Q' : Flow → Shared → Prop} {v : Value} (k : Under (WhileStepH h₀ L s J Q n) Q') (h : Q (.ret v) s₂) : Q' (.ret v) s₂ := k _ _ h
theorem go_wbrk {h₀ : Heap} {L : Addr} {J : Nat → (Str → Option Value) → Heap → Prop} {n : Nat} {s s₂ : Shared} {Q Q' : Flow → Shared → Prop} (k : Under (WhileStepH h₀ L s J Q n) Q') (h : Q .next s₂) : Q' .brk s₂ := k _ _ h
theorem go_vret {h₀ : Heap} {L : Addr} {J : Nat → (Str → Option Value) → List (Addr × Obj) → Prop} {n : Nat} {s s₂ : Shared} {Q Q' : Flow → Shared → Prop} {v : Value} (k : Under (WhileStep2 h₀ L s J Q n) Q') (h : Q (.ret v) s₂) : Q' (.ret v) s₂ := k _ _ h
theorem go_vbrk {h₀ : Heap} {L : Addr} {J : Nat → (Str → Option Value) → List (Addr × Obj) → Prop} {n : Nat} {s s₂ : Shared} {Q Q' : Flow → Shared → Prop} (k : Under (WhileStep2 h₀ L s J Q n) Q') (h : Q .next s₂) : Q' .brk s₂ := k _ _ h
set_option hygiene false in
local macro_rules
| `(tactic| walk_at "behind") => `(tactic| (
  (fail_if_success (with_reducible show wpAny _ _ _ _ _ _));
  first
  | (refine Mine.go_wret (by with_reducible assumption) ?_; walk_at "drop")
  | (refine Mine.go_wbrk (by with_reducible assumption) ?_; walk_at "drop")
  | (refine Mine.go_vret (by with_reducible assumption) ?_; walk_at "drop")
  | (refine Mine.go_vbrk (by with_reducible assumption) ?_; walk_at "drop")
  | fail "behind"))

section
variable {prog : Program} {w : World} {A : Around} {E : Value → Shared → Prop} {Q : Flow → Shared → Prop} {s : Shared} {env : Env} {h₀ : Heap} {L : Addr}

theorem while_inv {test : PySem.Expr} {body : List Stmt} {pos : Pos} {m : Str → Option Value} {news : List (Addr × Obj)} (J : Nat → (Str → Option Value) → List (Addr × Obj) → Prop) {n₀ : Nat}
    (F : Fr h₀ L s.heap m) (N : News h₀ L s.heap news) (hJ : J n₀ m news)
    (turn : ∀ n m₁ news₁ h₁ tk₁, Fr h₀ L h₁ m₁ → News h₀ L h₁ news₁ → J n m₁ news₁ → ∀ Q', Under (WhileStep2 h₀ L s J Q n) Q' →
      wpAny (model prog w) A (isTrue test env (eval test env)) (fun b s₂ => if b = true then wpAny (model prog w) A (execs body env) Q' E s₂ else Q' .brk s₂) E { s with heap := h₁, toks := tk₁ })
    (hE : PassesOwn (model prog w) A env E) : wpAny (model prog w) A (exec (.While test body [] pos) env) Q E s :=
  While_inv2 J F N hJ (fun n m₁ news₁ h₁ tk₁ F₁ N₁ J₁ => wpAny_mono (turn n m₁ news₁ h₁ tk₁ F₁ N₁ J₁ _ .refl) (fun b s₂ h => h) fun _ _ e => e) hE

theorem while_heap {test : PySem.Expr} {body : List Stmt} {pos : Pos} {m : Str → Option Value} (J : Nat → (Str → Option Value) → Heap → Prop) {n₀ : Nat}
    (F : Fr h₀ L s.heap m) (hJ : J n₀ m s.heap)
    (turn : ∀ n m₁ h₁ tk₁, Fr h₀ L h₁ m₁ → J n m₁ h₁ →
      ∀ Q', Under (WhileStepH h₀ L s J Q n) Q' → wpAny (model prog w) A (isTrue test env (eval test env)) (fun b s₂ =>
        if b = true then wpAny (model prog w) A (execs body env) Q' E s₂ else Q' .brk s₂) E { s with heap := h₁, toks := tk₁ })
    (hE : PassesOwn (model prog w) A env E) :
    wpAny (model prog w) A (exec (.While test body [] pos) env) Q E s := by
  refine wpAny_While (codeAny_whileLoop (fun n s' => ∃ h₁ tk₁ m₁, s' = { s with heap := h₁, toks := tk₁ } ∧ Fr h₀ L h₁ m₁ ∧ J n m₁ h₁) ?_ n₀ (Mine.mkE3A2 s.heap s.toks m rfl F hJ))
  intro n s' hjo2
  walk_at "hideG"
  (refine Mine.exE3A2 hjo2 ?_; (try clear hjo2); intro h₁ tk₁ m₁ hsb105 F₁ J₁; subst hsb105)
  walk_at "showG"
  refine wpAny_mono (turn n m₁ h₁ tk₁ F₁ J₁ _ .refl) (fun b s₂ h₂ => ?_) hE
  cases b with
  | false =>
    simp only [Bool.false_eq_true, if_false] at h₂ ⊢
    exact wpAny_execs_nil h₂
  | true =>
    simp only [if_true] at h₂ ⊢
    refine wpAny_mono h₂ (fun f s₃ h₃ => ?_) hE
    cases f with
    | next =>
      walk_at "hideG"
      (refine Mine.exE4A3 h₃ ?_; (try clear h₃); intro h' tk m₂ n' hsb106 F₂ hn J₂; subst hsb106)
      walk_at "showG"
      exact ⟨n', ⟨hn, (Mine.mkE3A2 h' tk m₂ rfl F₂ J₂)⟩⟩
    | cont =>
      walk_at "hideG"
      (refine Mine.exE4A3 h₃ ?_; (try clear h₃); intro h' tk m₂ n' hsb107 F₂ hn J₂; subst hsb107)
      walk_at "showG"
      exact ⟨n', ⟨hn, (Mine.mkE3A2 h' tk m₂ rfl F₂ J₂)⟩⟩
    | brk => exact h₃
    | ret v => exact h₃
end

/-! part P3 -/

/-- what units force -/
inductive Der (cs : List (List Int)) (A : List Int) : Int → Prop
  | ask {l : Int} : l ∈ A → Der cs A l
  | unit {c : List Int} {l : Int} : c ∈ cs → l ∈ c → (∀ x ∈ c, x ≠ l → Der cs A (-x)) → Der cs A l
def Conf (cs : List (List Int)) (A : List Int) : Prop := (∃ c ∈ cs, ∀ x ∈ c, Der cs A (-x)) ∨ ∃ l, Der cs A l ∧ Der cs A (-l)

theorem held_zero {T c : List Int} : heldOf T c = 0 ↔ ∀ x ∈ c, x ∉ T := by
  unfold heldOf
  constructor
  · intro h x hx hT
    have h1 : (c.filter fun l => decide (l ∈ T)) = [] := List.eq_nil_of_length_eq_zero (by omega)
    have := List.filter_eq_nil_iff.mp h1 x hx
    simp [hT] at this
  · intro h
    rw [List.filter_eq_nil_iff.mpr fun x hx => by simpa using h x hx]; rfl
theorem open_zero {T c : List Int} : openOf T c = 0 ↔ ∀ x ∈ c, -x ∈ T := by
  unfold openOf
  have e : ∀ x : Int, 0 - x = -x := fun x => by omega
  constructor
  · intro h x hx
    have h1 : (c.filter fun l => !decide ((0 - l) ∈ T)) = [] := List.eq_nil_of_length_eq_zero (by omega)
    have := List.filter_eq_nil_iff.mp h1 x hx
    rw [e] at this
    simpa using this
  · intro h
    rw [List.filter_eq_nil_iff.mpr fun x hx => by rw [e]; simpa using h x hx]; rfl
theorem mem_free {T c : List Int} {x : Int} : x ∈ freeOf T c ↔ x ∈ c ∧ x ∉ T ∧ -x ∉ T := by
  unfold freeOf; simp

structure RunI (cs : List (List Int)) (A T : List Int) (Q : List (Int × Int)) (i : Nat) : Prop where
  der : ∀ q ∈ Q, Der cs A q.1
  pre : ∀ q ∈ Q.take i, q.1 ∈ T
  sub : ∀ l ∈ T, Der cs A l
  con : ∀ l ∈ T, -l ∉ T
  nd : T.Nodup
  unit : ∀ c ∈ cs, heldOf T c = 0 → openOf T c = 1 → ∀ y, freeOf T c = [y] → ∃ q ∈ Q, q.1 = y
  lost : ∀ c ∈ cs, heldOf T c = 0 → openOf T c ≠ 0
  ask : ∀ l ∈ A, ∃ q ∈ Q, q.1 = l
  rng : ∀ q ∈ Q, q.1 ≠ 0 ∧ -5 ≤ q.1 ∧ q.1 ≤ 5
  rngT : ∀ l ∈ T, l ≠ 0 ∧ -5 ≤ l ∧ l ≤ 5
  len : Q.length ≤ cs.length + A.length + T.length * cs.length

theorem emptyOf_some {cs : List (List Int)} (h : 0 ≤ emptyOf cs) : [] ∈ cs := by
  unfold emptyOf at h
  cases hl : (cs.zipIdx.filter fun q => q.1.isEmpty).getLast? with
  | none => rw [hl] at h; simp at h
  | some q =>
    have hm := List.mem_of_getLast? hl
    rw [List.mem_filter] at hm
    have h1 := List.mem_zipIdx_iff_getElem?.mp hm.1
    have h2 : q.1 = [] := by simpa using hm.2
    rw [h2] at h1
    exact List.mem_of_getElem? h1
theorem emptyOf_none {cs : List (List Int)} (h : ¬ 0 ≤ emptyOf cs) : [] ∉ cs := by
  intro hm
  unfold emptyOf at h
  cases hl : (cs.zipIdx.filter fun q => q.1.isEmpty).getLast? with
  | none =>
    rw [List.getLast?_eq_none_iff] at hl
    (refine Mine.exE1 (List.getElem?_of_mem hm) ?_; intro i hi)
    have : ([], i) ∈ cs.zipIdx.filter fun q => q.1.isEmpty := List.mem_filter.mpr ⟨List.mem_zipIdx_iff_getElem?.mpr hi, rfl⟩
    rw [hl] at this; cases this
  | some q => rw [hl] at h; simp at h
theorem mem_begunOf {cs : List (List Int)} {q : Int × Int} : q ∈ begunOf cs ↔ ∃ j : Nat, q = (q.1, (j : Int)) ∧ cs[j]? = some [q.1] := by
  unfold begunOf
  rw [List.mem_map]
  constructor
  · rintro ⟨⟨c, j⟩, hm, rfl⟩
    rw [List.mem_filter] at hm
    have h1 := List.mem_zipIdx_iff_getElem?.mp hm.1
    have h2 : c.length = 1 := by simpa using hm.2
    match c, h2 with
    | [y], _ => exact (Mine.mkE1A1 j rfl h1)
  · rintro ⟨j, e, hc⟩
    refine (Mine.mkE1A1 ([q.1], j) (List.mem_filter.mpr ⟨List.mem_zipIdx_iff_getElem?.mpr hc, rfl⟩) ?_)
    rw [e]; rfl

theorem run_start {cs : List (List Int)} {A : List Int} (hc : ∀ c ∈ cs, ClauseOk c) (hA : ∀ l ∈ A, l ≠ 0 ∧ -5 ≤ l ∧ l ≤ 5) (he : [] ∉ cs) : RunI cs A [] (begunOf cs ++ A.map fun l => (l, -1)) 0 := by
  have h0 : ∀ c : List Int, openOf [] c = (c.length : Int) := fun c => by unfold openOf; rw [List.filter_eq_self.mpr (by simp)]
  refine ⟨fun q hq => ?_, fun q hq => (nomatch hq), fun l hl => (nomatch hl), fun l hl => (nomatch hl), List.nodup_nil, fun c hcm _ ho y hy => ?_, fun c hcm _ ho => ?_, fun l hl => (Mine.mkE1A1 (l, -1) (List.mem_append_right _ (List.mem_map.mpr (Mine.mkE1A1 l hl rfl))) rfl), fun q hq => ?_, fun l hl => (nomatch hl), ?_⟩
  · rcases List.mem_append.mp hq with h | h
    · (refine Mine.exE1A1 (mem_begunOf.mp h) ?_; intro j _ e)
      exact .unit (List.mem_of_getElem? e) (.head _) fun x hx hne => absurd (List.mem_singleton.mp hx) hne
    · (refine Mine.exE1A1 (List.mem_map.mp h) ?_; intro l hl hsb108; subst hsb108)
      exact .ask hl
  · rw [h0] at ho
    have hc1 : c.length = 1 := by omega
    (refine Mine.exE1 (List.length_eq_one_iff.mp hc1) ?_; intro z hsb109; subst hsb109)
    · have : freeOf [] [z] = [z] := by unfold freeOf; simp
      rw [this] at hy; cases hy
      (refine Mine.exE1 (List.getElem?_of_mem hcm) ?_; intro j hj)
      exact (Mine.mkE1A1 (y, (j : Int)) (List.mem_append_left _ (mem_begunOf.mpr (Mine.mkE1A1 j rfl hj))) rfl)
  · rw [h0] at ho
    have : c = [] := List.eq_nil_of_length_eq_zero (by omega)
    exact he (this ▸ hcm)
  · rcases List.mem_append.mp hq with h | h
    · (refine Mine.exE1A1 (mem_begunOf.mp h) ?_; intro j _ e)
      exact (hc _ (List.mem_of_getElem? e)).1 q.1 (.head _)
    · (refine Mine.exE1A1 (List.mem_map.mp h) ?_; intro l hl hsb110; subst hsb110)
      exact hA l hl
  · have : (begunOf cs).length ≤ cs.length := by unfold begunOf; rw [List.length_map]; exact Nat.le_trans (List.length_filter_le _ _) (by simp)
    simp; omega

theorem run_skip {cs : List (List Int)} {A T : List Int} {Q : List (Int × Int)} {i : Nat} {q : Int × Int} (R : RunI cs A T Q i) (hq : Q[i]? = some q) (hl : q.1 ∈ T) : RunI cs A T Q (i + 1) :=
  ⟨R.der, fun r hr => by
    rw [List.take_add_one, hq] at hr
    rcases List.mem_append.mp hr with h | h
    · exact R.pre r h
    · simp at h; rw [h]; exact hl, R.sub, R.con, R.nd, R.unit, R.lost, R.ask, R.rng, R.rngT, R.len⟩
theorem run_clash1 {cs : List (List Int)} {A T : List Int} {Q : List (Int × Int)} {i : Nat} {q : Int × Int} (R : RunI cs A T Q i) (hq : Q[i]? = some q) (hl : -q.1 ∈ T) : Conf cs A :=
  .inr (Mine.mkE1A1 q.1 (R.der q (List.mem_of_getElem? hq)) (R.sub _ hl))

theorem sub_snoc {cs : List (List Int)} {A T : List Int} {Q : List (Int × Int)} {i : Nat} {q : Int × Int} (R : RunI cs A T Q i) (hq : Q[i]? = some q) : ∀ l ∈ T ++ [q.1], Der cs A l := fun l hl => by
  rcases List.mem_append.mp hl with h | h
  · exact R.sub l h
  · rw [List.mem_singleton] at h; rw [h]; exact R.der q (List.mem_of_getElem? hq)
theorem run_clash2 {cs : List (List Int)} {A T : List Int} {Q : List (Int × Int)} {i : Nat} {q : Int × Int} (R : RunI cs A T Q i) (hq : Q[i]? = some q) (hl : (idxOf cs (-q.1)).any (lostAt (T ++ [q.1]) cs) = true) : Conf cs A := by
  (refine Mine.exE1A1 (List.any_eq_true.mp hl) ?_; intro n hn hlost)
  (refine Mine.exA1E1A1 (mem_idxOf.mp hn) ?_; intro _ c hc _)
  unfold lostAt at hlost
  rw [hc] at hlost
  have h := of_decide_eq_true hlost
  exact .inl (Mine.mkE1A1 c (List.mem_of_getElem? hc) (fun x hx => sub_snoc R hq _ (open_zero.mp h.2 x hx)))

theorem run_take {cs : List (List Int)} {A T : List Int} {Q : List (Int × Int)} {i : Nat} {q : Int × Int} (hcok : ∀ c ∈ cs, ClauseOk c) (R : RunI cs A T Q i) (hq : Q[i]? = some q) (h1 : q.1 ∉ T) (h2 : -q.1 ∉ T)
    (hl : (idxOf cs (-q.1)).any (lostAt (T ++ [q.1]) cs) = false) : RunI cs A (T ++ [q.1]) (Q ++ (idxOf cs (-q.1)).flatMap (dueAt (T ++ [q.1]) cs)) (i + 1) := by
  have hs := sub_snoc R hq
  have hrq := R.rng q (List.mem_of_getElem? hq)
  have hdue : ∀ r ∈ (idxOf cs (-q.1)).flatMap (dueAt (T ++ [q.1]) cs), ∃ c ∈ cs, heldOf (T ++ [q.1]) c = 0 ∧ freeOf (T ++ [q.1]) c = [r.1] := fun r hr => by
    (refine Mine.exE1A1 (List.mem_flatMap.mp hr) ?_; intro n hn hd)
    (refine Mine.exA1E1A1 (mem_idxOf.mp hn) ?_; intro _ c hc _)
    unfold dueAt at hd
    rw [hc] at hd
    dsimp only at hd
    by_cases hh : heldOf (T ++ [q.1]) c = 0 ∧ openOf (T ++ [q.1]) c = 1
    · rw [if_pos hh] at hd
      (refine Mine.exE1 (free_of_counts hh.1 hh.2) ?_; intro y hy)
      rw [List.mem_singleton] at hd
      refine (Mine.mkE1A2 c (List.mem_of_getElem? hc) hh.1 ?_)
      rw [hd, hy]; rfl
    · rw [if_neg hh] at hd; cases hd
  refine ⟨fun r hr => ?_, fun r hr => ?_, hs, fun l hm hm' => ?_, ?_, fun c hc hh ho y hy => ?_, fun c hc hh ho => ?_, fun l hm => ?_, fun r hr => ?_, fun l hm => ?_, ?_⟩
  · rcases List.mem_append.mp hr with h | h
    · exact R.der r h
    · (refine Mine.exE1A2 (hdue r h) ?_; intro c hc hh hf)
      refine .unit hc (mem_free.mp (hf ▸ List.mem_singleton.mpr rfl : r.1 ∈ freeOf _ c)).1 fun x hx hne => hs _ ?_
      have hx1 := held_zero.mp hh x hx
      refine Decidable.byContradiction fun hx2 => hne ?_
      have : x ∈ freeOf (T ++ [q.1]) c := mem_free.mpr ⟨hx, hx1, hx2⟩
      rw [hf] at this; exact List.mem_singleton.mp this
  · have hi : i < Q.length := (List.getElem?_eq_some_iff.mp hq).1
    rw [List.take_append_of_le_length (by omega), List.take_add_one, hq] at hr
    rcases List.mem_append.mp hr with h | h
    · exact List.mem_append_left _ (R.pre r h)
    · simp at h; rw [h]; simp
  · rcases List.mem_append.mp hm with h | h
    · rcases List.mem_append.mp hm' with h' | h'
      · exact R.con l h h'
      · rw [List.mem_singleton] at h'
        exact h2 (by rw [← h']; simpa using h)
    · rw [List.mem_singleton] at h; subst h
      rcases List.mem_append.mp hm' with h' | h'
      · exact h2 h'
      · rw [List.mem_singleton] at h'; omega
  · refine List.nodup_append.mpr ⟨R.nd, by simp, fun x hx y hy e => ?_⟩
    rw [List.mem_singleton] at hy
    exact h1 (by rw [← hy, ← e]; exact hx)
  · by_cases hn : -q.1 ∈ c
    · (refine Mine.exE1 (List.getElem?_of_mem hc) ?_; intro j hj)
      have hm : (j : Int) ∈ idxOf cs (-q.1) := mem_idxOf.mpr ⟨by omega, (Mine.mkE1A1 c (by simpa using hj) hn)⟩
      refine (Mine.mkE1A1 (y, (j : Int)) (List.mem_append_right _ (List.mem_flatMap.mpr (Mine.mkE1A1 _ hm ?_))) rfl)
      unfold dueAt
      rw [Int.toNat_natCast, hj]
      dsimp only
      rw [if_pos ⟨hh, ho⟩, hy]
      exact List.mem_singleton.mpr rfl
    · rw [openOf_out hn] at ho
      have hh0 := held_zero.mp hh
      have hh' : heldOf T c = 0 := held_zero.mpr fun x hx hT => hh0 x hx (List.mem_append_left _ hT)
      have hf : freeOf (T ++ [q.1]) c = freeOf T c := by
        unfold freeOf
        refine List.filter_congr fun x hx => ?_
        have a1 := hh0 x hx
        have a2 : x ∉ T := fun h => a1 (List.mem_append_left _ h)
        have a3 : x ≠ q.1 := fun h => a1 (by rw [h]; simp)
        have a4 : -x ≠ q.1 := fun h => hn (by rw [← h]; simpa using hx)
        simp [a2, a3, a4]
      rw [hf] at hy
      (refine Mine.exE1A1 (R.unit c hc hh' ho y hy) ?_; intro r hr e)
      exact (Mine.mkE1A1 r (List.mem_append_left _ hr) e)
  · by_cases hn : -q.1 ∈ c
    · (refine Mine.exE1 (List.getElem?_of_mem hc) ?_; intro j hj)
      have hm : (j : Int) ∈ idxOf cs (-q.1) := mem_idxOf.mpr ⟨by omega, (Mine.mkE1A1 c (by simpa using hj) hn)⟩
      have := List.any_eq_false.mp hl _ hm
      unfold lostAt at this
      rw [Int.toNat_natCast, hj] at this
      simp [hh, ho] at this
    · rw [openOf_out hn] at ho
      exact R.lost c hc (held_zero.mpr fun x hx hT => held_zero.mp hh x hx (List.mem_append_left _ hT)) ho
  · (refine Mine.exE1A1 (R.ask l hm) ?_; intro r hr e)
    exact (Mine.mkE1A1 r (List.mem_append_left _ hr) e)
  · rcases List.mem_append.mp hr with h | h
    · exact R.rng r h
    · (refine Mine.exE1A2 (hdue r h) ?_; intro c hc hh hf)
      exact (hcok c hc).1 r.1 (mem_free.mp (hf ▸ List.mem_singleton.mpr rfl : r.1 ∈ freeOf _ c)).1
  · rcases List.mem_append.mp hm with h | h
    · exact R.rngT l h
    · rw [List.mem_singleton] at h; rw [h]; exact hrq
  · have h3 := dues_le (T := T ++ [q.1]) (cs := cs) (ns := idxOf cs (-q.1))
    have h4 := idxOf_le cs (-q.1)
    have h5 := R.len
    rw [List.length_append, List.length_append, List.length_singleton, Nat.add_mul, Nat.one_mul]
    omega

/-- what a closed set says -/
theorem closed_all {cs : List (List Int)} {A T : List Int} (hs : ∀ l ∈ T, Der cs A l) (hc : ∀ l ∈ T, -l ∉ T) (hA : ∀ l ∈ A, l ∈ T) (hu : ∀ c ∈ cs, ∀ l ∈ c, (∀ x ∈ c, x ≠ l → -x ∈ T) → l ∈ T) (hl : ∀ c ∈ cs, ∃ x ∈ c, -x ∉ T) :
    ¬ Conf cs A ∧ ∀ l, l ∈ T ↔ Der cs A l := by
  have hd : ∀ l, Der cs A l → l ∈ T := fun l h => by
    induction h with
    | ask h => exact hA _ h
    | unit hc hl _ ih => exact hu _ hc _ hl ih
  refine ⟨?_, fun l => ⟨hs l, hd l⟩⟩
  rintro (⟨c, hcm, h⟩ | ⟨l, h1, h2⟩)
  · (refine Mine.exE1A1 (hl c hcm) ?_; intro x hx hn)
    exact hn (hd _ (h x hx))
  · exact hc l (hd _ h1) (hd _ h2)

theorem all_eq_nodup {xs : List Int} {l : Int} (hn : xs.Nodup) (h : ∀ x ∈ xs, x = l) : xs.length ≤ 1 := by
  match xs, hn, h with
  | [], _, _ => simp
  | [_], _, _ => simp
  | a :: b :: r, hn, h =>
    rw [List.nodup_cons] at hn
    exact absurd (by rw [h a (.head _), ← h b (.tail _ (.head _))]; exact .head _) hn.1
theorem open_le_one {T c : List Int} {l : Int} (hn : c.Nodup) (h : ∀ x ∈ c, x ≠ l → -x ∈ T) : openOf T c ≤ 1 := by
  unfold openOf
  have := all_eq_nodup (xs := c.filter fun l => !decide ((0 - l) ∈ T)) (l := l) (List.filter_sublist.nodup hn) fun x hx => by
    rw [List.mem_filter] at hx
    refine Decidable.byContradiction fun hne => ?_
    have e : (0 - x) = -x := by omega
    have := h x hx.1 hne
    simp [e, this] at hx
  omega
theorem open_nonneg {T c : List Int} : 0 ≤ openOf T c := by unfold openOf; omega
theorem run_end {cs : List (List Int)} {A T : List Int} {Q : List (Int × Int)} {i : Nat} (hcok : ∀ c ∈ cs, ClauseOk c) (R : RunI cs A T Q i) (hi : Q.length ≤ i) : ¬ Conf cs A ∧ ∀ l, l ∈ T ↔ Der cs A l := by
  have hp : ∀ q ∈ Q, q.1 ∈ T := fun q hq => R.pre q (by rw [List.take_of_length_le hi]; exact hq)
  have hno : ∀ c ∈ cs, heldOf T c = 0 → openOf T c ≠ 1 := fun c hc hh ho => by
    (refine Mine.exE1 (free_of_counts hh ho) ?_; intro y hy)
    (refine Mine.exE1A1 (R.unit c hc hh ho y hy) ?_; intro q hq e)
    have := (mem_free.mp (hy ▸ List.mem_singleton.mpr rfl : y ∈ freeOf T c)).2.1
    exact this (e ▸ hp q hq)
  refine closed_all R.sub R.con (fun l hl => ?_) (fun c hc l hlc hx => ?_) (fun c hc => ?_)
  · (refine Mine.exE1A1 (R.ask l hl) ?_; intro q hq e)
    exact e ▸ hp q hq
  · refine Decidable.byContradiction fun hn => ?_
    have hh : heldOf T c = 0 := held_zero.mpr fun x hxc hxT => by
      by_cases e : x = l
      · exact hn (e ▸ hxT)
      · exact R.con x hxT (hx x hxc e)
    have h0 := R.lost c hc hh
    have h1 := hno c hc hh
    have h2 := open_le_one (hcok c hc).nodup hx
    have h3 : 0 ≤ openOf T c := open_nonneg
    omega
  · refine Decidable.byContradiction fun hn => ?_
    have hall : ∀ x ∈ c, -x ∈ T := fun x hx => Decidable.byContradiction fun h => hn (Mine.mkE1A1 x hx h)
    have hh : heldOf T c = 0 := held_zero.mpr fun x hx hT => R.con x hT (hall x hx)
    exact R.lost c hc hh (open_zero.mpr hall)

/-! part M13 -/
set_option maxHeartbeats 4000000


/-- the object stands for itself anew -/
theorem StepsAt.kpd {w : World} {h h' : Heap} {ch : List Addr} {a : StA} {ps : List Addr} {cs : List (List Int)} {kvs : List (Int × Value)} {ck ck' : Int × Int} {te : Tok} {kc : Addr} (S : StepsAt w h a ps cs kvs ck) (k : Kp ch h h') (H : NoTup h ch)
    (ho : ∀ b ∈ (([a.x, a.cl, a.pl, a.he, a.op, a.be, a.ta, a.tr] : List Nat) ++ ps), b ∉ ch) (hd : DxAt h' a (.int (emptyOf cs) te) (.ref kc)) (hp : PairAt h' kc ck') : StepsAt w h' a ps cs kvs ck' := by
  have ho' : ∀ b ∈ ([a.x, a.cl, a.pl, a.he, a.op, a.be, a.ta, a.tr] : List Nat), b ∉ ch := fun b hb => ho b (List.mem_append_left _ hb)
  refine ⟨k _ _ (ho' _ (by walk_at "sim")) S.x, (Mine.mkE2A1 te kc hd hp), S.cl.kp k (ho' _ (by walk_at "sim")) H, S.pl.kp k (ho' _ (by walk_at "sim")) (fun p hp => ho p (List.mem_append_right _ hp)), S.he.kp k (ho' _ (by walk_at "sim")), S.op.kp k (ho' _ (by walk_at "sim")), S.be.kp k (ho' _ (by walk_at "sim")) H, ?_, S.tav, S.tr.kp k (ho' _ (by walk_at "sim"))⟩
  (refine Mine.exE1A1 S.ta ?_; intro o e d)
  exact (Mine.mkE1A1 o (k _ _ (ho' _ (by walk_at "sim")) e) d)

section
variable {prog : Program} {w : World} {A : Around} {E : Value → Shared → Prop} {s : Shared} {h₀ : Heap} {L : Addr} {m : Str → Option Value} {news : List (Addr × Obj)}
theorem add_two {l b : Addr} {vs ws : List Value} {n n' : Nat} {Q : Value → Shared → Prop} (F : Fr h₀ L s.heap m) (N : News h₀ L s.heap news) (hl : s.heap.get? l = some (W.listOf vs.toArray n)) (hb : s.heap.get? b = some (W.listOf ws.toArray n')) (h1 : vs.length ≤ 100000) (h2 : ws.length ≤ 100000)
    (h : ∀ D h', Fr h₀ L h' m → News h₀ L h' ((D, W.listOf (vs ++ ws).toArray 0) :: news) → (∀ q ∈ news, q.1 < D) → Q (.ref D) { s with heap := h' }) : wpAny (model prog w) A (binaryOp .Add (.ref l) (.ref b)) Q E s :=
  add_lists F N (Mine.mkE1A2E1 _ hl rfl _ rfl) (Mine.mkE1A2E1 _ hb rfl _ rfl) (fun h' F' N' => h _ h' F' N' fun q hq => Heap.lt_size (N q hq).1) (by rw [sizeLine_eq]; omega)
end
local macro_rules
| `(tactic| walk_at "binaryOp Add ref ref") => `(tactic| (k_dflt (refine Mine.add_two (by k_asm) (by k_asm) (by walk_at "at") (by walk_at "at") (by walk_at "fact") (by walk_at "fact") ?_); intro D' h' F' N' l1'; (try k_lt l1')))

section
variable {prog : Program} {w : World} {A : Around} {E : Value → Shared → Prop} {s : Shared} {h₀ : Heap} {L : Addr} {m : Str → Option Value} {news : List (Addr × Obj)}
theorem unpack_tup {t : Addr} {items : Array Value} {n k : Nat} {Q : List Value → Shared → Prop} (F : Fr h₀ L s.heap m) (N : News h₀ L s.heap news) (ho : s.heap.get? t = some { cls := .type "tuple", data := .seq items k })
    (hh : A.handled = none) (hn : n = items.size) (h : ∀ h', Fr h₀ L h' m → News h₀ L h' news → Q items.toList { s with heap := h' }) : wpAny (model prog w) A (unpackItems (.ref t) n none) Q E s :=
  unpackItemsN_ F N (Mine.mkE1A2E1 _ ho rfl _ rfl) hh hn h
end
local macro_rules
| `(tactic| walk_at "unpackItems ref") => `(tactic| (k_dflt (refine Mine.unpack_tup (by k_asm) (by k_asm) (by walk_at "at") (by assumption) (by exact rfl) ?_); intro h' F' N'))

theorem run_snoc {cs : List (List Int)} {A T : List Int} {Q : List (Int × Int)} {i : Nat} {q : Int × Int} (R : RunI cs A T Q i) (hq : Q[i]? = some q) (h1 : q.1 ∉ T) (h2 : -q.1 ∉ T) :
    (T ++ [q.1]).Nodup ∧ (∀ l ∈ T ++ [q.1], -l ∉ T ++ [q.1]) ∧ ∀ l ∈ T ++ [q.1], l ≠ 0 ∧ -5 ≤ l ∧ l ≤ 5 := by
  have hrq := R.rng q (List.mem_of_getElem? hq)
  refine ⟨List.nodup_append.mpr ⟨R.nd, by simp, fun x hx y hy e => ?_⟩, fun l hm hm' => ?_, fun l hm => ?_⟩
  · rw [List.mem_singleton] at hy
    exact h1 (by rw [← hy, ← e]; exact hx)
  · rcases List.mem_append.mp hm with h | h
    · rcases List.mem_append.mp hm' with h' | h'
      · exact R.con l h h'
      · rw [List.mem_singleton] at h'
        exact h2 (by rw [← h']; simpa using h)
    · rw [List.mem_singleton] at h; subst h
      rcases List.mem_append.mp hm' with h' | h'
      · exact h2 h'
      · rw [List.mem_singleton] at h'; omega
  · rcases List.mem_append.mp hm with h | h
    · exact R.rngT l h
    · rw [List.mem_singleton] at h; rw [h]; exact hrq

theorem perm_cled {I D C : Addr} {oI oD oC : Obj} {x y p : Addr × Obj} {ex : List (Addr × Obj)} (h : p ∈ cled I D C oI oD oC (y :: x :: ex)) : p ∈ x :: cled I D C oI oD oC (y :: ex) := by
  exact (by walk_at "sub" : ∀ p ∈ _, p ∈ _) _ h

theorem nodup_len : ∀ {n : Nat} {lo : Int} {xs : List Int}, xs.Nodup → (∀ x ∈ xs, lo ≤ x ∧ x < lo + (n : Int)) → xs.length ≤ n
  | 0, lo, xs, _, h => by
    cases xs with
    | nil => exact Nat.le_refl _
    | cons x r => have := h x (.head _); omega
  | n + 1, lo, xs, hn, h => by
    have h1 := nodup_len (n := n) (lo := lo) (xs := xs.filter fun x => decide (x ≠ lo + (n : Int))) (List.filter_sublist.nodup hn) fun x hx => by
      rw [List.mem_filter] at hx
      have := h x hx.1
      have h2 : x ≠ lo + (n : Int) := of_decide_eq_true hx.2
      omega
    by_cases hm : lo + (n : Int) ∈ xs
    · have := filter_length_step (c := xs) (p := fun x => decide (x ≠ lo + (n : Int))) (q := fun _ => true) hn hm (by walk_at "sim") rfl (fun y _ hy => by simpa using hy)
      rw [List.filter_eq_self.mpr (by walk_at "sim")] at this
      omega
    · rw [List.filter_eq_self.mpr fun x hx => by
        have : x ≠ lo + (n : Int) := fun e => hm (by rw [← e]; exact hx)
        simpa using this] at h1
      omega

theorem StepsAt.live {w : World} {h : Heap} {a : StA} {ps : List Addr} {cs : List (List Int)} {kvs : List (Int × Value)} {ck : Int × Int} (S : StepsAt w h a ps cs kvs ck) : ∀ b ∈ (([a.x, a.dx, a.cl, a.pl, a.he, a.op, a.be, a.ta, a.tr] : List Nat) ++ ps), ∃ o, h.get? b = some o := by
  walk_at "hideG"
  (refine Mine.exE2A1 S.dx ?_; intro _ _ hnst111 _; obtain ⟨_, _, _, h0⟩ := hnst111)
  (refine Mine.exE2A6 S.pl ?_; intro _ _ h1 _ _ _ _ _ h9)
  (refine Mine.exE2A1 S.he ?_; intro _ _ h2 _)
  (refine Mine.exE2A1 S.op ?_; intro _ _ h3 _)
  (refine Mine.exE2A1 S.tr ?_; intro _ _ h4 _)
  (refine Mine.exE1A1 S.ta ?_; intro _ h5 _)
  (refine Mine.exE2A1 S.cl ?_; intro _ _ h6 _)
  (refine Mine.exE2A1 S.be ?_; intro _ _ h7 _)
  walk_at "showG"
  exact faa (fac ⟨_, S.x⟩ (fac ⟨_, h0⟩ (fac ⟨_, h6⟩ (fac ⟨_, h1⟩ (fac ⟨_, h2⟩ (fac ⟨_, h3⟩ (fac ⟨_, h7⟩ (fac ⟨_, h5⟩ (fac ⟨_, h4⟩ fa0))))))))) fun b hb => (h9 b hb).elim fun _ q => q.elim fun _ e => ⟨_, e⟩
theorem StepsAt.offL {w : World} {h : Heap} {a : StA} {ps : List Addr} {cs : List (List Int)} {kvs : List (Int × Value)} {ck : Int × Int} {L : Nat} (S : StepsAt w h a ps cs kvs ck) (hL : L = h.objs.size) : ∀ b ∈ (([a.x, a.dx, a.cl, a.pl, a.he, a.op, a.be, a.ta, a.tr] : List Nat) ++ ps), b ≠ L := fun b hb e => (S.live b hb).elim fun _ ho => Nat.ne_of_lt (Heap.lt_size ho) (e.trans hL)

section
variable {w : World} {mg mb : Str → Option Value} {n : Nat} {A : Around} {h₀ : Heap} {L : Addr} {m : Str → Option Value} {s : Shared} {E : Value → Shared → Prop} {Q : Value → Shared → Prop}

inductive RunJ (w : World) (a : StA) (ps : List Addr) (cs : List (List Int)) (asked : List Int) (Dq : Addr) (k : Nat) (m : Str → Option Value) (h : Heap) : Prop
  | mk (kvs : List (Int × Value)) (ck : Int × Int) (Qs : List (Int × Int)) (spot : Nat) (tsp : Tok) (S : StepsAt w h a ps cs kvs ck) (P : PairsAt h Dq Qs) (R : RunI cs asked (keysOf kvs) Qs spot) (ms : m (Str.ofString "self") = some (.ref a.x)) (mq : m (Str.ofString "queue") = some (.ref Dq))
      (msp : m (Str.ofString "spot") = some (.int (spot : Int) tsp)) (hsl : spot ≤ Qs.length) (hk : k = (20 - kvs.length) * (cs.length + 1) + (Qs.length - spot)) : RunJ w a ps cs asked Dq k m h

theorem run_spec {a : StA} {ps : List Addr} {cs : List (List Int)} {ck : Int × Int} {al : Addr} {asked : List Int} (C : Cx w mg mb (n + 3) A h₀ L) (F : Fr h₀ L s.heap m)
    (S : StepsAt w s.heap a ps cs [] ck) (O : StOk a ps) (hA : ListInts s.heap al asked) (hal : (al : Nat) ∉ (([a.x, a.dx, a.cl, a.pl, a.he, a.op, a.be, a.ta, a.tr] : List Nat) ++ ps)) (hmut : ∀ b ∈ [a.dx, a.he, a.op, a.ta, a.tr], h₀.get? b = none ∧ b ≠ L) (hcok : ∀ c ∈ cs, ClauseOk c) (hlc : cs.length ≤ 50)
    (hAok : ∀ l ∈ asked, l ≠ 0 ∧ -5 ≤ l ∧ l ≤ 5) (hlA : asked.length ≤ 50)
    (hQ : ∀ st kvs' ck' h' tk, StepsAt w h' a ps cs kvs' ck' → (st = true → (keysOf kvs').Nodup ∧ (∀ l ∈ keysOf kvs', -l ∉ keysOf kvs') ∧ ¬ Conf cs asked ∧ ∀ l, l ∈ keysOf kvs' ↔ Der cs asked l) → (st = false → Conf cs asked) → kvs'.length ≤ 11 →
      (∀ l ∈ keysOf kvs', l ≠ 0 ∧ -5 ≤ l ∧ l ≤ 5) → (keysOf kvs').Nodup → (∀ l ∈ keysOf kvs', -l ∉ keysOf kvs') →
      Kp [a.dx, a.he, a.op, a.ta, a.tr] s.heap h' → Fr h₀ L h' m → Q (.bool st) { s with heap := h', toks := tk }) :
    wpAny (model PP w) A (call (.ref 52) [.ref a.x, .ref al]) Q E s := by
  refine' callR (binds := [(Str.ofString "self", .ref a.x), (Str.ofString "literals", .ref al)]) (R := fun v h' => ∃ st kvs' ck', v = .bool st ∧ StepsAt w h' a ps cs kvs' ck' ∧ (st = true → (keysOf kvs').Nodup ∧ (∀ l ∈ keysOf kvs', -l ∉ keysOf kvs') ∧ ¬ Conf cs asked ∧ ∀ l, l ∈ keysOf kvs' ↔ Der cs asked l) ∧ (st = false → Conf cs asked) ∧ kvs'.length ≤ 11 ∧
      (∀ l ∈ keysOf kvs', l ≠ 0 ∧ -5 ≤ l ∧ l ≤ 5) ∧ (keysOf kvs').Nodup ∧ (∀ l ∈ keysOf kvs', -l ∉ keysOf kvs')) [a.dx, a.he, a.op, a.ta, a.tr] C F hmut ?ho ?hcd ?hb ?hl ?h ?hQ ?hcell ?c1 ?c2 ?c3
  case ho => exact rfl
  case hcd => exact rfl
  case hb => exact BindsTo.of_eq rfl
  case hl => exact locs rfl
  case hcell => decide
  case c1 => rfl
  case c2 => rfl
  case c3 => rfl
  case hQ =>
    intro v h' tk hjo3 hk' F'
    walk_at "hideG"
    (refine Mine.exE3 hjo3 ?_; (try clear hjo3); intro st kvs' ck' hrun113; refine Mine.exA7 hrun113 ?_; clear hrun113; intro hsb112 h1 h2 h3 h4 h5 h6 h7; subst hsb112)
    walk_at "showG"
    exact hQ _ _ _ _ _ h1 h2 h3 h4 h5 h6 h7 hk' F'
  case h =>
    intro g L' h₁ hg hL' C' F' hk₁
    have S1 : StepsAt w h₁ a ps cs [] ck := S.kp (ch := []) (fun b o _ e => hk₁ b o e) (fun b hb => nomatch hb) (fun b _ hb => nomatch hb)
    walk_at "hideG"
    (refine Mine.exE2A1 (id S.dx) ?_; intro tte kc hnst114 hck; obtain ⟨hs, ts, nd, hdx⟩ := hnst114)
    have gdn := gdnOf hg hL' hk₁ fun b hb => S.live b (List.mem_append_left _ ((by walk_at "sub" : ∀ p ∈ _, p ∈ _) _ hb))
    obtain ⟨n01, n02, n03, n04, n05, n06, n07, n08, n09, n12, n13, n14, n15, n16, n17, n18, n19, n23, n24, n25, n26, n27, n28, n29, n34, n35, n36, n37, n38, n39, n45, n46, n47, n48, n49, n56, n57, n58, n59, n67, n68, n69, n78, n79, n89, n99⟩ := O.ne
    have gk := gkOf hg
    have gx := gk _ _ (Mine.nmc n01 (Mine.nmc n04 (Mine.nmc n05 (Mine.nmc n07 (Mine.nmc n08 Mine.nm0))))) S.x
    have hdx1 := hk₁ _ _ hdx
    have N : News g L' h₁ ((a.dx, dictOf (stEs hs ts a (.int (emptyOf cs) tte) (.ref kc)) nd) :: snap g L' h₁ [a.dx]) := List.forall_mem_cons.mpr ⟨⟨hdx1, (gdn _ (by walk_at "sim")).2, (gdn _ (by walk_at "sim")).1⟩, snap_news⟩
    have hxd : ∀ q ∈ snap g L' h₁ [a.dx], q.1 ≠ a.dx := snap_off (by walk_at "sim")
    (refine Mine.exE2A1 hA ?_; (try clear hA); intro val nal hao ial)
    have gal : g.get? al = some (W.listOf val.toArray nal) := gk _ _ (by
      have hal := nmo hal
      exact nmc hal.2.1 (nmc hal.2.2.2.2.1 (nmc hal.2.2.2.2.2.1 (nmc hal.2.2.2.2.2.2.2.1 (nmc hal.2.2.2.2.2.2.2.2.1 nm0))))) hao
    (refine Mine.exE2A2 (id S.be) ?_; intro abe nbe hbe lbe fbe)
    walk_at "showG"
    have gbe := gk _ _ (Mine.nmc (fun e => n16 e.symm) (Mine.nmc (fun e => n46 e.symm) (Mine.nmc (fun e => n56 e.symm) (Mine.nmc n67 (Mine.nmc n68 Mine.nm0))))) hbe
    have zb1 : (abe.map Value.ref).length ≤ 100 := by
      rw [List.length_map, lbe]
      have : (begunOf cs).length ≤ cs.length := by unfold begunOf; rw [List.length_map]; exact Nat.le_trans (List.length_filter_le _ _) (by walk_at "sim")
      omega
    have hL1 : @LT.lt Nat _ L' h₁.objs.size := F'.ns.lt
    have X := C'.G.X
    have T := C'.G.T
    have hh := C'.hh
    have lo1 := O.lo1
    have lo2 := O.lo2
    have hoffL := S.offL hL'
    have hoffd := O.offd2 hoffL
    have hnt : NoTup h₁ [L', a.dx] := ntL1 F' hdx1
    have hkeep : ∀ h m, Fr g L' h m → News g L' h (snap g L' h₁ [a.dx]) → Kp [L', a.dx] h₁ h := fun h m Fh Nh => snap_keep F'.keep Fh Nh
    generalize hSN : snap g L' h₁ [a.dx] = SN at N hxd hkeep
    (repeat' (walk_at "go"))
    by_cases hE : 0 ≤ emptyOf cs
    · rw [if_pos (by simp [hE])]
      (repeat' (walk_at "go"))
      (repeat' (walk_at "go")); (try dsimp only)
      rename News _ _ _ _ => N9
      rename Fr _ _ _ _ => F9
      have hk9 := hkeep _ _ F9 (fun q hq => N9 q (.tail _ (.tail _ hq)))
      refine retR F9 (Mine.mkE3 false ([]) (emptyOf cs, 0) ⟨rfl, S1.kpd hk9 hnt hoffd (Mine.mkE3 hs ts nd ((N9 _ (.tail _ (.head _))).1)) (Mine.mkE3 _ _ _ ((N9 _ (.head _)).1)), (fun h => nomatch h), (fun _ => .inl (Mine.mkE1A1 ([]) (emptyOf_some hE) (fun x hx => nomatch hx))), by simp, (fun l hl => nomatch hl), List.nodup_nil, fun l hl => nomatch hl⟩)
    · rw [if_neg (by simp; omega)]
      (repeat' (walk_at "go"))
      refine' comp_ (cl := []) ?d1 ?d2 ?d3 ?_ ?d4
      case d1 => rfl
      case d2 => rfl
      case d3 => decide
      case d4 => intro _; rfl
      (repeat' (walk_at "go"))
      refine' comp_seq (T := "list") (.inl rfl) (Fr.keep (by k_asm) _ _ gal) rfl rfl (fun _ => true) (fun vs ys nx => ∃ ex as, nx = (a.dx, dictOf (stEs hs ts a (.int (emptyOf cs) tte) (.ref kc)) nd) :: ex ∧ (∀ r ∈ SN, r ∈ ex) ∧ (∀ q ∈ ex, q.1 ≠ a.dx) ∧ ys = as.map Value.ref ∧ PairsIn g ex as ((asked.take vs.length).map fun l => (l, -1))) hh ?e1 ?e2 ?e3 ?F ?N ?j ?sz ?wh ?tests ?skip ?elt ?fin
      case e1 => decide
      case e2 => rfl
      case e3 => rfl
      case F => k_asm
      case N => k_asm
      case j => exact (Mine.mkE2 SN ([]) ⟨rfl, fun _ h => h, hxd, rfl, rfl, fun i x q h => nomatch h⟩)
      case sz =>
        have := ial.length
        rw [sizeLine_eq, List.size_toArray]; omega
      case wh => exact .inl ⟨_, gal⟩
      case tests =>
        intro I D' C'' oI oD oC vs v ys nx s₃ m₃ hv hJ F3 N3 hC hx
        exact ctests_nil (Mine.mkA1E1 rfl _ rfl)
      case skip => intro vs v ys nx _ h; cases h
      case elt =>
        intro I D' C'' oI oD oC vs v ys nx s₃ m₃ hv hjd13 hjo14 hoff hne3 F3 N3 hC hx
        clear hjd13
        walk_at "hideG"
        (refine Mine.exE2 hjo14 ?_; (try clear hjo14); intro ex as hrun117; refine Mine.exA4 hrun117 ?_; clear hrun117; intro hsb115 hex1 hex2 hsb116 hps; subst hsb115; subst hsb116)
        have hn := hC _ (N3 _ (.tail _ (.tail _ (.head _)))).1
        (refine Mine.exE2A1 (ial.at _ _ (by simpa using hv)) ?_; intro x tx hsb118 hxs; subst hsb118)
        walk_at "showG"
        (repeat' (walk_at "go"))
        rename News _ _ _ _ => N9
        rename _ ∧ _ => hK9
        (refine Mine.exA4 hK9 ?_; (try clear hK9); intro k1 k2 k3 k4 k5)
        refine (Mine.mkE3 _ _ (_ :: _ :: ex) ⟨rfl, by k_asm, fun p hp => N9 p (perm_cled hp), ?_, (Mine.mkE2 _ (as ++ [_]) ⟨rfl, fun r hr => .tail _ (hex1 r hr), List.forall_mem_cons.mpr ⟨Nat.ne_of_gt k4, hex2⟩, by rw [List.map_append]; rfl, ?_⟩)⟩)
        · exact List.forall_mem_cons.mpr ⟨hoff _ (.head _), List.forall_mem_cons.mpr ⟨⟨Nat.ne_of_gt k1, Nat.ne_of_gt k2, Nat.ne_of_gt k3⟩, fun q hq => hoff q (.tail _ hq)⟩⟩
        · rw [List.length_append, List.length_singleton, List.take_add_one, hxs, List.map_append]
          exact (hps.more (fun r hr => .tail _ hr)).snoc (Mine.mkE3 _ _ _ (.inr (.head _)))
      case fin =>
        intro D' C'' h' tk' m' ys nx nD hjo8 F7 N7 hD7 hsz7 hC7
        walk_at "hideG"
        (refine Mine.exE2 hjo8 ?_; (try clear hjo8); intro ex as hrun121; refine Mine.exA4 hrun121 ?_; clear hrun121; intro hsb119 hex1 hex2 hsb120 hps; subst hsb119; subst hsb120)
        walk_at "showG"
        refine fin_none F7 N7 hC7 fun h'' F6 N6 => ?_
        have zb2 : (as.map Value.ref).length ≤ 100 := by
          rw [List.length_map, hps.1, List.length_map, List.length_take]
          have := Nat.min_le_right (val.toArray.toList).length asked.length
          omega
        (repeat' (walk_at "go"))
        rename News _ _ _ _ => N9
        rename Fr _ _ _ _ => F9
        rename_i Dq hq1 hDq Dt hq2 hDt hq3 hq4 h9
        walk_at "hideG"
        (refine Mine.exA2 hDq ?_; (try clear hDq); intro dq1 dq2 dq3)
        have hk9 := hkeep _ _ F9 (fun q hq => N9 q (.tail _ (.tail _ (.tail _ (.tail _ (hex1 q hq))))))
        have S9 : StepsAt w h9 a ps cs [] ck := S1.kpd hk9 hnt hoffd (Mine.mkE3 hs ts nd ((N9 _ (.tail _ (.tail _ (.tail _ (.head _))))).1)) ((hck.keeps hk₁).kp hk9 (by (refine Mine.exE3 (hck.keeps hk₁) ?_; intro t u n e); exact hnt.off e))
        have htk9 : asked.take val.toArray.toList.length = asked := List.take_of_length_le (by have := ial.length; simp; omega)
        rw [htk9] at hps
        have P9 : PairsAt h9 Dq (begunOf cs ++ asked.map fun l => (l, -1)) := by
          refine (Mine.mkE2A2 (abe ++ as) 0 (by rw [List.map_append]; exact (N9 _ (.tail _ (.head _))).1) (by rw [List.length_append, List.length_append, lbe, hps.1]) (fun i x q h1 h2 => ?_))
          by_cases hi : i < abe.length
          · rw [List.getElem?_append_left hi] at h1
            rw [List.getElem?_append_left (lbe ▸ hi)] at h2
            have hp := (fbe i x q h1 h2).keeps hk₁
            exact hp.kp hk9 (by (refine Mine.exE3 hp ?_; (try clear hp); intro t u n e); exact hnt.off e)
          · rw [List.getElem?_append_right (by omega)] at h1
            rw [List.getElem?_append_right (by omega), ← lbe] at h2
            exact (hps.2 _ x q h1 h2).at F9 N9 (fun r hr => .tail _ (.tail _ (.tail _ (.tail _ hr))))
        have hDqg : g.get? Dq = none ∧ Dq ≠ L' := ⟨(N9 _ (.tail _ (.head _))).2.2, (N9 _ (.tail _ (.head _))).2.1⟩
        have hDqo : (Dq : Nat) ∉ (([a.x, a.dx, a.cl, a.pl, a.he, a.op, a.be, a.ta, a.tr] : List Nat) ++ ps) := fun hb => by
          (refine Mine.exE1 (S1.live _ hb) ?_; intro o ho)
          by_cases hd : Dq = a.dx
          · have : @LT.lt Nat _ a.dx Dq := dq2
            rw [hd] at this; exact Nat.lt_irrefl _ this
          · have hm : (Dq, o) ∈ SN := by rw [← hSN]; exact mem_snap.mpr ⟨ho, hDqg.1, hDqg.2, by simpa using hd⟩
            exact Nat.lt_irrefl _ (allLt_mem dq3 (hex1 _ hm))
        have R0 := run_start hcok hAok (emptyOf_none hE)
        (refine Mine.exE1A1 (Fr.gen F9) ?_; intro m0 hm0 F10)
        have ms0 : m0 (Str.ofString "self") = some (.ref a.x) := by rw [hm0]; rfl
        have mq0 : m0 (Str.ofString "queue") = some (.ref Dq) := by rw [hm0]; rfl
        have msp0 : ∃ t, m0 (Str.ofString "spot") = some (.int ((0 : Nat) : Int) t) := ⟨_, by rw [hm0]; rfl⟩
        (refine Mine.exE1 msp0 ?_; (try clear msp0); intro tsp0 msp0)
        walk_at "showG"
        clear F9 hm0 N9 hq1 hq2 hq3 hq4 hDt
        refine' while_heap (n₀ := (20 - 0) * (cs.length + 1) + ((begunOf cs ++ asked.map fun l => (l, -1)).length - 0)) (RunJ w a ps cs asked Dq) ?wF ?wJ ?turn ?wE
        case wF => exact F10
        case wJ => exact ⟨_, _, _, _, _, S9, P9, R0, ms0, mq0, msp0, Nat.zero_le _, rfl⟩
        case wE => passes_own
        case turn =>
          intro k m1 h2 tk2 F2 hjo5
          walk_at "hideG"
          obtain ⟨kvs, ck2, Qs, spot, tsp, S2, P2, R, ms, mq, msp, hsl, rfl⟩ := hjo5
          (refine Mine.exE2A1 (id S2.dx) ?_; intro tte2 kc2 hnst122 hck2; obtain ⟨hs2, ts2, nd2, hdx2⟩ := hnst122)
          (refine Mine.exE1A1 (id S2.ta) ?_; intro ot2 hot2 hto2)
          (refine Mine.exE2A2 (id P2) ?_; intro aq nq hqo lq fq)
          walk_at "showG"
          have hk12 : (keysOf kvs).length = kvs.length := by simp [keysOf]
          have hk11 : kvs.length ≤ 11 := by
            have := nodup_len (n := 11) (lo := -5) R.nd fun l hl => by have := R.rngT l hl; omega
            omega
          have hQl : Qs.length ≤ 700 := by
            have h1 := R.len
            rw [hk12] at h1
            have h2 : kvs.length * cs.length ≤ 11 * 50 := Nat.mul_le_mul hk11 hlc
            omega
          have hqm : (Dq, W.listOf (aq.map Value.ref).toArray nq) ∈ snap g L' h2 [a.dx] := mem_snap.mpr ⟨hqo, hDqg.1, hDqg.2, by
            exact nmc (nmo hDqo).2.1 nm0⟩
          have htm : (a.ta, ot2) ∈ snap g L' h2 [a.dx] := mem_snap.mpr ⟨hot2, (gdn _ (by walk_at "sim")).1, (gdn _ (by walk_at "sim")).2, by simp; exact fun e => n17 e.symm⟩
          have hxd2 : ∀ q ∈ snap g L' h2 [a.dx], q.1 ≠ a.dx := snap_off (by walk_at "sim")
          have hkp2 : ∀ h m, Fr g L' h m → News g L' h (snap g L' h2 [a.dx]) → Kp [L', a.dx] h2 h := fun h m Fh Nh => snap_keep F2.keep Fh Nh
          have hnt2 : NoTup h2 [L', a.dx] := ntL1 F2 hdx2
          have N2 : News g L' h2 ((a.dx, dictOf (stEs hs2 ts2 a (.int (emptyOf cs) tte2) (.ref kc2)) nd2) :: snap g L' h2 [a.dx]) := List.forall_mem_cons.mpr ⟨⟨hdx2, (gdn _ (by walk_at "sim")).2, (gdn _ (by walk_at "sim")).1⟩, snap_news⟩
          have S2' : ∀ h m, Fr g L' h m → News g L' h ((a.dx, dictOf (stEs hs2 ts2 a (.int (emptyOf cs) tte2) (.ref kc2)) nd2) :: snap g L' h2 [a.dx]) → StepsAt w h a ps cs kvs ck2 := fun h m Fh Nh => by
            have hk := hkp2 h m Fh (fun q hq => Nh q (.tail _ hq))
            exact S2.kpd hk hnt2 hoffd (Mine.mkE3 hs2 ts2 nd2 ((Nh _ (.head _)).1)) (hck2.kp hk (by (refine Mine.exE3 hck2 ?_; (try clear hck2); intro t u n e); exact hnt2.off e))
          have hDqn : Dq ∉ [L', a.dx] := by
            exact nmc hDqg.2 (nmc (nmo hDqo).2.1 nm0)
          have P2' : ∀ h m, Fr g L' h m → News g L' h (snap g L' h2 [a.dx]) → PairsAt h Dq Qs := fun h m Fh Nh => P2.kp (hkp2 h m Fh Nh) hDqn hnt2
          generalize hSN2 : snap g L' h2 [a.dx] = SN2 at N2 hqm htm hxd2 hkp2 S2' P2'
          have zq : (aq.map Value.ref).length ≤ 100000 := by rw [List.length_map, lq]; omega
          (repeat' (walk_at "go"))
          by_cases hlt : spot < Qs.length
          · rw [if_pos (by simp [lq]; omega)]
            have hsa : spot < aq.length := by rw [lq]; exact hlt
            (refine Mine.exE1 (show ∃ q, Qs[spot]? = some q from ⟨_, List.getElem?_eq_getElem hlt⟩) ?_; intro q hqi)
            (refine Mine.exE3 (fq spot aq[spot] q (by simp [hsa]) hqi) ?_; intro tq uq kq hxo)
            (repeat' (walk_at "go"))
            refine' list_itemV (v := .ref aq[spot]) ?i1 ?i2 ?i3 ?i4 ?_ ?i5
            case i1 => walk_at "at"
            case i2 => omega
            case i3 => omega
            case i4 => simp [hsa]
            case i5 => with_unfolding_all rfl
            (repeat' (walk_at "go"))
            rename News _ _ _ _ => NB
            rename Fr _ _ _ _ => FB
            refine' unpackN_ ?fu ?nu ?u1 hh ?u2 ?u3 ?_
            case fu => exact FB
            case nu => exact NB
            case u1 => exact (Mine.mkE1A2E1 _ (hkp2 _ _ FB (fun r hr => NB r (.tail _ hr)) _ _ (hnt2.off hxo) hxo) rfl _ rfl)
            case u2 => exact rfl
            case u3 => exact rfl
            intro hU FU NU
            clear NB FB
            (repeat' (walk_at "go"))
            by_cases hneg : -q.1 ∈ keysOf kvs
            · rw [if_pos (by simp [hneg])]
              (repeat' (walk_at "go"))
              (repeat' (walk_at "go")); (try dsimp only)
              rename News _ _ _ _ => N8
              rename Fr _ _ _ _ => F8
              have hk8 := hkp2 _ _ F8 (fun r hr => N8 r (.tail _ (.tail _ hr)))
              (repeat' (walk_at "go")); (try dsimp only [WhileStepH])
              exact retR F8 (Mine.mkE3 false kvs (q.2, -q.1) ⟨rfl, S2.kpd hk8 hnt2 hoffd (Mine.mkE3 hs2 ts2 nd2 ((N8 _ (.tail _ (.head _))).1)) (Mine.mkE3 _ _ _ ((N8 _ (.head _)).1)), (fun h => nomatch h), fun _ => run_clash1 R hqi hneg, hk11, R.rngT, R.nd, R.con⟩)
            · rw [if_neg (by simp [hneg])]
              (repeat' (walk_at "go"))
              by_cases hin : q.1 ∈ keysOf kvs
              · rw [if_neg (by simp [hin])]
                (repeat' (walk_at "go"))
                rw [if_neg (by decide)]
                (repeat' (walk_at "go"))
                rename News _ _ _ _ => N8
                rename Fr _ _ _ _ => F8
                exact stepH F8 (by omega) ⟨kvs, ck2, Qs, spot + 1, _, S2' _ _ F8 N8, P2' _ _ F8 (fun r hr => N8 r (.tail _ hr)), run_skip R hqi hin, ms, mq, rfl, by omega, rfl⟩
              · rw [if_pos (by simp [hin])]
                (repeat' (walk_at "go"))
                rename News _ _ _ _ => N8
                rename Fr _ _ _ _ => F8
                refine' take_spec (a := a) (ps := ps) (cs := cs) (kvs := kvs) (ck := ck2) (q := Dq) (qs := Qs) C' ?tF ?tS O ?tq hDqo ?tm hin hneg (R.rng q (List.mem_of_getElem? hqi)).1 hcok ?tl ?tl2 ?tl3 ?tl4 ?_
                case tF => exact F8
                case tS => exact S2' _ _ F8 N8
                case tq => exact P2' _ _ F8 (fun r hr => N8 r (.tail _ hr))
                case tm =>
                  intro b hb
                  simp only [List.mem_cons, List.not_mem_nil, or_false] at hb
                  rcases hb with rfl | rfl | rfl | rfl | rfl | rfl <;> first | exact hDqg | exact gdn _ (by walk_at "sim")
                case tl => omega
                case tl2 => exact fun c hc => by have := clause_len (hcok c hc); omega
                case tl3 => omega
                case tl4 => omega
                intro h3 tk3 S3 P3 hk3 F3
                clear N8
                have N3 : News g L' h3 [] := fun _ h => nomatch h
                have hk12' : kvs.length + 1 ≤ 11 := by
                  (refine Mine.exA2 (run_snoc R hqi hin hneg) ?_; intro y1 y2 y3)
                  have := nodup_len (n := 11) (lo := -5) y1 fun l hl => by have := y3 l hl; omega
                  rw [List.length_append, List.length_singleton, hk12] at this
                  exact this
                have hkk : ∀ v, keysOf (kvs ++ [(q.1, v)]) = keysOf kvs ++ [q.1] := fun v => by simp [keysOf]
                cases hany : (idxOf cs (-q.1)).any (lostAt (keysOf kvs ++ [q.1]) cs) with
                | true =>
                  (repeat' (walk_at "go"))
                  rw [if_pos (by decide)]
                  (repeat' (walk_at "go"))
                  rw [if_pos rfl]
                  (repeat' (walk_at "go"))
                  (repeat' (walk_at "go")); (try dsimp only [WhileStepH])
                  rename Fr _ _ _ _ => F8
                  (refine Mine.exA2 (run_snoc R hqi hin hneg) ?_; intro y1 y2 y3)
                  exact retR F8 (Mine.mkE3 false _ _ ⟨rfl, S3, (fun h => nomatch h), (fun _ => run_clash2 R hqi hany), by simpa using hk12', by rw [hkk]; exact y3, by rw [hkk]; exact y1, by rw [hkk]; exact y2⟩)
                | false =>
                  (repeat' (walk_at "go"))
                  rw [if_neg (by decide)]
                  (repeat' (walk_at "go"))
                  rw [if_neg (by decide)]
                  (repeat' (walk_at "go"))
                  rename Fr _ _ _ _ => F8
                  have h5 := dues_le (T := keysOf kvs ++ [q.1]) (cs := cs) (ns := idxOf cs (-q.1))
                  have h6 := idxOf_le cs (-q.1)
                  refine stepH F8 ?_ ⟨_, _, _, spot + 1, _, S3, P3, by rw [hkk]; exact run_take hcok R hqi hin hneg hany, ms, mq, rfl, ?_, rfl⟩
                  · rw [List.length_append, List.length_append, List.length_singleton]
                    (refine Mine.exE1 (show ∃ d, 20 - kvs.length = d + 1 from ⟨19 - kvs.length, by omega⟩) ?_; intro d hd)
                    have hd' : 20 - (kvs.length + 1) = d := by omega
                    rw [hd, hd', Nat.add_mul, Nat.one_mul]
                    omega
                  · rw [List.length_append]; omega
          · rw [if_neg (by simp [lq]; omega)]
            (repeat' (walk_at "go"))
            (repeat' (walk_at "go")); (try dsimp only)
            rename News _ _ _ _ => N8
            rename Fr _ _ _ _ => F8
            (refine Mine.exA1 (run_end hcok R (by omega)) ?_; intro z1 z2)
            exact retR F8 (Mine.mkE3 true kvs ck2 ⟨rfl, S2' _ _ F8 N8, fun _ => ⟨R.nd, R.con, z1, z2⟩, (fun h => nomatch h), hk11, R.rngT, R.nd, R.con⟩)
end

/-! part M14 -/
set_option maxHeartbeats 4000000


section
variable {prog : Program} {w : World} {A : Around} {E : Value → Shared → Prop} {s : Shared} {h₀ : Heap} {L : Addr} {m : Str → Option Value} {news : List (Addr × Obj)}
theorem sorted_abs {l : Addr} {vs : List Value} {ns : List Int} {n : Nat} {Q : Value → Shared → Prop} (F : Fr h₀ L s.heap m) (N : News h₀ L s.heap news) (ho : s.heap.get? l = some (W.listOf vs.toArray n)) (hi : IntsAre vs ns) (h64 : ns.length < 64)
    (h : ∀ D h' tk out ms c, Fr h₀ L h' m → News h₀ L h' ((D, W.listOf (List.toArray out) c) :: news) → (∀ q ∈ news, q.1 < D) → IntsAre out ms → ms.Perm ns → ms.Pairwise (fun x y => x.natAbs ≤ y.natAbs) → Q (.ref D) { s with heap := h', toks := tk }) :
    wpAny (model prog w) A (call (.builtin "sorted") [.ref l] [(Str.ofString "key", .builtin "abs")]) Q E s :=
  ksk_letter (b := false) (f := .builtin "abs") (fun n => if n < 0 then -n else n) F N (Mine.mkE1A2E1 _ ho rfl _ rfl) hi h64 (ksk_s1 _ _) (fun _ => ksk_l1 _ _) (fun x => ksk_t4 _ x) (fun n t h tk own _ F' N' => call_abs_int fun u tk' => (Mine.mkE3 h tk' u ⟨rfl, rfl, F', N'⟩))
    (fun D vs' ns' c h' tk F' N' hlt hi' _ hp hs _ => h D h' tk vs' ns' c F' N' hlt hi' hp (hs.imp fun {x y} hxy => by
      have hxy' : (if x < 0 then -x else x) ≤ (if y < 0 then -y else y) := by simpa using hxy
      split at hxy' <;> split at hxy' <;> omega))
end

section
variable {w : World} {mg mb : Str → Option Value} {n : Nat} {A : Around} {h₀ : Heap} {L : Addr} {m : Str → Option Value} {s : Shared} {E : Value → Shared → Prop} {Q : Value → Shared → Prop}

theorem forced_spec {a : StA} {ps : List Addr} {cs : List (List Int)} {ck : Int × Int} {al : Addr} {asked : List Int} (C : Cx w mg mb (n + 4) A h₀ L) (F : Fr h₀ L s.heap m)
    (S : StepsAt w s.heap a ps cs [] ck) (O : StOk a ps) (hA : ListInts s.heap al asked) (hal : (al : Nat) ∉ (([a.x, a.dx, a.cl, a.pl, a.he, a.op, a.be, a.ta, a.tr] : List Nat) ++ ps)) (hmut : ∀ b ∈ [a.dx, a.he, a.op, a.ta, a.tr], h₀.get? b = none ∧ b ≠ L) (hcok : ∀ c ∈ cs, ClauseOk c) (hlc : cs.length ≤ 50)
    (hAok : ∀ l ∈ asked, l ≠ 0 ∧ -5 ≤ l ∧ l ≤ 5) (hlA : asked.length ≤ 50)
    (hQ : ∀ v ck' h' tk, StepsAt w h' a ps cs [] ck' → ((v = .none ∧ Conf cs asked) ∨ ∃ D found, v = .ref D ∧ ListInts h' D found ∧ ¬ Conf cs asked ∧ (∀ l, l ∈ found ↔ Der cs asked l) ∧ found.Nodup ∧ (∀ l ∈ found, -l ∉ found) ∧ found.Pairwise (fun x y => x.natAbs ≤ y.natAbs)) →
      Kp [a.dx, a.he, a.op, a.ta, a.tr] s.heap h' → Fr h₀ L h' m → Q v { s with heap := h', toks := tk }) :
    wpAny (model PP w) A (call (.ref 66) [.ref a.x, .ref al]) Q E s := by
  refine' callR (binds := [(Str.ofString "self", .ref a.x), (Str.ofString "literals", .ref al)]) (R := fun v h' => ∃ ck', StepsAt w h' a ps cs [] ck' ∧ ((v = .none ∧ Conf cs asked) ∨ ∃ D found, v = .ref D ∧ ListInts h' D found ∧ ¬ Conf cs asked ∧ (∀ l, l ∈ found ↔ Der cs asked l) ∧ found.Nodup ∧ (∀ l ∈ found, -l ∉ found) ∧ found.Pairwise (fun x y => x.natAbs ≤ y.natAbs))) [a.dx, a.he, a.op, a.ta, a.tr] C F hmut ?ho ?hcd ?hb ?hl ?h ?hQ ?hcell ?c1 ?c2 ?c3
  case ho => exact rfl
  case hcd => exact rfl
  case hb => exact BindsTo.of_eq rfl
  case hl => exact locs rfl
  case hcell => decide
  case c1 => rfl
  case c2 => rfl
  case c3 => rfl
  case hQ =>
    rintro v h' tk ⟨ck', h1, h2⟩ hk' F'
    exact hQ _ _ _ _ h1 h2 hk' F'
  case h =>
    intro g L' h₁ hg hL' C' F' hk₁
    have X := C'.G.X
    have T := C'.G.T
    have hh := C'.hh
    walk_at "hideG"
    (refine Mine.exE2A1 (id S.dx) ?_; intro tte kc hnst123 hck; obtain ⟨hs, ts, nd, hdx⟩ := hnst123)
    have S1 : StepsAt w h₁ a ps cs [] ck := S.kp (ch := []) (fun b o _ e => hk₁ b o e) (fun b hb => nomatch hb) (fun b _ hb => nomatch hb)
    have gdn := gdnOf hg hL' hk₁ fun b hb => S.live b (List.mem_append_left _ ((by walk_at "sub" : ∀ p ∈ _, p ∈ _) _ hb))
    have gdn' : ∀ b ∈ [a.dx, a.he, a.op, a.ta, a.tr], g.get? b = none ∧ b ≠ L' := gdn
    have hA1 : ListInts h₁ al asked := by (refine Mine.exE2A1 hA ?_; (try clear hA); intro vs n e i); exact (Mine.mkE2A1 vs n (hk₁ _ _ e) i)
    have N : News g L' h₁ [] := fun _ h => nomatch h
    obtain ⟨n01, n02, n03, n04, n05, n06, n07, n08, n09, n12, n13, n14, n15, n16, n17, n18, n19, n23, n24, n25, n26, n27, n28, n29, n34, n35, n36, n37, n38, n39, n45, n46, n47, n48, n49, n56, n57, n58, n59, n67, n68, n69, n78, n79, n89, n99⟩ := O.ne
    walk_at "showG"
    have gk := gkOf hg
    have gx := gk _ _ (Mine.nmc n01 (Mine.nmc n04 (Mine.nmc n05 (Mine.nmc n07 (Mine.nmc n08 Mine.nm0))))) S.x
    have hoffL := S.offL hL'
    have hoffd := O.offd2 hoffL
    have hL1 : @LT.lt Nat _ L' h₁.objs.size := F'.ns.lt
    have N' : News g L' h₁ [(a.dx, dictOf (stEs hs ts a (.int (emptyOf cs) tte) (.ref kc)) nd)] := List.forall_mem_cons.mpr ⟨⟨hk₁ _ _ hdx, (gdn _ (by walk_at "sim")).2, (gdn _ (by walk_at "sim")).1⟩, fun _ h => nomatch h⟩
    (repeat' (walk_at "go"))
    refine' run_spec (a := a) (ps := ps) (cs := cs) (ck := ck) (al := al) (asked := asked) C' ?rF S1 O hA1 hal gdn' hcok hlc hAok hlA ?_
    case rF => k_asm
    intro st kvs' ck' h2 tk2 S2 r1 r2 r3 r4 r5 r6 hk2 F2
    walk_at "hideG"
    (refine Mine.exE2A1 (id S2.dx) ?_; intro tte2 kc2 hnst124 hck2; obtain ⟨hs2, ts2, nd2, hdx2⟩ := hnst124)
    (refine Mine.exE2A1 (id S2.tr) ?_; intro vtr2 ntr2 htr2 itr2)
    walk_at "showG"
    have hkl : (keysOf kvs').length = kvs'.length := by simp [keysOf]
    clear N N'
    have N2 : News g L' h2 ((a.dx, dictOf (stEs hs2 ts2 a (.int (emptyOf cs) tte2) (.ref kc2)) nd2) :: snap g L' h2 [a.dx]) := List.forall_mem_cons.mpr ⟨⟨hdx2, (gdn _ (by walk_at "sim")).2, (gdn _ (by walk_at "sim")).1⟩, snap_news⟩
    have htm : (a.tr, W.listOf vtr2.toArray ntr2) ∈ snap g L' h2 [a.dx] := mem_snap.mpr ⟨htr2, (gdn _ (by walk_at "sim")).1, (gdn _ (by walk_at "sim")).2, by simp; exact fun e => n18 e.symm⟩
    have hxd2 : ∀ q ∈ snap g L' h2 [a.dx], q.1 ≠ a.dx := snap_off (by walk_at "sim")
    have hkp2 : ∀ h m, Fr g L' h m → News g L' h (snap g L' h2 [a.dx]) → Kp [L', a.dx] h2 h := fun h m Fh Nh => snap_keep F2.keep Fh Nh
    have hnt2 : NoTup h2 [L', a.dx] := ntL1 F2 hdx2
    generalize hSN2 : snap g L' h2 [a.dx] = SN2 at N2 htm hxd2 hkp2
    (repeat' (walk_at "go"))
    refine' sorted_abs ?sF ?sN ?so itr2 ?sz ?_
    case sF => k_asm
    case sN => k_asm
    case so => walk_at "at"
    case sz => omega
    intro D h3 tk3 out ms c F3 N3 hD3 i3 hp3 hs3
    (repeat' (walk_at "go"))
    dsimp only [List.append_nil]
    rename News _ _ _ _ => N4
    rename Fr _ _ _ _ => F4
    rename_i h4
    have hk4 := hkp2 _ _ F4 (fun q hq => N4 q (.tail _ (.tail _ hq)))
    have S4 := S2.kpd hk4 hnt2 hoffd (Mine.mkE3 hs2 ts2 nd2 ((N4 _ (.tail _ (.head _))).1)) (hck2.kp hk4 (by (refine Mine.exE3 hck2 ?_; (try clear hck2); intro t u n e); exact hnt2.off e))
    refine' undo_spec (a := a) (ps := ps) (cs := cs) (kvs := kvs') (ck := ck') C' ?uF S4 O ?um hcok ?ul ?uk ?_
    case uF => exact F4
    case um => exact fun b hb => gdn b (.tail _ hb)
    case ul => omega
    case uk => omega
    intro h5 tk5 S5 hk5 F5
    have hDn : D ∉ [a.he, a.op, a.ta, a.tr] := fun hb => by
      (refine Mine.exE1 (S2.live D ((by walk_at "sub" : ∀ p ∈ _, p ∈ _) _ hb)) ?_; intro o ho)
      have hg' := gdn D (.tail _ hb)
      by_cases hd : D = a.dx
      · have : @LT.lt Nat _ a.dx D := hD3 _ (.head _)
        rw [hd] at this; exact Nat.lt_irrefl _ this
      · have hm : (D, o) ∈ SN2 := by rw [← hSN2]; exact mem_snap.mpr ⟨ho, hg'.1, hg'.2, by simpa using hd⟩
        exact Nat.lt_irrefl _ (hD3 _ (.tail _ hm))
    have hD5 := hk5 _ _ hDn (N4 _ (.head _)).1
    clear N4
    have N5 : News g L' h5 [] := fun _ h => nomatch h
    (repeat' (walk_at "go"))
    cases st with
    | true =>
      rw [if_pos rfl]
      (repeat' (walk_at "go"))
      (repeat' (walk_at "go")); (try dsimp only)
      rename Fr _ _ _ _ => F6
      (refine Mine.exA3 (r1 rfl) ?_; intro y1 y2 y3 y4)
      exact retR F6 (Mine.mkE1A1 _ S5 (.inr (Mine.mkE2 D ms ⟨rfl, (Mine.mkE2A1 out c hD5 i3), y3, fun l => hp3.mem_iff.trans (y4 l), hp3.nodup_iff.mpr y1, fun l hl hl' => y2 l (hp3.mem_iff.mp hl) (hp3.mem_iff.mp hl'), hs3⟩)))
    | false =>
      rw [if_neg (by decide)]
      (repeat' (walk_at "go"))
      (repeat' (walk_at "go")); (try dsimp only)
      rename Fr _ _ _ _ => F6
      exact retR F6 (Mine.mkE1A1 _ S5 (.inl ⟨rfl, r2 rfl⟩))
end

/-! part M15 -/
set_option maxHeartbeats 4000000

theorem relayAll_led (t : SetTable) (es : Array (Int × Value)) (n : Nat) : (relayAll t es n).2.1.led = t.led := by
  unfold relayAll
  split
  · rename_i t' order h
    dsimp only
    split
    · unfold SetTable.relaid SetTable.laid at h
      cases ho : SetTable.layClean (SetTable.sizeAbove n - 1) (es.map (·.1)) with
      | none => rw [ho] at h; cases h
      | some ow => rw [ho] at h; cases h; rfl
    · rfl
  · rfl
theorem layNew_led (t : SetTable) (es : Array (Int × Value)) (h : Int) (x : Value) : (layNew t es h x).2.1.led = t.led := by
  unfold layNew
  split
  · dsimp only
    unfold SetTable.orStandIn
    split <;> rfl
  · rfl

/-- the order of a set is the text's, or its table is led -/
noncomputable def setText (w : World) : Bool := w.params.followText "set-order"

/-- a set of just these ints -/
def SetL (w : World) (h : Heap) (a : Addr) (ks : List Int) : Prop := ∃ o es ep t ns, h.get? a = some o ∧ o.ExactSet ∧ o.data = .set es ep t ∧ ElemsOf (intKind PP w) es.toList ∧ IntsAre (es.toList.map (·.2)) ns ∧ ns.Perm ks ∧ es.size < scanBound ∧ t.fits es.size = true ∧ (t.led = true ∨ setText w = true)

theorem is_of_int {w : World} {k n : Int} {t : Tok} : (intKind PP w).is k (.int n t) = decide (k = n) := by
  rw [Bool.eq_iff_iff, decide_eq_true_eq]
  exact ⟨fun h => (intKind PP w).inj _ _ _ h (intKind_is _ _ _ _), fun h => h ▸ intKind_is _ _ _ _⟩

theorem find_ints {w : World} {k : Int} : ∀ {es : List (Int × Value)} {ns : List Int}, IntsAre (es.map (·.2)) ns → ((es.findIdx? fun e => (intKind PP w).is k e.2) = none ↔ k ∉ ns) := by
  intro es ns hi
  rw [List.findIdx?_eq_none_iff]
  constructor
  · intro h hk
    (refine Mine.exE1 (List.getElem?_of_mem hk) ?_; intro i hik)
    (refine Mine.exE1 (hi.get i k hik) ?_; intro t ht)
    rw [List.getElem?_map] at ht
    cases he : es[i]? with
    | none => rw [he] at ht; cases ht
    | some e =>
      rw [he] at ht
      have h1 : e.2 = .int k t := by simpa using ht
      have := h e (List.mem_of_getElem? he)
      rw [h1, is_of_int] at this; simp at this
  · intro h e he
    (refine Mine.exE1 (List.getElem?_of_mem he) ?_; intro i hie)
    (refine Mine.exE2A1 (hi.at i e.2 (by rw [List.getElem?_map, hie]; rfl)) ?_; intro n t h1 h2)
    rw [h1, is_of_int]
    exact decide_eq_false fun hk => h (hk ▸ List.mem_of_getElem? h2)

theorem setL_store {w : World} {h : Heap} {a : Addr} {o : Obj} {es : Array (Int × Value)} {ep : Nat} {tb : SetTable} (ho : h.get? a = some o) (hex : o.ExactSet) (hd : o.data = .set es ep tb) {es' : Array (Int × Value)} {t' : SetTable} {ns ks : List Int}
    (hel : ElemsOf (intKind PP w) es'.toList) (hi : IntsAre (es'.toList.map (·.2)) ns) (hp : ns.Perm ks) (hb : es'.size < scanBound) (hf : t'.fits es'.size = true) (hl : t'.led = true ∨ setText w = true) :
    (h.update a (Obj.putSet es' t')).get? a = some { o with data := .set es' (ep + 1) t' } ∧ SetL w (h.update a (Obj.putSet es' t')) a ks := by
  have hg : (h.update a (Obj.putSet es' t')).get? a = some { o with data := .set es' (ep + 1) t' } := by
    have := Heap.get?_update_self (Obj.putSet es' t') ho (by rw [putSet_of es' t' hd]; rfl)
    rw [putSet_of es' t' hd] at this; exact this
  exact ⟨hg, (Mine.mkE5 _ es' (ep + 1) t' ns ⟨hg, hex, rfl, hel, hi, hp, hb, hf, hl⟩)⟩

noncomputable def intOf (v : Value) : Int := match v with | .int n _ => n | _ => 0
theorem ints_map {vs : List Value} {ns : List Int} (h : IntsAre vs ns) : ns = vs.map intOf ∧ ∀ v ∈ vs, ∃ n t, v = .int n t := by
  induction h with
  | nil => exact ⟨rfl, fun _ h => nomatch h⟩
  | cons n t _ ih =>
    refine ⟨by rw [List.map_cons, ← ih.1]; rfl, fun v hv => ?_⟩
    rcases List.mem_cons.mp hv with rfl | hv
    · exact (Mine.mkE2 n t rfl)
    · exact ih.2 v hv
theorem ints_of {vs : List Value} (h : ∀ v ∈ vs, ∃ n t, v = .int n t) : IntsAre vs (vs.map intOf) := by
  induction vs with
  | nil => exact .nil
  | cons v r ih =>
    (refine Mine.exE2 (h v (.head _)) ?_; intro n t hsb125; subst hsb125)
    exact .cons n t (ih fun v hv => h v (.tail _ hv))
theorem ints_perm {vs ws : List Value} {ns : List Int} (hi : IntsAre vs ns) (hp : ws.Perm vs) : ∃ ms, IntsAre ws ms ∧ ms.Perm ns := by
  (refine Mine.exA1 (ints_map hi) ?_; intro e h)
  exact (Mine.mkE1A1 _ (ints_of fun v hv => h v (hp.mem_iff.mp hv)) (by rw [e]; exact hp.map _))

/-! part S1 -/
set_option maxHeartbeats 4000000

/-! the tables of small sets: plain facts -/
def Ris (xs : Array Nat) : Prop := xs.toList.Pairwise (· < ·)

theorem ris_get {xs : Array Nat} (h : Ris xs) {i k : Nat} (h1 : i < k) (h2 : k < xs.size) : xs.getD i 0 < xs.getD k 0 := by
  have := List.pairwise_iff_getElem.mp h i k (by rw [Array.length_toList]; omega) (by rw [Array.length_toList]; omega) h1
  have e1 : xs.getD i 0 = xs[i]'(by omega) := by simp [Array.getD, show i < xs.size by omega]
  have e2 : xs.getD k 0 = xs[k] := by simp [Array.getD, h2]
  rw [e1, e2]; simpa using this

theorem below_go {xs : Array Nat} (hr : Ris xs) (j : Nat) : ∀ fuel lo hi, lo ≤ hi → hi ≤ xs.size → hi - lo ≤ fuel → (∀ i, i < lo → xs.getD i 0 < j) → (∀ i, hi ≤ i → i < xs.size → j ≤ xs.getD i 0) →
    SetTable.below.go xs j fuel lo hi ≤ xs.size ∧ (∀ i, i < SetTable.below.go xs j fuel lo hi → xs.getD i 0 < j) ∧ (∀ i, SetTable.below.go xs j fuel lo hi ≤ i → i < xs.size → j ≤ xs.getD i 0)
  | 0, lo, hi, h1, h2, h3, h4, h5 => by
    have e : lo = hi := by omega
    subst e
    exact ⟨h2, h4, h5⟩
  | fuel + 1, lo, hi, h1, h2, h3, h4, h5 => by
    unfold SetTable.below.go
    by_cases hl : lo < hi
    · rw [if_pos hl]
      dsimp only
      have hgd : xs.getD ((lo + hi) / 2) j = xs.getD ((lo + hi) / 2) 0 := by simp [Array.getD, show (lo + hi) / 2 < xs.size by omega]
      rw [hgd]
      have hm1 : lo ≤ (lo + hi) / 2 := by omega
      have hm2 : (lo + hi) / 2 < hi := by omega
      split
      · rename_i hx
        refine below_go hr j fuel ((lo + hi) / 2 + 1) hi (by omega) h2 (by omega) (fun i hi' => ?_) h5
        by_cases he : i = (lo + hi) / 2
        · rw [he]; exact hx
        · exact Nat.lt_trans (ris_get hr (by omega) (by omega)) hx
      · rename_i hx
        refine below_go hr j fuel lo ((lo + hi) / 2) (by omega) (by omega) (by omega) h4 fun i hi' hs => ?_
        by_cases he : i = (lo + hi) / 2
        · rw [he]; omega
        · have := ris_get hr (i := (lo + hi) / 2) (k := i) (by omega) hs
          omega
    · rw [if_neg hl]
      have e : lo = hi := by omega
      subst e
      exact ⟨h2, h4, h5⟩

theorem below_spec {xs : Array Nat} (hr : Ris xs) (j : Nat) : SetTable.below xs j ≤ xs.size ∧ (∀ i, i < SetTable.below xs j → xs.getD i 0 < j) ∧ (∀ i, SetTable.below xs j ≤ i → i < xs.size → j ≤ xs.getD i 0) :=
  below_go hr j xs.size 0 xs.size (Nat.zero_le _) (Nat.le_refl _) (by omega) (fun _ h => absurd h (Nat.not_lt_zero _)) (fun i h1 h2 => by omega)

theorem below_at {xs : Array Nat} (hr : Ris xs) {j i : Nat} (h1 : ∀ k, k < i → xs.getD k 0 < j) (h2 : ∀ k, i ≤ k → k < xs.size → j ≤ xs.getD k 0) (hi : i ≤ xs.size) : SetTable.below xs j = i := by
  (refine Mine.exA2 (below_spec hr j) ?_; intro b1 b2 b3)
  rcases Nat.lt_trichotomy (SetTable.below xs j) i with h | h | h
  · have := h1 _ h; have := b3 _ (Nat.le_refl _) (by omega); omega
  · exact h
  · have := b2 i h; have := h2 i (Nat.le_refl _) (by omega); omega

theorem insert_ris {xs : Array Nat} (hr : Ris xs) {j : Nat} (hj : xs[SetTable.below xs j]? ≠ some j) : Ris (SetTable.insertAt xs (SetTable.below xs j) j) := by
  (refine Mine.exA2 (below_spec hr j) ?_; intro b1 b2 b3)
  have hget : ∀ i (h : i < xs.toList.length), xs.toList[i] = xs.getD i 0 := fun i h => by
    rw [Array.length_toList] at h
    simp [Array.getD, h]
  have hlt : ∀ b ∈ xs.toList.drop (SetTable.below xs j), j < b := fun b hb => by
    obtain ⟨i, hi, rfl⟩ := List.mem_iff_getElem.mp hb
    rw [List.length_drop, Array.length_toList] at hi
    rw [List.getElem_drop, hget]
    have h0 : j < xs.getD (SetTable.below xs j) 0 := by
      have h1 := b3 _ (Nat.le_refl _) (by omega)
      have h2 : xs[SetTable.below xs j]? = some (xs.getD (SetTable.below xs j) 0) := by
        rw [Array.getElem?_eq_getElem (by omega)]; simp [Array.getD, show SetTable.below xs j < xs.size by omega]
      rw [h2] at hj
      have : xs.getD (SetTable.below xs j) 0 ≠ j := fun e => hj (by rw [e])
      omega
    by_cases he : i = 0
    · subst he; exact h0
    · exact Nat.lt_trans h0 (ris_get hr (by omega) (by omega))
  have hgt : ∀ a ∈ xs.toList.take (SetTable.below xs j), a < j := fun a ha => by
    obtain ⟨i, hi, rfl⟩ := List.mem_iff_getElem.mp ha
    rw [List.length_take] at hi
    rw [List.getElem_take, hget]
    exact b2 i (by omega)
  unfold Ris
  rw [SetTable.toList_insertAt, List.pairwise_append]
  have hpw : (xs.toList.take (SetTable.below xs j) ++ xs.toList.drop (SetTable.below xs j)).Pairwise (· < ·) := by rw [List.take_append_drop]; exact hr
  rw [List.pairwise_append] at hpw
  refine ⟨hpw.1, List.pairwise_cons.mpr ⟨hlt, hpw.2.1⟩, fun a ha b hb => ?_⟩
  rcases List.mem_cons.mp hb with rfl | hb
  · exact hgt a ha
  · exact hpw.2.2 a ha b hb

/-! a free place is found -/
noncomputable def stepsP (t : SetTable) : Nat → SetTable.Probe → SetTable.Probe
  | 0, p => p
  | k + 1, p => stepsP t k (t.advance p)

theorem probe_free {t : SetTable} {hashAt : Nat → Int} {h : Int} (hne : ∀ i, hashAt i ≠ h) (hnd : ∀ j, t.slot j ≠ .dummy) : ∀ fuel p k, k < fuel → t.slot (stepsP t k p).j = .empty → p.dummy = none →
    ∃ j, SetTable.probe.go t hashAt h fuel p = some (.empty j none) ∧ t.slot j = .empty
  | 0, _, _, hk, _, _ => absurd hk (Nat.not_lt_zero _)
  | fuel + 1, p, k, hk, he, hd => by
    unfold SetTable.probe.go
    cases hs : t.slot p.j with
    | empty => exact (Mine.mkE1A1 p.j (by dsimp only; rw [hd]) hs)
    | dummy => exact absurd hs (hnd _)
    | live i =>
      dsimp only
      rw [if_neg (by simpa using hne i)]
      cases k with
      | zero => rw [show stepsP t 0 p = p from rfl, hs] at he; cases he
      | succ k =>
        refine probe_free hne hnd fuel (t.advance p) k (by omega) he ?_
        unfold SetTable.advance
        split <;> exact hd

theorem slot_empty {t : SetTable} (hd : t.dummies = #[]) {j : Nat} : (t.slot j = .empty ↔ t.place[SetTable.below t.place j]? ≠ some j) ∧ t.slot j ≠ .dummy := by
  unfold SetTable.slot
  have hh : SetTable.has t.dummies j = false := by rw [hd]; rfl
  dsimp only
  rw [hh]
  constructor
  · split
    · rename_i h; simp at h; simp [h]
    · rename_i h; simp at h; simp [h]
  · split <;> simp

noncomputable def t7 : SetTable := SetTable.fresh 0 0 true
noncomputable def hs11 : List Int := [-5, -4, -3, -2, -1, 0, 1, 2, 3, 4, 5].map hashInt
theorem cover7 : (hs11.all fun h => (List.range 8).all fun j => (List.range 30).any fun k => (stepsP t7 k (t7.probeStart h)).j == j) = true := by decide +kernel

theorem adv7 {t : SetTable} (hm : t.mask = 7) : ∀ k p, stepsP t k p = stepsP t7 k p
  | 0, _ => rfl
  | k + 1, p => by
    have : t.advance p = t7.advance p := by unfold SetTable.advance; rw [hm]; rfl
    rw [stepsP, stepsP, this, adv7 hm k]

theorem range_pigeon : ∀ {n : Nat} {xs : List Nat}, xs.length < n → ∃ j, j < n ∧ j ∉ xs
  | 0, _, h => absurd h (Nat.not_lt_zero _)
  | n + 1, xs, h => by
    by_cases hm : n ∈ xs
    · have hl := List.length_erase_of_mem hm
      have h0 : 0 < xs.length := List.length_pos_of_mem hm
      (refine Mine.exE1A1 (range_pigeon (n := n) (xs := xs.erase n) (by omega)) ?_; intro j h1 h2)
      exact (Mine.mkE1A1 j (by omega) (fun hj => h2 ((List.mem_erase_of_ne (by omega)).mpr hj)))
    · exact (Mine.mkE1A1 n (by omega) hm)

theorem free_slot {t : SetTable} {h : Int} (hm : t.mask = 7) (hd : t.dummies = #[]) (hs : t.place.size ≤ 6) (hh : h ∈ hs11) : ∃ j, t.freeSlot h = some (j, false) ∧ t.place[SetTable.below t.place j]? ≠ some j := by
  (refine Mine.exE1A1 (range_pigeon (xs := t.place.toList) (n := 8) (by rw [Array.length_toList]; omega)) ?_; intro j hj hn)
  have hc := List.all_eq_true.mp (List.all_eq_true.mp cover7 h hh) j (List.mem_range.mpr hj)
  (refine Mine.exE1A1 (List.any_eq_true.mp hc) ?_; intro k hk hkj)
  have hps : t.probeStart h = t7.probeStart h := by unfold SetTable.probeStart; rw [hm]; rfl
  (refine Mine.exE1A1 (probe_free (t := t) (hashAt := fun _ => h + 1) (h := h) (fun _ => by omega) (fun j => (slot_empty hd).2) (10 * SetTable.turns t.mask) (t.probeStart h) k (by rw [hm]; have := List.mem_range.mp hk; unfold SetTable.turns; omega)
    (by
      rw [adv7 hm, hps, beq_iff_eq.mp hkj]
      exact (slot_empty hd).1.mpr fun e => hn (Array.mem_toList_iff.mpr (Array.mem_of_getElem? e)))
    (by rw [hps]; rfl)) ?_; intro j' h1 h2)
  refine (Mine.mkE1A1 j' ?_ ((slot_empty hd).1.mp h2))
  unfold SetTable.freeSlot SetTable.probe
  rw [h1]; rfl

theorem layNew_ok {t : SetTable} {es : Array (Int × Value)} {h : Int} {x : Value} (hm : t.mask = 7) (hd : t.dummies = #[]) (hr : Ris t.place) (hs : t.place.size = es.size) (h4 : es.size ≤ 5) (hh : h ∈ hs11) :
    (layNew t es h x).2.1.mask = 7 ∧ (layNew t es h x).2.1.dummies = #[] ∧ Ris (layNew t es h x).2.1.place ∧ (layNew t es h x).2.1.plain = t.plain ∧ (layNew t es h x).2.1.led = t.led ∧ (layNew t es h x).2.2.1 = false := by
  (refine Mine.exE1A1 (free_slot hm hd (by omega) hh) ?_; intro j h1 h2)
  unfold layNew
  rw [h1]
  dsimp only
  have hh' : SetTable.has t.dummies j = false := by rw [hd]; rfl
  have hfit : (t.put j).1.fits (SetTable.insertAt es (t.put j).2 (h, x)).size = true := by
    have e1 : (SetTable.insertAt es (t.put j).2 (h, x)).size = es.size + 1 := by
      have := (SetTable.insertAt_perm es (t.put j).2 (h, x)).length_eq
      simpa using this
    have e2 : (SetTable.insertAt t.place (t.put j).2 j).size = es.size + 1 := by
      have := (SetTable.insertAt_perm t.place (t.put j).2 j).length_eq
      rw [Array.length_toList, Array.length_toList, Array.size_push, hs] at this
      exact this
    unfold SetTable.fits SetTable.fill
    have e3 : (t.put j).1.place = SetTable.insertAt t.place (t.put j).2 j := rfl
    have e4 : (t.put j).1.dummies = #[] := by unfold SetTable.put; dsimp only; rw [hh', hd]; rfl
    have e5 : (t.put j).1.mask = 7 := hm
    rw [e3, e4, e5, e1, e2]
    simp; omega
  unfold SetTable.orStandIn
  rw [if_pos hfit]
  refine ⟨hm, ?_, insert_ris hr h2, rfl, rfl, rfl⟩
  unfold SetTable.put; dsimp only; rw [hh', hd]; rfl

/-! part S2 -/
set_option maxHeartbeats 4000000

/-! laying a table of 32 places anew -/
noncomputable def stepsL : Nat → Nat → Nat → Nat × Nat
  | 0, i, q => (i, q)
  | k + 1, i, q => stepsL k (SetTable.leap 31 i q).1 (SetTable.leap 31 i q).2

theorem free_of {ow : Array (Option Nat)} : ∀ fuel i q k, k < fuel → (ow.getD (stepsL k i q).1 (some 0)).isNone = true → ∃ j, SetTable.layClean.free 31 ow fuel i q = some j ∧ (ow.getD j (some 0)).isNone = true
  | 0, _, _, _, hk, _ => absurd hk (Nat.not_lt_zero _)
  | fuel + 1, i, q, k, hk, he => by
    unfold SetTable.layClean.free
    cases hf : (List.range (SetTable.runEnd 31 i + 1 - i)).find? fun k => (ow.getD (i + k) (some 0)).isNone with
    | some k' =>
      have := List.find?_some hf
      exact (Mine.mkE1A1 (i + k') rfl this)
    | none =>
      dsimp only
      cases k with
      | zero =>
        have := List.find?_eq_none.mp hf 0 (List.mem_range.mpr (by unfold SetTable.runEnd; split <;> omega))
        exact absurd he this
      | succ k => exact free_of fuel _ _ k (by omega) he

noncomputable def pathL : Nat → Nat → Nat → List Nat
  | 0, _, _ => []
  | n + 1, i, q => i :: pathL n (SetTable.leap 31 i q).1 (SetTable.leap 31 i q).2
theorem pathL_mem : ∀ {n i q j}, j ∈ pathL n i q → ∃ k, k < n ∧ (stepsL k i q).1 = j
  | 0, _, _, _, h => nomatch h
  | n + 1, i, q, j, h => by
    rcases List.mem_cons.mp h with rfl | h
    · exact (Mine.mkE1A1 0 (by omega) rfl)
    · (refine Mine.exE1A1 (pathL_mem h) ?_; intro k h1 h2)
      exact (Mine.mkE1A1 (k + 1) (by omega) h2)
theorem cover31 : (hs11.all fun h => (List.range 32).all fun j => (pathL 46 (SetTable.bits h % 32) (SetTable.bits h)).contains j) = true := by decide +kernel

structure OwnI (ow : Array (Option Nat)) (k : Nat) : Prop where
  size : ow.size = 32
  own : (ow.toList.filterMap id).Perm (List.range k)

theorem none_mem : ∀ {l : List (Option Nat)}, (l.filterMap id).length < l.length → none ∈ l
  | [], h => absurd h (Nat.not_lt_zero _)
  | none :: r, _ => .head _
  | some x :: r, h => by
    rw [List.filterMap_cons_some (f := id) (a := some x) (b := x) rfl, List.length_cons, List.length_cons] at h
    exact .tail _ (none_mem (by omega))

theorem own_step {ow : Array (Option Nat)} {k j : Nat} (O : OwnI ow k) (hj : (ow.getD j (some 0)).isNone = true) : OwnI (ow.setIfInBounds j (some k)) (k + 1) := by
  have hlt : j < ow.size := by
    apply Classical.byContradiction; intro h
    simp [Array.getD, h] at hj
  refine ⟨by rw [Array.size_setIfInBounds]; exact O.size, ?_⟩
  have hn : ow.toList[j]? = some none := by
    have : ow[j] = none := by simpa [Array.getD, hlt] using hj
    rw [Array.getElem?_toList, Array.getElem?_eq_getElem hlt, this]
  have hl : j < ow.toList.length := by rw [Array.length_toList]; exact hlt
  have e0 : ow.toList = ow.toList.take j ++ none :: ow.toList.drop (j + 1) := by
    have h1 := List.drop_eq_getElem_cons hl
    have h2 : ow.toList[j] = none := by rw [List.getElem?_eq_getElem hl] at hn; exact Option.some.inj hn
    rw [h2] at h1
    rw [← h1, List.take_append_drop]
  have e1 : (ow.setIfInBounds j (some k)).toList = ow.toList.take j ++ some k :: ow.toList.drop (j + 1) := by
    rw [Array.toList_setIfInBounds, List.set_eq_take_append_cons_drop, if_pos hl]
  have ho := O.own
  rw [e0, List.filterMap_append, List.filterMap_cons_none (f := id) (a := none) rfl] at ho
  rw [e1, List.filterMap_append, List.filterMap_cons_some (f := id) (a := some k) (b := k) rfl, List.range_succ]
  exact List.perm_middle.trans ((List.Perm.cons k ho).trans (List.perm_append_singleton k _).symm)

theorem free_ok {ow : Array (Option Nat)} {k : Nat} {h : Int} (O : OwnI ow k) (hk : k < 32) (hh : h ∈ hs11) : ∃ j, SetTable.layClean.free 31 ow (SetTable.turns 31) (SetTable.bits h % 32) (SetTable.bits h) = some j ∧ (ow.getD j (some 0)).isNone = true := by
  have hm : none ∈ ow.toList := none_mem (by rw [O.own.length_eq, List.length_range, Array.length_toList, O.size]; exact hk)
  walk_at "hideG"
  obtain ⟨j, hj, hjn⟩ := List.mem_iff_getElem.mp hm
  rw [Array.length_toList, O.size] at hj
  have hc := List.all_eq_true.mp (List.all_eq_true.mp cover31 h hh) j (List.mem_range.mpr hj)
  (refine Mine.exE1A1 (pathL_mem (List.contains_iff_mem.mp hc)) ?_; intro m h1 h2)
  walk_at "showG"
  refine free_of _ _ _ m (by unfold SetTable.turns; omega) ?_
  rw [h2]
  have : ow[j]'(by rw [O.size]; exact hj) = none := by simpa using hjn
  simp [Array.getD, O.size, hj, this]

theorem fold_ok : ∀ {hs : List Int} {ow : Array (Option Nat)} {k : Nat}, OwnI ow k → k + hs.length ≤ 20 → (∀ h ∈ hs, h ∈ hs11) →
    ∃ ow', hs.foldl (fun acc h => do
      let (owner, k) ← acc
      let j ← SetTable.layClean.free 31 owner (SetTable.turns 31) (SetTable.bits h % (31 + 1)) (SetTable.bits h)
      pure (owner.setIfInBounds j (some k), k + 1)) (some (ow, k)) = some (ow', k + hs.length) ∧ OwnI ow' (k + hs.length)
  | [], ow, k, O, _, _ => (Mine.mkE1A1 ow rfl O)
  | h :: hs, ow, k, O, hl, hm => by
    rw [List.length_cons] at hl ⊢
    (refine Mine.exE1A1 (free_ok O (by omega) (hm h (.head _))) ?_; intro j h1 h2)
    (refine Mine.exE1A1 (fold_ok (hs := hs) (own_step O h2) (by omega) fun h hh => hm h (.tail _ hh)) ?_; intro ow' h3 h4)
    rw [show k + 1 + hs.length = k + (hs.length + 1) by omega] at h3 h4
    refine (Mine.mkE1A1 ow' ?_ h4)
    rw [List.foldl_cons]
    have e : (do
      let (owner, k) ← (some (ow, k) : Option (Array (Option Nat) × Nat))
      let j ← SetTable.layClean.free 31 owner (SetTable.turns 31) (SetTable.bits h % (31 + 1)) (SetTable.bits h)
      pure (owner.setIfInBounds j (some k), k + 1)) = some (ow.setIfInBounds j (some k), k + 1) := by
      show (SetTable.layClean.free 31 ow (SetTable.turns 31) (SetTable.bits h % 32) (SetTable.bits h)).bind _ = _
      rw [h1]; rfl
    rw [e]; exact h3

theorem layClean_ok {hs : Array Int} (hl : hs.size ≤ 20) (hm : ∀ h ∈ hs.toList, h ∈ hs11) : ∃ ow, SetTable.layClean 31 hs = some ow ∧ OwnI ow hs.size := by
  have O0 : OwnI (Array.replicate 32 none) 0 := ⟨by simp, by decide⟩
  (refine Mine.exE1A1 (fold_ok (hs := hs.toList) O0 (by rw [Array.length_toList]; omega) hm) ?_; intro ow h1 h2)
  rw [Array.length_toList, Nat.zero_add] at h1 h2
  refine (Mine.mkE1A1 ow ?_ h2)
  unfold SetTable.layClean
  rw [← Array.foldl_toList]
  rw [show (31 + 1 : Nat) = 32 from rfl] at h1 ⊢
  rw [h1]; rfl

theorem relay_ok {t : SetTable} {es : Array (Int × Value)} (hs : es.size ≤ 20) (hm : ∀ e ∈ es.toList, e.1 ∈ hs11) (hw : ∃ n, SetTable.sizeAbove (SetTable.grown n) = 32 ∧ n = es.size) :
    Ris (relayAll t es (SetTable.grown es.size)).2.1.place ∧ (relayAll t es (SetTable.grown es.size)).2.1.plain = t.plain := by
  walk_at "hideG"
  (refine Mine.exE1A1 hw ?_; (try clear hw); intro n hw hsb126; subst hsb126)
  (refine Mine.exE1A1 (layClean_ok (hs := es.map (·.1)) (by simpa using hs) (by intro h hh; simp at hh; (refine Mine.exE1 hh ?_; (try clear hh); intro x hx); exact hm _ (by simpa using hx))) ?_; intro ow h1 O)
  walk_at "showG"
  have hl : t.relaid (es.map (·.1)) (SetTable.grown es.size) = some ({ mask := 31, place := (((List.range 32).filterMap fun j => (ow.getD j none).map (j, ·)).map (·.1)).toArray, dummies := #[], finger := t.finger, led := t.led, moves := t.movedTo 31, plain := t.plain }, (((List.range 32).filterMap fun j => (ow.getD j none).map (j, ·)).map (·.2)).toArray) := by
    unfold SetTable.relaid SetTable.laid
    rw [hw]
    show (SetTable.layClean 31 (es.map (·.1))).bind _ = _
    rw [h1]; rfl
  generalize hlv : (List.range 32).filterMap (fun j => (ow.getD j none).map (j, ·)) = live at hl
  have hsnd : live.map (·.2) = ow.toList.filterMap id := by
    rw [← hlv, List.map_filterMap]
    have e : ow.toList = (List.range 32).map fun j => ow.getD j none := by
      apply List.ext_getElem
      · rw [Array.length_toList, O.size]; simp
      · intro i a b
        have a' : i < ow.size := by rw [Array.length_toList] at a; exact a
        simp [Array.getD, a']
    rw [e, List.filterMap_map]
    congr 1; funext j
    show ((ow.getD j none).map (j, ·)).map (·.2) = id (ow.getD j none)
    generalize ow.getD j none = z
    cases z <;> rfl
  have hfst : live.map (·.1) = (List.range 32).filter fun j => (ow.getD j none).isSome := by
    rw [← hlv, List.map_filterMap]
    rw [← List.filterMap_eq_filter]
    congr 1; funext j
    show ((ow.getD j none).map (j, ·)).map (·.1) = Option.guard (fun j => (ow.getD j none).isSome) j
    unfold Option.guard
    cases hz : ow.getD j none with
    | none => rw [if_neg (by simp [hz])]; rfl
    | some x => rw [if_pos (by simp [hz])]; rfl
  have hlen : live.length = es.size := by
    have := O.own.length_eq
    rw [← hsnd, List.length_map, List.length_range, Array.size_map] at this
    exact this
  have hp : (live.map (·.2)).Perm (List.range es.size) := by rw [hsnd]; have := O.own; rwa [Array.size_map] at this
  unfold relayAll
  rw [hl]
  dsimp only
  rw [if_pos]
  · refine ⟨?_, rfl⟩
    show List.Pairwise (· < ·) (live.map (·.1))
    rw [hfst]
    exact List.Pairwise.filter _ List.pairwise_lt_range
  · have hc : coversAll (live.map (·.2)).toArray es.size = true := by unfold coversAll; exact List.isPerm_iff.mpr (by simpa using hp)
    rw [hc, Bool.true_and]
    unfold SetTable.fits SetTable.fill
    dsimp only
    have hsz : (Array.filterMap (es[·]?) (live.map (·.2)).toArray).size = es.size := by
      have : (Array.filterMap (es[·]?) (live.map (·.2)).toArray).toList.Perm es.toList := by
        rw [Array.toList_filterMap]
        exact ((show (live.map (·.2)).toArray.toList.Perm (List.range es.size) by simpa using hp).filterMap _).trans (by rw [filterMap_getElem?_range])
      simpa using this.length_eq
    rw [hsz]
    simp [hlen]; omega

/-! part S3 -/
set_option maxHeartbeats 4000000

/-- a small set of just these ints: its table is whole -/
def SetT (w : World) (o : Obj) (ks : List Int) : Prop := ∃ es ep t ns, o.ExactSet ∧ o.data = .set es ep t ∧ ElemsOf (intKind PP w) es.toList ∧ IntsAre (es.toList.map (·.2)) ns ∧ ns.Perm ks ∧ t.fits es.size = true ∧ (t.led = true ∨ setText w = true) ∧ t.plain = true ∧ Ris t.place ∧ ((es.size ≤ 4 ∧ t.mask = 7 ∧ t.dummies = #[]) ∨ es.size = 5)
def SetK (w : World) (h : Heap) (a : Addr) (ks : List Int) : Prop := ∃ o, h.get? a = some o ∧ SetT w o ks

theorem SetT.size {w : World} {o : Obj} {ks : List Int} (h : SetT w o ks) : ∃ es ep t, o.data = .set es ep t ∧ es.size = ks.length := by
  (refine Mine.exE4 h ?_; (try clear h); intro es ep t ns hrun127; refine Mine.exA5 hrun127 ?_; clear hrun127; intro _ hd _ hi hp _)
  refine (Mine.mkE3 es ep t ⟨hd, ?_⟩)
  rw [← hp.length_eq, ← hi.length]; simp

theorem hash_in {k : Int} (h : -5 ≤ k ∧ k ≤ 5) : hashInt k ∈ hs11 := by
  have H : ∀ n : Fin 11, hashInt ((n.val : Int) - 5) ∈ hs11 := by decide +kernel
  have e : ((((k + 5).toNat : Nat) : Int) - 5) = k := by rw [Int.toNat_of_nonneg (Int.add_nonneg_iff_neg_le.mpr h.1)]; exact Int.add_sub_cancel k 5
  exact e ▸ H ⟨(k + 5).toNat, by have := h.1; have := h.2; omega⟩

section
variable {w : World} {A : Around} {E : Value → Shared → Prop} {s : Shared}

theorem wp_gave {g : Bool → Sem Unit} (hg : ∀ b, g b = match b with | true => rule "set.scan.the-table-gave-way" | false => pure ()) {b : Bool} {Q : Unit → Shared → Prop} (h : Q () s) : wpAny (model PP w) A (g b) Q E s := by
  rw [hg]; cases b
  · exact wpAny_pure h
  · exact wpAny_rule h

theorem hash_plain (n : Nat) (k : Int) (t : Tok) : hashByValue n (.int k t) = pure true := by cases n <;> rfl

theorem set_add_int {a : Addr} {ks : List Int} {k : Int} {tk : Tok} {Q : Bool → Shared → Prop} (hS : SetK w s.heap a ks) (hk : -5 ≤ k ∧ k ≤ 5) (hks5 : ∀ x ∈ ks, -5 ≤ x ∧ x ≤ 5) (h5 : k ∉ ks → ks.length ≤ 4)
    (h : ∀ b h', Heap.SameBut a s.heap h' → SetK w h' a (if k ∈ ks then ks else ks ++ [k]) → Q b { s with heap := h' }) :
    wpAny (model PP w) A (setAddHashed a (.int k tk) (hashInt k)) Q E s := by
  (refine Mine.exE1 hS ?_; (try clear hS); intro o hrun128; refine Mine.exA1 hrun128 ?_; clear hrun128; intro ho hrun129; refine Mine.exE4 hrun129 ?_; clear hrun129; intro es ep t ns hrun130; refine Mine.exA9 hrun130 ?_; clear hrun130; intro hex hd hel hi hp hf hl hpl hr hsz)
  have hsc : (Value.int k tk).scannable = true := rfl
  have hkey : (intKind PP w).is k (.int k tk) = true := intKind_is _ _ _ _
  have hks : es.size = ks.length := by rw [← hp.length_eq, ← hi.length]; simp
  have hb : es.size < scanBound := by unfold scanBound; omega
  unfold setAddHashed setAddHashedIn
  refine wpAny_holding (wpAny_bind (wpAny_setState_of ho hd hf ?_))
  dsimp only
  rw [byScan_of hsc hb hel]
  simp only [↓reduceIte]
  unfold setAddByScan
  refine wpAny_bind ?_
  refine wpAny_bind (wpAny_rule ?_)
  refine wpAny_bind (wpAny_setScan_of (knd := intKind PP w) hkey ho hd hf hel ?_)
  cases hfi : List.findIdx? (fun e => (intKind PP w).is k e.2) es.toList with
  | some j =>
    have hin : k ∈ ks := by
      apply Classical.byContradiction; intro hc
      have := (find_ints (w := w) (k := k) hi).mpr fun hm => hc (hp.mem_iff.mp hm)
      rw [hfi] at this; cases this
    refine wpAny_pure (wpAny_pure ?_)
    exact h false s.heap (Heap.SameBut.refl a s.heap) (by rw [if_pos hin]; exact ⟨o, ⟨ho, (Mine.mkE4 es ep t ns ⟨hex, hd, hel, hi, hp, hf, hl, hpl, hr, hsz⟩)⟩⟩)
  | none =>
    have hni : k ∉ ks := fun hm => (find_ints (w := w) (k := k) hi).mp hfi (hp.mem_iff.mpr hm)
    have h4 := h5 hni
    walk_at "hideG"
    (refine Mine.exA2 (show es.size ≤ 4 ∧ t.mask = 7 ∧ t.dummies = #[] from by
      rcases hsz with h | h
      · exact h
      · omega) ?_; intro hs4 hm7 hd0)
    rw [if_neg hni] at h
    have hps : t.place.size = es.size := by
      simp only [SetTable.fits, Bool.and_eq_true, beq_iff_eq, decide_eq_true_eq] at hf
      exact hf.1
    (refine Mine.exA5 (layNew_ok (t := t) (es := es) (x := .int k tk) hm7 hd0 hr hps (by omega) (hash_in hk)) ?_; intro g1 g2 g3 g4 g5 g6)
    walk_at "showG"
    have hperm := layNew_perm t es (hashInt k) (.int k tk)
    have hfits := layNew_fits t es (hashInt k) (.int k tk)
    dsimp only
    generalize layNew t es (hashInt k) (.int k tk) = LL at hperm hfits g1 g2 g3 g4 g5 g6 ⊢
    walk_at "hideG"
    obtain ⟨es1, t1, wd, gv⟩ := LL
    walk_at "showG"
    dsimp only at hperm hfits g1 g2 g3 g4 g5 g6 ⊢
    subst g6
    rw [Array.toList_push] at hperm
    have hel1 : ElemsOf (intKind PP w) es1.toList := (hel.push (knd := intKind PP w) hkey hsc).perm hperm
    have hsz1 : es1.size = es.size + 1 := by rw [← Array.length_toList, hperm.length_eq, List.length_append, Array.length_toList]; rfl
    have hpm : (es1.toList.map (·.2)).Perm (es.toList.map (·.2) ++ [Value.int k tk]) := by have := hperm.map (·.2); rwa [List.map_append] at this
    (refine Mine.exE1A1 (ints_perm (IntsAre.append hi (.cons k tk .nil)) hpm) ?_; intro ms hi1 hp1)
    have hp1' : ms.Perm (ks ++ [k]) := hp1.trans (hp.append_right _)
    have hb1 : es1.size ≤ sizeLine := by rw [sizeLine_eq]; omega
    have hl1 : t1.led = true ∨ setText w = true := by rw [g5]; exact hl
    have hplt : t1.plain = true := g4.trans hpl
    have hg1 : (s.heap.update a (Obj.putSet es1 t1)).get? a = some { o with data := .set es1 (ep + 1) t1 } := by
      have := Heap.get?_update_self (Obj.putSet es1 t1) ho (by rw [putSet_of es1 t1 hd]; rfl)
      rw [putSet_of es1 t1 hd] at this; exact this
    have hfz : t1.place.size = es1.size := by
      simp only [SetTable.fits, Bool.and_eq_true, beq_iff_eq, decide_eq_true_eq] at hfits
      exact hfits.1
    refine wpAny_bind (wp_gave (fun b => by rfl) ?_)
    rw [hplt, if_pos rfl]
    rw [hash_plain]
    refine wpAny_bind (wpAny_bind (wpAny_pure (wpAny_pure ?_)))
    rw [if_pos rfl, Bool.not_false, Bool.true_and]
    refine wpAny_bind (wpAny_storeSet_of ho hd ?_ hb1)
    have hsb1 := Heap.SameBut.update s.heap a (Obj.putSet es1 t1)
    by_cases hz : es1.size ≤ 4
    · rw [if_neg (by unfold SetTable.tooFull SetTable.fill; rw [hfz, g2, g1]; simp; omega)]
      exact wpAny_pure (wpAny_pure (h true _ hsb1 ⟨_, ⟨hg1, (Mine.mkE4 es1 (ep + 1) t1 ms ⟨hex, rfl, hel1, hi1, hp1', hfits, hl1, hplt, g3, .inl ⟨hz, g1, g2⟩⟩)⟩⟩))
    · have hz5 : es1.size = 5 := by omega
      rw [if_pos (by unfold SetTable.tooFull SetTable.fill; rw [hfz, g2, g1]; simp; omega)]
      (refine Mine.exA1 (relay_ok (t := t1) (es := es1) (by omega) (fun e he => by
        walk_at "hideG"
        (refine Mine.exA1 (hel1 e he) ?_; intro hnst131 _; obtain ⟨k', hk', hh⟩ := hnst131)
        walk_at "showG"
        rw [hh]
        refine hash_in ?_
        have hm' : k' ∈ ms := by
          (refine Mine.exE1 (Value.isInt_shape hk') ?_; intro u hu)
          rw [(ints_map hi1).1]
          exact List.mem_map.mpr (Mine.mkE1A1 e.2 (List.mem_map.mpr (Mine.mkE1A1 e he rfl)) (by rw [hu]; rfl))
        rcases List.mem_append.mp (hp1'.mem_iff.mp hm') with h | h
        · exact hks5 _ h
        · rw [List.mem_singleton.mp h]; exact hk) (Mine.mkE1A1 5 (by decide) hz5.symm)) ?_; intro r1 r2)
      have hpr := relayAll_perm t1 es1 (SetTable.grown es1.size)
      have hfr := relayAll_fits t1 es1 (SetTable.grown es1.size)
      have hlr := relayAll_led t1 es1 (SetTable.grown es1.size)
      generalize relayAll t1 es1 (SetTable.grown es1.size) = Rl at hpr hfr hlr r1 r2 ⊢
      obtain ⟨es2, t2, gv2⟩ := Rl
      dsimp only at hpr hfr hlr r1 r2 ⊢
      refine wpAny_bind (wp_gave (fun b => by rfl) ?_)
      have hsz2 : es2.size = 5 := by rw [← hz5, ← Array.length_toList, hpr.length_eq, Array.length_toList]
      refine wpAny_bind (wpAny_storeSet_of hg1 rfl ?_ (by rw [sizeLine_eq]; omega))
      have hpm2 : (es2.toList.map (·.2)).Perm (es1.toList.map (·.2)) := hpr.map _
      (refine Mine.exE1A1 (ints_perm hi1 hpm2) ?_; intro ms2 hi2 hp2)
      have hg2 : ((s.heap.update a (Obj.putSet es1 t1)).update a (Obj.putSet es2 t2)).get? a = some { o with data := .set es2 (ep + 1 + 1) t2 } := by
        have := Heap.get?_update_self (Obj.putSet es2 t2) hg1 (by rw [putSet_of es2 t2 rfl]; rfl)
        rw [putSet_of es2 t2 rfl] at this; exact this
      exact wpAny_pure (wpAny_pure (h true _ (hsb1.trans (Heap.SameBut.update _ a _)) ⟨_, ⟨hg2, (Mine.mkE4 es2 (ep + 1 + 1) t2 ms2 ⟨hex, rfl, hel1.perm hpr, hi2, hp2.trans hp1', hfr, by rw [hlr]; exact hl1, r2.trans hplt, r1, .inr hsz2⟩)⟩⟩))
end

/-! part S4 -/
set_option maxHeartbeats 1600000

noncomputable def addD (acc : List Int) (x : Int) : List Int := if x ∈ acc then acc else acc ++ [x]
theorem mem_addD {acc : List Int} {x y : Int} : y ∈ addD acc x ↔ y ∈ acc ∨ y = x := by
  unfold addD
  split
  · rename_i h; exact ⟨.inl, fun h' => h'.elim id fun e => e ▸ h⟩
  · rw [List.mem_append, List.mem_singleton]
theorem nodup_addD {acc : List Int} {x : Int} (h : acc.Nodup) : (addD acc x).Nodup := by
  unfold addD
  split
  · exact h
  · rename_i hx
    exact List.nodup_append.mpr ⟨h, by simp, fun a ha b hb => by rw [List.mem_singleton.mp hb]; exact fun e => hx (e ▸ ha)⟩
noncomputable def dedA (acc ns : List Int) : List Int := ns.foldl addD acc
theorem mem_dedA : ∀ {ns acc : List Int} {y : Int}, y ∈ dedA acc ns ↔ y ∈ acc ∨ y ∈ ns
  | [], acc, y => by simp [dedA]
  | n :: ns, acc, y => by
    show y ∈ dedA (addD acc n) ns ↔ _
    rw [mem_dedA, mem_addD, List.mem_cons, or_assoc]
theorem nodup_dedA : ∀ {ns acc : List Int}, acc.Nodup → (dedA acc ns).Nodup
  | [], _, h => h
  | _ :: ns, _, h => nodup_dedA (ns := ns) (nodup_addD h)
theorem dedA_snoc {acc ns : List Int} {x : Int} : dedA acc (ns ++ [x]) = addD (dedA acc ns) x := by simp [dedA]

/-- at most five of these can stand in a list without twins -/
def Few (ns : List Int) : Prop := (∀ x ∈ ns, -5 ≤ x ∧ x ≤ 5) ∧ ∀ ks : List Int, ks.Nodup → (∀ x ∈ ks, x ∈ ns) → ks.length ≤ 5

noncomputable def fset (led : Bool) : Obj := { cls := .type "set", dict := none, data := .set #[] 0 (.fresh 0 0 led) }

theorem fset_T {w : World} {led : Bool} (h : led = !setText w) : SetT w (fset led) [] := by
  refine (Mine.mkE4 (#[]) 0 (.fresh 0 0 led) ([]) ⟨⟨rfl, rfl, rfl⟩, rfl, fun _ h => (nomatch h), .nil, .rfl, rfl, ?_, rfl, .nil, .inl ⟨by decide, rfl, rfl⟩⟩)
  show led = true ∨ _
  rw [h]; cases setText w <;> simp

section
variable {w : World} {A : Around} {R : Result → Shared → Prop} {I : Addr} {fp wr : List Addr} {G : Array GenState → Array GenState → Prop} {P : Nat → Value → Prop} {St : Nat → Shared → Prop}

theorem set_loop {ns : List Int} (W : WalksS PP w A.in1 I fp wr G ns.length P St) (S : Addr) (hSf : S ∉ fp) (hval : ∀ i v, P i v → ∃ t, v = .int (ns.getD i 0) t) (hf : Few ns) :
    ∀ (k i : Nat) (s : Shared), ns.length - i = k → i ≤ ns.length → St i s → SetK w s.heap S (dedA [] (ns.take i)) →
      (∀ s', Moved (S :: wr) G s s' → SetK w s'.heap S (dedA [] ns) → R (.ok (.ret .none)) s') → codeAny (model PP w) A (.builtin "set.update.loop" ⟨[.ref S, .ref I], []⟩) R s := by
  have hSw : S ∉ wr := fun h => hSf (W.sub _ h)
  have hsub : ∀ b ∈ wr, b ∈ S :: wr := fun b hb => List.mem_cons_of_mem _ hb
  intro k
  induction k with
  | zero =>
    intro i s hk hi hst hS hR
    have hin : i = ns.length := by omega
    subst hin
    rw [List.take_length] at hS
    refine codeAny_builtin F.entry_set_update_loop ?_
    rw [Around.under_plainId F.plain_set_update_loop _]
    show wpAny _ A.in1 (pyNext (.ref I) >>= _) _ _ s
    refine wpAny_bind (W.done s _ _ hst fun s' hm => ?_)
    refine wpAny_pure (hR s' (hm.mono hsub) ?_)
    (refine Mine.exE1A1 hS ?_; (try clear hS); intro o ho hT)
    exact (Mine.mkE1A1 o (hm.heap S _ hSw ho) hT)
  | succ k ih =>
    intro i s hk hi hst hS hR
    have hlt : i < ns.length := by omega
    have htk : ns.take (i + 1) = ns.take i ++ [ns.getD i 0] := by
      rw [List.take_add_one, List.getElem?_eq_getElem hlt]
      simp [List.getD, hlt]
    refine codeAny_builtin F.entry_set_update_loop ?_
    rw [Around.under_plainId F.plain_set_update_loop _]
    show wpAny _ A.in1 (pyNext (.ref I) >>= _) _ _ s
    refine wpAny_bind (W.item i s _ _ hlt hst fun v s' hP hst' hm => ?_)
    (refine Mine.exE1 (hval i v hP) ?_; intro t hsb132; subst hsb132)
    have hS' : SetK w s'.heap S (dedA [] (ns.take i)) := by
      (refine Mine.exE1A1 hS ?_; (try clear hS); intro o ho hT)
      exact (Mine.mkE1A1 o (hm.heap S _ hSw ho) hT)
    have hmi : ns.getD i 0 ∈ ns := by rw [List.getD_eq_getElem?_getD, List.getElem?_eq_getElem hlt]; exact List.getElem_mem hlt
    have hsb' : ∀ x ∈ dedA [] (ns.take i), x ∈ ns := fun x hx => by
      rcases mem_dedA.mp hx with h | h
      · cases h
      · exact List.mem_of_mem_take h
    refine wpAny_bind (wpAny_holding ?_)
    unfold setAdd
    refine wpAny_holding ?_
    refine wpAny_bind ((intKind PP w).pyHash (k := ns.getD i 0) (intKind_is _ _ _ _) ?_)
    refine set_add_int (s := { s' with toks := s'.toks + 1 }) hS' (hf.1 _ hmi) (fun x hx => hf.1 x (hsb' x hx)) (fun hni => ?_) fun b h' hsb hS2 => ?_
    · have := hf.2 (addD (dedA [] (ns.take i)) (ns.getD i 0)) (nodup_addD (nodup_dedA List.nodup_nil)) fun x hx => by
        rcases mem_addD.mp hx with h | h
        · exact hsb' x h
        · rw [h]; exact hmi
      unfold addD at this
      rw [if_neg hni, List.length_append, List.length_singleton] at this
      omega
    · have hSi : SetK w h' S (dedA [] (ns.take (i + 1))) := by rw [htk, dedA_snoc]; exact hS2
      refine wpAny_pure ⟨plainId_quiet F.plain_set_update_loop _, ih (i + 1) _ (by omega) hlt (W.frame _ s' _ _ hst' (Nat.le_succ _) fun b hb o e => ?_) hSi fun s'' hm'' hS'' => ?_⟩
      · rw [hsb.2 b (fun h : b = S => hSf (by rw [← h]; exact hb))]; exact e
      · refine hR s'' (Moved.trans W.gtrans ((hm.mono hsub).then_heap (Nat.le_succ _) fun b o hb e => ?_) hm'') hS''
        rw [hsb.2 b (fun h : b = S => hb (by rw [h]; exact List.mem_cons_self))]; exact e
end

section
variable {w : World} {A : Around} {E : Value → Shared → Prop} {s : Shared}
theorem set_new {a : Value} {Q₁ : Value → Shared → Prop} (h : ∀ led : Bool, led = !setText w → Q₁ (.ref s.heap.objs.size) { s with heap := s.heap.push (fset led) }) :
    codeAny (model PP w) A (.call (.builtin "set.__new__") ⟨[.type "set", a], []⟩) (wants Q₁ E) s := by
  refine codeAny_of_tree ?_
  show wpAny _ A.in1 (do checkBuiltinCall "set.__new__" ⟨[.type "set", a], []⟩; again (.builtin "set.__new__" ⟨[.type "set", a], []⟩)) _ _ s
  refine wpAny_bind (wpAny_of_eq (F.newCall_set_1 a) (wpAny_pure ⟨plainId_quiet F.plain_set_new _, codeAny_builtin F.entry_set_new ?_⟩))
  rw [Around.under_plainId F.plain_set_new _]
  unfold Builtin.«set.__new__» Builtin.Frozenset.newClass
  have hsub := sub_set_self
  walk_at "hideG"
  obtain ⟨hp, g, d, tk, os⟩ := s
  walk_at "showG"
  dsimp only
  wp_walk
  refine wpAny_askSetting (wpAny_pure ?_)
  dsimp only
  simp only [newObj]
  refine wpAny_bind (wpAny_alloc (wpAny_pure ?_))
  exact wpAny_pure (h _ rfl)

set_option maxHeartbeats 3200000 in
theorem set_call {l : Addr} {vs : List Value} {ns : List Int} {Q : Value → Shared → Prop} (hh : A.handled = none) (hl : s.heap.IsList l vs.toArray) (hi : IntsAre vs ns) (hf : Few ns)
    (h : ∀ h' tk, SetK w h' s.heap.objs.size (dedA [] ns) → (∀ b o, b < s.heap.objs.size → s.heap.get? b = some o → h'.get? b = some o) → Q (.ref s.heap.objs.size) { s with heap := h', toks := tk }) :
    wpAny (model PP w) A (call (.type "set") [.ref l]) Q E s := by
  (refine Mine.exE2 F.called_set.mro ?_; intro c tl hmro)
  have hmade := F.called_set.made
  have hsub := F.called_set.sub
  refine wpAny_call (codeAny_of_tree ?_)
  show wpAny _ _ (callAny (.type "set") _) _ _ _
  refine wpAny_pure ⟨Code.quiet_builtin _ (by decide +kernel), codeAny_builtin F.entry_type_call ?_⟩
  rw [Around.under_plain (weight_type_call_type "set" [.ref l] []) rfl]
  have h1 := F.called_set.notType
  have h2 := F.called_set.canCreate
  have hct := F.typeCall_set_1 (.ref l)
  repeat (any_goals (first | assumption | wp_step))
  refine codeAny_mono (set_new (a := .ref l) (E := E) (Q₁ := fun obj s₁ => ∃ led : Bool, led = !setText w ∧ obj = .ref s.heap.objs.size ∧ s₁ = { s with heap := s.heap.push (fset led) }) fun led e => (Mine.mkE1A2 led e rfl rfl)) fun r s₁ hr => ?_
  cases r with
  | error e => exact hr
  | ok fl =>
    cases fl with
    | ret obj =>
      walk_at "hideG"
      (refine Mine.exE1A2 hr ?_; (try clear hr); intro led hled hsb133 hsb134; subst hsb133; subst hsb134)
      walk_at "showG"
      have hS : (s.heap.push (fset led)).get? s.heap.objs.size = some (fset led) := Heap.get?_push_size _ rfl
      have hT : Shared.TypeIs { s with heap := s.heap.push (fset led) } (.ref s.heap.objs.size) "set" := (Mine.mkE1A1 _ hS rfl)
      have hli := F.called_set.init.lookup
      have hbi := F.called_set.init.bind (.ref s.heap.objs.size)
      repeat (any_goals (first | assumption | wp_step))
      refine codeAny_mono (codeAny_call_builtin (R := wants (fun r s₂ => r = .none ∧ ∃ h' tk, s₂ = { s with heap := h', toks := tk } ∧ SetK w h' s.heap.objs.size (dedA [] ns) ∧
          (∀ b o, b < s.heap.objs.size → s.heap.get? b = some o → h'.get? b = some o)) E) F.called_set.init.plain F.entry_set_init (check_set_init_1 hT ?_)) fun r₂ s₂ hr₂ => ?_
      · (refine Mine.exE1 hl ?_; (try clear hl); intro ol hrun135; refine Mine.exA2 hrun135 ?_; clear hrun135; intro hol hcl hrun136; refine Mine.exE1 hrun136 ?_; clear hrun136; intro nl hdl)
        walk_at "hideG"
        obtain ⟨ocls, odict, odata, oslots⟩ := ol
        walk_at "showG"
        simp only at hcl hdl
        subst hcl; subst hdl
        have hol' : (s.heap.push (fset led)).get? l = some { cls := .type "list", dict := odict, data := .seq vs.toArray nl, slots := oslots } := Heap.get?_push_of_some _ hol
        have hsls := F.sub_list_set
        have hslf := F.sub_list_frozenset
        have hne : (Value.type "list" == Value.type "dict") = false := by decide
        have hl1 : (s.heap.push (fset led)).IsList l vs.toArray := (Mine.mkE1A2E1 _ hol' rfl nl rfl)
        unfold Builtin.«set.__init__» noKeywords Builtin.Frozenset.updateFrom
        generalize hPI : pyIter = PI
        wp_walk
        subst hPI
        refine wpAny_pyIter_list hl1 ?_
        refine wpAny_bind (wpAny_runValue ?_)
        have hlS : l < s.heap.objs.size := Heap.lt_size hol
        have hh3 : A.in1.in1.in1.handled = none := by simp [hh]
        have hneI : l ≠ (s.heap.push (fset led)).objs.size := by
          rw [Heap.size_push]; exact Nat.ne_of_lt (Nat.lt_succ_of_lt hlS)
        have hSf : s.heap.objs.size ∉ [(s.heap.push (fset led)).objs.size, l] := by
          rw [Heap.size_push]; simp only [List.mem_cons, List.not_mem_nil, or_false, not_or]
          exact ⟨Nat.ne_of_lt (Nat.lt_succ_self _), Nat.ne_of_gt hlS⟩
        have hval : ∀ (i : Nat) (v : Value), vs.toArray[i]? = some v → ∃ t, v = .int (ns.getD i 0) t := fun i v hv => IntsAre.int_at hi i v (by simpa using hv)
        have hWn : vs.toArray.size = ns.length := by rw [List.size_toArray]; exact hi.length
        have hW := (Walks.list (prog := PP) (w := w) hh3 (s.heap.push (fset led)).objs.size l hneI vs.toArray).toS
        rw [hWn] at hW
        refine set_loop hW s.heap.objs.size hSf hval hf (ns.length - 0) 0 _ rfl (Nat.zero_le _)
          ⟨(Mine.mkE1A2 _ (Heap.get?_push_size _ rfl) rfl rfl), (hl1.push _)⟩ ?hS0 ?hR
        case hS0 => exact (Mine.mkE1A1 _ (Heap.get?_push_of_some _ hS) (fset_T hled))
        case hR =>
          intro s' hm hS'
          walk_at "hideG"
          obtain ⟨h', g', d', tk', os'⟩ := s'
          walk_at "showG"
          have eg : g' = s.gens := hm.gens
          have ed : d' = s.drawn := hm.drawn
          have eo : os' = s.os := hm.os
          subst eg; subst ed; subst eo
          show wpAny _ _ _ _ _ _
          refine wpAny_pure ?_
          show wpAny _ _ (ret Value.none) _ _ _
          refine wpAny_pure ⟨rfl, (Mine.mkE2A2 h' tk' rfl hS' (fun b o hb e => ?_))⟩
          have hb1 : b ≠ s.heap.objs.size := Nat.ne_of_lt hb
          have hb2 : b ≠ (s.heap.push (fset led)).objs.size := by
            rw [Heap.size_push]; exact Nat.ne_of_lt (Nat.lt_succ_of_lt hb)
          exact hm.heap b o (Mine.nmc hb1 (Mine.nmc hb2 Mine.nm0)) (Heap.get?_push_of_some _ (Heap.get?_push_of_some _ e))
      · cases r₂ with
        | error e => exact hr₂
        | ok fl₂ =>
          cases fl₂ with
          | ret r =>
            walk_at "hideG"
            (refine Mine.exA1 hr₂ ?_; (try clear hr₂); intro hsb137 hrun139; refine Mine.exE2 hrun139 ?_; clear hrun139; intro h' tk hrun140; refine Mine.exA2 hrun140 ?_; clear hrun140; intro hsb138 hS' hk'; subst hsb137; subst hsb138)
            walk_at "showG"
            repeat (any_goals (first | assumption | wp_step))
            exact h _ _ hS' hk'
          | _ => exact hr₂.elim
    | _ => exact hr.elim
end

section
variable {w : World} {A : Around} {E : Value → Shared → Prop} {s : Shared} {h₀ : Heap} {L : Addr} {m : Str → Option Value} {news : List (Addr × Obj)}
theorem set_N {l : Addr} {vs : List Value} {ns : List Int} {n : Nat} {Q : Value → Shared → Prop} (F : Fr h₀ L s.heap m) (N : News h₀ L s.heap news)
    (hh : A.handled = none) (hl : s.heap.get? l = some (W.listOf vs.toArray n)) (hi : IntsAre vs ns) (hf : Few ns)
    (h : ∀ D h' tk o, Fr h₀ L h' m → News h₀ L h' ((D, o) :: news) → (∀ q ∈ news, q.1 < D) → SetT w o (dedA [] ns) → Q (.ref D) { s with heap := h', toks := tk }) :
    wpAny (model PP w) A (call (.type "set") [.ref l]) Q E s := by
  refine set_call hh (Mine.mkE1A2E1 _ hl rfl _ rfl) hi hf fun h' tk hS hk => ?_
  (refine Mine.exE1A1 hS ?_; (try clear hS); intro o ho hT)
  (refine Mine.exE3A1 F.ns ?_; intro oL _ _ hL _)
  have hLlt : L < s.heap.objs.size := Heap.lt_size hL
  refine h _ h' tk o ⟨F.ns.at' fun o' e => hk L o' hLlt e, fun b o' e => hk b o' (Heap.lt_size (F.keep b o' e)) (F.keep b o' e), F.above⟩ (fun p hp => ?_) (fun q hq => Heap.lt_size (N q hq).1) hT
  rcases List.mem_cons.mp hp with rfl | hp
  · refine ⟨ho, Nat.ne_of_gt hLlt, ?_⟩
    cases hq : h₀.get? s.heap.objs.size with
    | none => rfl
    | some o' => exact absurd (Heap.lt_size (F.keep _ _ hq)) (Nat.lt_irrefl _)
  · exact ⟨hk _ _ (Heap.lt_size (N p hp).1) (N p hp).1, (N p hp).2.1, (N p hp).2.2⟩
end

/-! part S5 -/
set_option maxHeartbeats 1600000

theorem pick_go {α : Type} (next : Nat → Nat) : ∀ (fuel k : Nat) (left : List α) (out : Array α), fuel = left.length → (pickOrder.go next fuel k left out).toList.Perm (out.toList ++ left)
  | 0, k, left, out, h => by
    have : left = [] := List.length_eq_zero_iff.mp h.symm
    subst this
    unfold pickOrder.go
    simp
  | fuel + 1, k, left, out, h => by
    unfold pickOrder.go
    have hp : 0 < left.length := by omega
    have hlt : next k % left.length < left.length := Nat.mod_lt _ hp
    rw [List.getElem?_eq_getElem hlt]
    dsimp only
    have hl : (left.eraseIdx (next k % left.length)).length = left.length - 1 := List.length_eraseIdx_of_lt hlt
    refine (pick_go next fuel (k + 1) _ _ (by rw [hl]; omega)).trans ?_
    rw [Array.toList_push, List.append_assoc]
    refine (List.Perm.refl out.toList).append ?_
    have h1 : left = left.take (next k % left.length) ++ left[next k % left.length] :: left.drop (next k % left.length + 1) := by rw [← List.drop_eq_getElem_cons hlt, List.take_append_drop]
    have h2 := List.eraseIdx_eq_take_drop_succ left (next k % left.length)
    rw [h2]
    exact (List.perm_middle (l₁ := left.take (next k % left.length)) (l₂ := left.drop (next k % left.length + 1))).symm.trans (.of_eq h1.symm)
theorem pick_perm {α : Type} (next : Nat → Nat) (xs : Array α) : (pickOrder next xs).toList.Perm xs.toList := by
  have := pick_go next xs.size 0 xs.toList #[] (by rw [Array.length_toList])
  simpa [pickOrder] using this

section
variable {w : World}
/-- the set at S gives its items one by one, in an order of its own -/
structure SetWalkOf (w : World) (S : Addr) (o : Obj) (xs : List Value) (sl : Nat → Nat) (ep : Nat) : Prop where
  cls : o.cls = .type "set"
  zero : sl 0 = 0
  entries : ∀ {A : Around} {E : Value → Shared → Prop} {s : Shared} {Q : Array (Int × Value) → Shared → Prop}, s.heap.get? S = some o → (∀ es, es.size = xs.length → Q es s) → wpAny (model PP w) A (setEntries S) Q E s
  epoch : ∀ {A : Around} {E : Value → Shared → Prop} {s : Shared} {Q : Nat → Shared → Prop}, s.heap.get? S = some o → Q ep s → wpAny (model PP w) A (setEpoch S) Q E s
  undrawn : ∀ {A : Around} {E : Value → Shared → Prop} {s : Shared} {Q : Bool → Shared → Prop}, s.heap.get? S = some o → Q false s → wpAny (model PP w) A (setDrawn S) Q E s
  next : ∀ {A : Around} {E : Value → Shared → Prop} {s : Shared} {i : Nat} {Q : Option (Value × Nat) → Shared → Prop}, s.heap.get? S = some o → i ≤ xs.length → Q ((xs[i]?).map fun x => (x, sl (i + 1))) s → wpAny (model PP w) A (setNext S (sl i) i ep) Q E s

noncomputable def tabSlot (t : SetTable) : Nat → Nat
  | 0 => 0
  | i + 1 => t.place.getD i 0 + 1

theorem tabSlot_below {t : SetTable} (hr : Ris t.place) {i : Nat} (hi : i ≤ t.place.size) : SetTable.below t.place (tabSlot t i) = i := by
  refine below_at hr (fun k hk => ?_) (fun k h1 h2 => ?_) hi
  · cases i with
    | zero => exact absurd hk (Nat.not_lt_zero _)
    | succ i =>
      show _ < t.place.getD i 0 + 1
      by_cases he : k = i
      · subst he; exact Nat.lt_succ_self _
      · have := ris_get hr (i := k) (k := i) (by omega) (by omega); omega
  · cases i with
    | zero => exact Nat.zero_le _
    | succ i =>
      show t.place.getD i 0 + 1 ≤ _
      exact ris_get hr (by omega) h2

theorem setT_walk (S : Addr) {o : Obj} {ks : List Int} (hT : SetT w o ks) : ∃ xs sl ep ns, SetWalkOf w S o xs sl ep ∧ IntsAre xs ns ∧ ns.Perm ks := by
  (refine Mine.exE4 hT ?_; (try clear hT); intro es ep t ns hrun141; refine Mine.exA9 hrun141 ?_; clear hrun141; intro hex hd hel hi hp hf hl hpl hr hsz)
  have hps : t.place.size = es.size := by
    simp only [SetTable.fits, Bool.and_eq_true, beq_iff_eq, decide_eq_true_eq] at hf
    exact hf.1
  have hun : ∀ {A : Around} {E : Value → Shared → Prop} {s : Shared} {Q : Bool → Shared → Prop}, s.heap.get? S = some o → Q false s → wpAny (model PP w) A (setDrawn S) Q E s := fun ho h => by
    unfold setDrawn
    refine wpAny_bind (wpAny_setState_of ho hd hf ?_)
    unfold setsByText
    refine wpAny_bind (wpAny_bind (wpAny_askSetting (wpAny_pure ?_)))
    refine wpAny_pure ?_
    have e : ∀ b : Bool, (b && (!t.plain && decide (es.size > 1))) = false := fun b => by rw [hpl]; cases b <;> rfl
    exact (e _).symm ▸ h
  by_cases htx : setText w = true
  · have hpm := (pick_perm (w.params.setOrder S ep) es)
    (refine Mine.exE1A1 (ints_perm hi (hpm.map (·.2))) ?_; intro ms hi2 hp2)
    refine (Mine.mkE4 ((pickOrder (w.params.setOrder S ep) es).toList.map (·.2)) (fun _ => 0) ep ms ⟨⟨hex.1, rfl, fun ho h => wpAny_setEntries_of ho hd hf (h _ ?_), fun ho h => wpAny_setEpoch_of ho hd hf h, hun, fun {A E s i Q} ho hi' h => ?_⟩, hi2, hp2.trans hp⟩)
    · rw [List.length_map, hpm.length_eq, Array.length_toList]
    · unfold setNext
      refine wpAny_bind (wpAny_setState_of ho hd hf ?_)
      dsimp only
      refine wpAny_bind ?_
      unfold setsByText
      refine wpAny_bind (wpAny_askSetting (wpAny_pure ?_))
      refine wpAny_ite_split (fun _ => ?_) (fun hab => absurd htx hab)
      refine wpAny_ite_split (fun hab => absurd hab (by simp)) (fun _ => ?_)
      refine wpAny_bind ?_
      unfold setWalk
      refine wpAny_bind (wpAny_setState_of ho hd hf ?_)
      unfold setsByText
      refine wpAny_bind (wpAny_bind (wpAny_askSetting (wpAny_pure ?_)))
      refine wpAny_ite_split (fun _ => ?_) (fun hab => absurd htx hab)
      refine wpAny_bind (wpAny_askSetting (wpAny_pure ?_))
      refine wpAny_pure ?_
      rw [List.getElem?_map, Option.map_map] at h
      rw [← Array.getElem?_toList]
      exact h
  · have htf : setText w = false := by simpa using htx
    have hled : t.led = true := hl.resolve_right htx
    refine (Mine.mkE4 (es.toList.map (·.2)) (tabSlot t) ep ns ⟨⟨hex.1, rfl, fun ho h => wpAny_setEntries_of ho hd hf (h _ (by simp)), fun ho h => wpAny_setEpoch_of ho hd hf h, hun, fun {A E s i Q} ho hi' h => ?_⟩, hi, hp⟩)
    unfold setNext
    refine wpAny_bind (wpAny_setState_of ho hd hf ?_)
    dsimp only
    refine wpAny_bind ?_
    unfold setsByText
    refine wpAny_bind (wpAny_askSetting (wpAny_pure ?_))
    refine wpAny_ite_split (fun hab => absurd hab htx) (fun _ => ?_)
    refine wpAny_ite_split (fun hab => ?_) (fun _ => ?_)
    · have h' : (!t.plain && decide (es.size > 1)) = true := hab
      rw [hpl] at h'; cases h'
    · have hi2 : i ≤ es.size := by rw [List.length_map, Array.length_toList] at hi'; exact hi'
      rw [tabSlot_below hr (by omega)]
      show wpAny _ _ ((if (!t.led && !es.isEmpty) = true then unsupported _ else pure ()) >>= _) _ _ _
      rw [hled]
      refine wpAny_bind (wpAny_pure ?_)
      refine wpAny_pure ?_
      rw [List.getElem?_map, Option.map_map, Array.getElem?_toList] at h
      by_cases hlt : i < es.size
      · rw [Array.getElem?_eq_getElem hlt] at h ⊢
        rw [Array.getElem?_eq_getElem (show i < t.place.size by omega)]
        have e : tabSlot t (i + 1) = t.place[i]'(by omega) + 1 := by
          show t.place.getD i 0 + 1 = _
          simp [Array.getD, show i < t.place.size by omega]
        rw [e] at h
        exact h
      · rw [Array.getElem?_eq_none (by omega)] at h ⊢
        exact h
end

/-! part S6 -/
set_option maxHeartbeats 1600000

theorem set_entry_iter : entryFor table "set.__iter__" = some Builtin.«frozenset.__iter__» :=
  entryFor_alias (id' := "frozenset.__iter__") (by kernel_rfl) rfl (by decide +kernel) (by kernel_rfl)
theorem setit_slot_next : Slot "set_iterator" "__next__" "set_iterator.__next__" :=
  .of (owner := "set_iterator") (n := "__next__") (by rw [typeLookup_type, builtinLookup_eq_fast]; kernel_rfl) (by decide +kernel) (by decide +kernel) (by decide +kernel)
    (by first | exact .inl (by decide +kernel) | exact .inr (by decide +kernel)) (by rw [isSubtype_type]; kernel_rfl)
theorem setit_slot_iter : Slot "set_iterator" "__iter__" "set_iterator.__iter__" :=
  .of (owner := "set_iterator") (n := "__iter__") (by rw [typeLookup_type, builtinLookup_eq_fast]; kernel_rfl) (by decide +kernel) (by decide +kernel) (by decide +kernel)
    (by first | exact .inl (by decide +kernel) | exact .inr (by decide +kernel)) (by rw [isSubtype_type]; kernel_rfl)
theorem setit_entry_next : entryFor table "set_iterator.__next__" = some Builtin.«set_iterator.__next__» := entryFor_of_tree (by kernel_rfl)
theorem setit_entry_iter : entryFor table "set_iterator.__iter__" = some Builtin.«dict_keyiterator.__iter__» :=
  entryFor_alias (id' := "dict_keyiterator.__iter__") (by kernel_rfl) rfl (by decide +kernel) (by kernel_rfl)
theorem setit_args_next (a : Value) : argsOk "set_iterator.__next__" ⟨[a], []⟩ := by unfold argsOk; kernel_rfl
theorem setit_args_iter (a : Value) : argsOk "set_iterator.__iter__" ⟨[a], []⟩ := by unfold argsOk; kernel_rfl

noncomputable def setItObj (S : Addr) (sl i n ep : Nat) : Obj := { cls := .type "set_iterator", data := .fields #[.int sl 0, .int i 0, .ref S, .int n 0, .int ep 0] }
def SetItAt (h : Heap) (I S : Addr) (sl i n ep : Nat) : Prop := ∃ o, h.get? I = some o ∧ o.cls = .type "set_iterator" ∧ o.data = .fields #[.int sl 0, .int i 0, .ref S, .int n 0, .int ep 0]
theorem SetItAt.typeIs {s : Shared} {I S : Addr} {sl i n ep : Nat} (h : SetItAt s.heap I S sl i n ep) : s.TypeIs (.ref I) "set_iterator" := let ⟨o, ho, hc, _⟩ := h; (Mine.mkE1A1 o ho hc)

section
variable {w : World} {A : Around} {E : Value → Shared → Prop} {s : Shared} {S I : Addr} {o : Obj} {xs : List Value} {sl : Nat → Nat} {ep : Nat}

theorem set_pyIter {Q : Value → Shared → Prop} (W : SetWalkOf w S o xs sl ep) (ho : s.heap.get? S = some o) (hQ : Q (.ref s.heap.objs.size) { s with heap := s.heap.push (setItObj S (sl 0) 0 xs.length ep) }) :
    wpAny (model PP w) A (pyIter (.ref S)) Q E s := by
  have hT : s.TypeIs (.ref S) "set" := (Mine.mkE1A1 o ho W.cls)
  refine wpAny_pyIter_slot hT F.slot_set_iter (wpAny_call_entry F.slot_set_iter hT set_entry_iter ?_ (F.args_set_iter_1 _))
  unfold Builtin.«frozenset.__iter__»
  refine wpAny_bind ?_
  show wpAny _ _ (pure S) _ _ s
  refine wpAny_pure ?_
  refine wpAny_bind ?_
  unfold Builtin.Frozenset.sizeOf
  refine wpAny_bind (W.entries ho fun es hes => wpAny_pure ?_)
  refine wpAny_bind (W.undrawn ho ?_)
  refine wpAny_ite_split (fun hab => absurd hab (by decide)) (fun _ => ?_)
  refine wpAny_bind (wpAny_pure ?_)
  refine wpAny_bind (W.epoch ho ?_)
  refine wpAny_bind (wpAny_newObj_type (wpAny_pure ⟨_, ⟨rfl, (Mine.mkE2A2 ("set_iterator") _ (Mine.mkE1A1 _ (Heap.get?_push_size _ rfl) rfl) setit_slot_next.lookup ?_)⟩⟩))
  have e := hQ
  rw [W.zero] at e
  rw [hes]
  exact e

theorem setit_self {i : Nat} {sl₀ n : Nat} {Q : Value → Shared → Prop} (hit : SetItAt s.heap I S sl₀ i n ep) (h : Q (.ref I) s) : wpAny (model PP w) A (pyIter (.ref I)) Q E s := by
  refine wpAny_pyIter_slot hit.typeIs setit_slot_iter (wpAny_call_entry setit_slot_iter hit.typeIs setit_entry_iter ?_ (setit_args_iter _))
  exact wpAny_pure ⟨_, ⟨rfl, (Mine.mkE2A2 ("set_iterator") _ hit.typeIs setit_slot_next.lookup h)⟩⟩

theorem setit_item {i : Nat} {x : Value} {Q : Option Value → Shared → Prop} (W : SetWalkOf w S o xs sl ep) (hne : S ≠ I) (ho : s.heap.get? S = some o) (hit : SetItAt s.heap I S (sl i) i xs.length ep) (hx : xs[i]? = some x)
    (hQ : ∀ h', SetItAt h' I S (sl (i + 1)) (i + 1) xs.length ep → Heap.SameBut I s.heap h' → Q (some x) { s with heap := h' }) : wpAny (model PP w) A (pyNext (.ref I)) Q E s := by
  (refine Mine.exE1A2 (id hit) ?_; intro oi hoi hc hd)
  have hlt : i < xs.length := (List.getElem?_eq_some_iff.mp hx).1
  unfold pyNext
  refine wpAny_bind (wpAny_attempt (wpAny_callSpecial?_slot (name := Str.ofString "__next__") hit.typeIs setit_slot_next
    (wpAny_call_entry setit_slot_next hit.typeIs setit_entry_next ?_ (setit_args_next _))))
  unfold Builtin.«set_iterator.__next__»
  refine wpAny_bind (wpAny_pure ?_)
  refine wpAny_bind (wpAny_fieldsOf hoi hd ?_)
  show wpAny _ _ (setEntries S >>= _) _ _ s
  refine wpAny_bind (W.entries ho fun es hes => ?_)
  refine wpAny_ite_split (fun hab => absurd hab (by rw [hes]; simp)) (fun _ => ?_)
  show wpAny _ _ (setNext S (sl i) i ep >>= _) _ _ s
  refine wpAny_bind (W.next ho (Nat.le_of_lt hlt) ?_)
  rw [hx]
  show wpAny _ _ (setField (.ref I) 0 (rawInt (sl (i + 1))) >>= _) _ _ s
  refine wpAny_bind (wpAny_setField hoi hd (by simp) ?_)
  have h1 : (s.heap.update I (Obj.mapFields (·.setIfInBounds 0 (rawInt (sl (i + 1)))))).get? I = some (Obj.mapFields (·.setIfInBounds 0 (rawInt (sl (i + 1)))) oi) := Heap.get?_update_self _ hoi (Obj.isFreed_of_fields (Obj.data_mapFields hd _))
  have hd1 := Obj.data_mapFields hd (·.setIfInBounds 0 (rawInt (sl (i + 1))))
  refine wpAny_bind (wpAny_setField h1 hd1 (by simp) ?_)
  refine wpAny_pure (Mine.mkE1A1 _ rfl (wpAny_pure (hQ _ (Mine.mkE1A2 _ (Heap.get?_update_self _ h1 (Obj.isFreed_of_fields (Obj.data_mapFields hd1 _))) ?_ ?_) ((Heap.SameBut.update ..).trans (Heap.SameBut.update ..)))))
  · exact (Obj.cls_mapFields ..).trans ((Obj.cls_mapFields ..).trans hc)
  · rw [Obj.data_mapFields hd1]; simp [rawInt]

theorem setit_end {Q : Option Value → Shared → Prop} (hh : A.handled = none) (W : SetWalkOf w S o xs sl ep) (hne : S ≠ I) (ho : s.heap.get? S = some o) (hit : SetItAt s.heap I S (sl xs.length) xs.length xs.length ep)
    (hQ : ∀ h', Heap.ExtBut I s.heap h' → Q none { s with heap := h' }) : wpAny (model PP w) A (pyNext (.ref I)) Q E s := by
  (refine Mine.exE1A2 (id hit) ?_; intro oi hoi hc hd)
  unfold pyNext
  refine wpAny_bind (wpAny_attempt (wpAny_callSpecial?_slot (name := Str.ofString "__next__") hit.typeIs setit_slot_next
    (wpAny_call_entry setit_slot_next hit.typeIs setit_entry_next ?_ (setit_args_next _))))
  unfold Builtin.«set_iterator.__next__»
  refine wpAny_bind (wpAny_pure ?_)
  refine wpAny_bind (wpAny_fieldsOf hoi hd ?_)
  show wpAny _ _ (setEntries S >>= _) _ _ s
  refine wpAny_bind (W.entries ho fun es hes => ?_)
  refine wpAny_ite_split (fun hab => absurd hab (by rw [hes]; simp)) (fun _ => ?_)
  show wpAny _ _ (setNext S (sl xs.length) xs.length ep >>= _) _ _ s
  refine wpAny_bind (W.next ho (Nat.le_refl _) ?_)
  rw [List.getElem?_eq_none (Nat.le_refl _)]
  show wpAny _ _ (setField (.ref I) 2 .none >>= _) _ _ s
  refine wpAny_bind (wpAny_setField hoi hd (by simp) ?_)
  show wpAny _ _ (newExc (.type "StopIteration") [] >>= _) _ _ _
  refine wpAny_bind ?_
  simp only [newExc, newTuple]
  refine wpAny_bind (wpAny_newObj_type ?_ (by size_fits))
  refine wpAny_bind (m := firstArgMember _ _) (wpAny_of_eq (a := Value.none) (by first | rfl | (simp only [firstArgMember]; rfl)) ?_)
  refine wpAny_newObj_type ?_ (by size_fits)
  simp only [raiseNew]
  refine wpAny_bind (wpAny_handled ?_)
  rw [show A.in1.handled = none from hh]
  refine wpAny_bind (wpAny_pure (wpAny_throw ?_))
  refine wpAny_bind (wpAny_isInstance (T := "StopIteration") (b := true) (Mine.mkE1A1 _ (Heap.get?_push_size _ rfl) rfl) isSubtype_stop ?_)
  exact wpAny_pure (hQ _ (((Heap.SameBut.update ..).extBut.push _).push _))

theorem set_walks (hh : A.handled = none) (W : SetWalkOf w S o xs sl ep) (hne : S ≠ I) : Walks PP w A I [I, S] [I] xs.length (fun i v => xs[i]? = some v) (fun i h => SetItAt h I S (sl i) i xs.length ep ∧ h.get? S = some o) where
  sub := fun b hb => by simp at hb; simp [hb]
  frame := fun _ _ _ st hk => ⟨let ⟨oi, h1, r⟩ := st.1; (Mine.mkE1A1 oi (hk I (by simp) oi h1) r), hk S (by simp) _ st.2⟩
  item := fun i s Q E hi st hQ => by
    refine setit_item W hne st.2 st.1 (x := xs[i]) (by simp [hi]) fun h' hit' hs' => ?_
    exact hQ _ h' s.toks (by simp [hi]) ⟨hit', hs'.extBut S _ hne st.2⟩ fun b o hb e => hs'.extBut b o (fun h => hb (by simp [h])) e
  done := fun s Q E st hQ => setit_end hh W hne st.2 st.1 fun h' he' => hQ h' s.toks fun b o hb e => he' b o (fun h => hb (by simp [h])) e
  self := fun _ _ _ _ st hQ => setit_self st.1 hQ

theorem set_hint {Q : Bool → Shared → Prop} (hT : s.TypeIs (.ref S) "set") (h : Q false s) : wpAny (model PP w) A (Builtin.List.listLengthHint (.ref S)) Q E s := by
  unfold Builtin.List.listLengthHint
  refine wpAny_bind (wpAny_specialOf hT PySem.F.slot_set_len.lookup ?_)
  generalize hid : ("set.__len__" : String) = id0
  wp_delta
  rw [show splitId id0 = some ("set", "__len__") from by subst hid; decide +kernel]
  subst hid
  refine wpAny_bind (wpAny_isInstance (T := "set") (b := true) hT sub_set_self ?_)
  refine wpAny_ite_split (fun hab => absurd hab (by decide)) (fun _ => ?_)
  refine wpAny_ite_split (fun _ => ?_) (fun hab => absurd (by decide +kernel) hab)
  refine wpAny_bind (wpAny_typeOf hT ?_)
  exact wpAny_pure h

theorem set_src (W : SetWalkOf w S o xs sl ep) : KdlSrc PP w "set" S S xs.length (fun i v => xs[i]? = some v) (fun h => h.get? S = some o) where
  type := fun _ ho => (Mine.mkE1A1 o ho W.cls)
  there := fun _ ho => ⟨Heap.lt_size ho, Heap.lt_size ho⟩
  keep := fun _ _ ho hk => hk S (.inl rfl) o ho
  notList := by decide
  notTuple := by decide
  hint := fun _ _ _ _ ho hq => set_hint (Mine.mkE1A1 o ho W.cls) hq
  iter := fun _ s hh ho => (Mine.mkE2A2 _ _ (fun _ _ hq => set_pyIter W ho hq) (set_walks hh W (Nat.ne_of_lt (Heap.lt_size ho))) ⟨(Mine.mkE1A2 _ (Heap.get?_push_size _ rfl) rfl rfl), Heap.get?_push_of_some _ ho⟩)
end

/-! part S7 -/
set_option maxHeartbeats 1600000

def ColR (s : Shared) (xs : List Value) (r : Result) (s' : Shared) : Prop := ∃ h' tk acc' c', r = .ok (.ret (.ref s.heap.objs.size)) ∧ s' = { s with heap := h', toks := tk } ∧ (∀ b o, b ≠ s.heap.objs.size → (s.heap.push { cls := .type "list", data := .seq ([] : List Value).toArray }).get? b = some o → h'.get? b = some o) ∧
    h'.get? s.heap.objs.size = some { cls := .type "list", dict := none, data := .seq acc' c', slots := #[] } ∧ ItemsOf (fun i v => xs[i]? = some v) acc' xs.length

section
variable {w : World} {A : Around} {E : Value → Shared → Prop} {s : Shared} {S : Addr} {o : Obj} {xs : List Value} {sl : Nat → Nat} {ep : Nat}
theorem set_collect {Q : List Value → Shared → Prop} (hh : A.handled = none) (W : SetWalkOf w S o xs sl ep) (ho : s.heap.get? S = some o) (hn : xs.length ≤ sizeLine)
    (hQ : ∀ h' tk, (∀ b o, s.heap.get? b = some o → h'.get? b = some o) → Q xs { s with heap := h', toks := tk }) : wpAny (model PP w) A (collect (.ref S)) Q E s := by
  have hlt : S < s.heap.objs.size := Heap.lt_size ho
  unfold collect
  refine wpAny_bind (wpAny_runValue ?_)
  refine codeAny_mono (R := ColR s xs) ?_ fun r s' hr => ?_
  · refine codeAny_builtin F.entry_proto_collect ?_
    rw [Around.under_plainId F.plain_proto_collect _]
    show wpAny _ A.in1 (newList [] >>= fun l => again (.builtin "list.__iadd__" ⟨[l, .ref S], []⟩)) _ _ s
    refine wpAny_bind (wpAny_newObj_type ?_)
    refine wpAny_pure ⟨plainId_quiet F.plain_list_iadd _, codeAny_builtin F.entry_list_iadd ?_⟩
    rw [Around.under_plainId F.plain_list_iadd _]
    show wpAny _ A.in1 (Builtin.List.listExtendWith (.ref s.heap.objs.size) (.ref S) (.ref s.heap.objs.size)) _ _ _
    have hS0 : (s.heap.push { cls := .type "list", data := .seq ([] : List Value).toArray }).get? s.heap.objs.size = some { cls := .type "list", data := .seq #[] 0 } := Heap.get?_push_size _ rfl
    exact kdl_extend (A := A) (R := ColR s xs) (s := { s with heap := s.heap.push { cls := .type "list", data := .seq ([] : List Value).toArray } }) (set_src W) hh (Heap.get?_push_of_some _ ho) s.heap.objs.size (Nat.ne_of_gt hlt) (Nat.ne_of_gt hlt) (.ref s.heap.objs.size) 0 hS0 (fun h' tk acc' c' hk hS' hacc => (Mine.mkE4 h' tk acc' c' ⟨rfl, rfl, hk, hS', hacc⟩)) hn
  walk_at "hideG"
  (refine Mine.exE4A4 hr ?_; (try clear hr); intro h' tk acc' c' hsb142 hsb143 hk hS' hacc; subst hsb142; subst hsb143)
  walk_at "showG"
  show wpAny _ A (load s.heap.objs.size >>= _) _ _ _
  refine wpAny_bind (wpAny_load hS' ?_)
  have hax : acc'.toList = xs := by
    apply List.ext_getElem?
    intro i
    rw [Array.getElem?_toList]
    by_cases hi : i < xs.length
    · have hi' : i < acc'.size := by rw [hacc.1]; exact hi
      have := hacc.2 i acc'[i] (Array.getElem?_eq_getElem hi')
      rw [this, Array.getElem?_eq_getElem hi']
    · rw [List.getElem?_eq_none (by omega), Array.getElem?_eq_none (by rw [hacc.1]; omega)]
  refine wpAny_pure ?_
  rw [hax]
  exact hQ _ _ fun b o e => hk b o (Nat.ne_of_lt (Heap.lt_size e)) (Heap.get?_push_of_some _ e)
end

section
variable {w : World} {A : Around} {E : Value → Shared → Prop} {s : Shared} {h₀ : Heap} {L : Addr} {m : Str → Option Value} {news : List (Addr × Obj)}
theorem sorted_set {S : Addr} {o : Obj} {ks : List Int} {Q : Value → Shared → Prop} (F : Fr h₀ L s.heap m) (N : News h₀ L s.heap news) (hh : A.handled = none) (ho : s.heap.get? S = some o) (hT : SetT w o ks) (hk64 : ks.length < 64)
    (h : ∀ D h' tk out ms c, Fr h₀ L h' m → News h₀ L h' ((D, W.listOf (List.toArray out) c) :: news) → (∀ q ∈ news, q.1 < D) → IntsAre out ms → ms.Perm ks → ms.Pairwise (fun x y => x.natAbs ≤ y.natAbs) → Q (.ref D) { s with heap := h', toks := tk }) :
    wpAny (model PP w) A (call (.builtin "sorted") [.ref S] [(Str.ofString "key", .builtin "abs")]) Q E s := by
  (refine Mine.exE4 (setT_walk (w := w) S hT) ?_; intro xs sl ep ns hrun144; refine Mine.exA2 hrun144 ?_; clear hrun144; intro W hi hp)
  have hxl : xs.length = ns.length := hi.length
  have hnl : ns.length = ks.length := hp.length_eq
  refine call_function_entry_kw kind_sorted plain_sorted entry_sorted (ksk_s1 _ _) ?_
  unfold Builtin.«sorted»
  refine wpAny_bind (m := checkCount "sorted" 1 1 _) (wpAny_pure ?_)
  refine wpAny_bind (set_collect hh W ho (by rw [sizeLine_eq]; omega) fun h1 tk1 hk1 => ?_)
  refine wpAny_bind (wpAny_newList ?_ (by rw [sizeLine_eq]; omega))
  have hoL : (h1.push (seqObj "list" xs.toArray 0)).get? h1.objs.size = some (seqObj "list" xs.toArray 0) := Heap.get?_push_size _ rfl
  have keep : ∀ b o, s.heap.get? b = some o → (h1.push (seqObj "list" xs.toArray 0)).get? b = some o := fun b o q => Heap.get?_push_of_some _ (hk1 b o q)
  have F1 := F.kept keep
  have N1 := N.grown keep
  (refine Mine.exE3A1 F.ns ?_; intro oL _ _ hL0 _)
  have hL : L < h1.objs.size := Heap.lt_size (hk1 _ _ hL0)
  have hnl1 : ∀ p ∈ news, p.1 < h1.objs.size := fun p hp => Heap.lt_size (hk1 _ _ (N p hp).1)
  refine wpAny_bind (wpAny_holding (wpAny_call_entry_kw slot_list_sort (Mine.mkE1A1 _ hoL rfl) entry_list_sort ?body (ksk_l1 _ _)))
  case body =>
    show wpAny (model PP w) A.in1.in1 (Builtin.«list.sort» ⟨[.ref h1.objs.size], _⟩) _ _ _
    rw [ksk_t4]
    refine ksk_sort (kz := ns.map fun n => if n < 0 then -n else n) (s := { s with heap := h1.push (seqObj "list" xs.toArray 0), toks := tk1 }) F1 N1 hoL (Nat.ne_of_gt hL) (Heap.get?_none_of_le (Nat.le_trans F.above (Nat.le_of_lt hL)))
      (fun p hp => Nat.ne_of_lt (hnl1 p hp)) (by rw [List.length_map, hxl]) (by omega) (fun i v k hv hk h2 tk2 own F' N' => ?_) fun h' tk out c F' N' k' => (Mine.mkE1A1 _ rfl ?_)
    · rw [List.getElem?_map] at hk
      cases q : ns[i]? with
      | none => rw [q] at hk; cases hk
      | some n =>
        rw [q] at hk
        (refine Mine.exE1 (hi.get i n q) ?_; intro t ht')
        rw [ht'] at hv
        cases hv
        cases hk
        exact call_abs_int fun u tk' => (Mine.mkE3 h2 tk' u ⟨rfl, rfl, F', N'⟩)
    · (refine Mine.exE1A2 k' ?_; (try clear k'); intro qs hq1 hq2 hq3)
      refine wpAny_pure (Mine.mkE1A1 _ rfl ?_)
      have hqm : (qs.map Prod.snd).Perm xs := by
        have := hq1.map Prod.snd
        rwa [List.map_snd_zip (by rw [List.length_map]; omega)] at this
      (refine Mine.exE1A1 (ints_perm hi hqm) ?_; intro ms hm1 hm2)
      have hkey : ∀ p ∈ qs, (p.1 : Int) = ((intOf p.2).natAbs : Int) := fun p hp => by
        have hz := hq1.mem_iff.mp hp
        rw [(ints_map hi).1, List.map_map] at hz
        obtain ⟨i, hi', he⟩ := List.mem_iff_getElem.mp hz
        simp only [List.getElem_zip, List.getElem_map, Function.comp] at he
        rw [← he]
        dsimp only
        split <;> omega
      refine h _ h' tk out.toList ms c F' (by simpa [seqObj] using N') (fun q hq => hnl1 q hq) (by rw [hq2]; exact hm1) (hm2.trans hp) ?_
      rw [(ints_map hm1).1, List.pairwise_map, List.pairwise_map]
      refine hq3.imp_of_mem fun {x y} hx hy hxy => ?_
      have hxy' : x.1 ≤ y.1 := by simpa using hxy
      rw [hkey x hx, hkey y hy] at hxy'
      omega
end

/-! part P4 -/
set_option maxHeartbeats 4000000

/-! one round of the law's own unit propagation -/
noncomputable def restOf (K c : List Int) : List Int := c.filter fun l => !decide ((0 - l) ∈ K)
noncomputable def unitOf (K c : List Int) : Option Int := match restOf K c with
  | [x] => if x ∈ K then none else some x
  | _ => none
noncomputable def muOf (K : List Int) : Nat := ((List.range 11).filter fun i : Nat => !decide (((i : Int) - 5) ∈ K)).length

structure FoI (cs : List (List Int)) (A K : List Int) : Prop where
  der : ∀ l ∈ K, Der cs A l
  ask : ∀ l ∈ A, l ∈ K
  con : ∀ l ∈ K, -l ∉ K
  rng : ∀ l ∈ K, -5 ≤ l ∧ l ≤ 5
  len : K.length + muOf K * cs.length ≤ A.length + 11 * cs.length

theorem mem_rest {K c : List Int} {x : Int} : x ∈ restOf K c ↔ x ∈ c ∧ -x ∉ K := by
  unfold restOf
  rw [List.mem_filter]
  have e : (0 - x) = -x := by omega
  rw [e]; simp

theorem fo_conf {cs : List (List Int)} {A K c : List Int} (H : FoI cs A K) (hc : c ∈ cs) (h : restOf K c = []) : Conf cs A := by
  refine .inl (Mine.mkE1A1 c hc (fun x hx => H.der _ ?_))
  apply Classical.byContradiction
  intro hn
  have : x ∈ restOf K c := mem_rest.mpr ⟨hx, hn⟩
  rw [h] at this; cases this

theorem unit_some {K c : List Int} {x : Int} (h : unitOf K c = some x) : restOf K c = [x] ∧ x ∉ K := by
  unfold unitOf at h
  split at h
  · rename_i y hy
    split at h
    · cases h
    · rename_i hn
      cases h
      exact ⟨hy, hn⟩
  · cases h

theorem unit_der {cs : List (List Int)} {A K : List Int} (H : FoI cs A K) {x : Int} (hx : x ∈ cs.filterMap (unitOf K)) : Der cs A x ∧ x ∉ K ∧ ∃ c ∈ cs, x ∈ c := by
  (refine Mine.exE1A1 (List.mem_filterMap.mp hx) ?_; intro c hc hu)
  (refine Mine.exA1 (unit_some hu) ?_; intro h1 h2)
  have hxc : x ∈ c := (mem_rest.mp (h1 ▸ List.mem_singleton.mpr rfl : x ∈ restOf K c)).1
  refine ⟨.unit hc hxc fun y hy hne => H.der _ ?_, h2, (Mine.mkE1A1 c hc hxc)⟩
  apply Classical.byContradiction
  intro hn
  have : y ∈ restOf K c := mem_rest.mpr ⟨hy, hn⟩
  rw [h1] at this
  exact hne (List.mem_singleton.mp this)

theorem clause_nodup {c : List Int} (h : ClauseOk c) : c.Nodup := by
  refine h.2.imp fun {a b} hab e => ?_
  rw [e] at hab; exact Nat.lt_irrefl _ hab

theorem fo_done {cs : List (List Int)} {A K : List Int} (hcok : ∀ c ∈ cs, ClauseOk c) (H : FoI cs A K) (h1 : ∀ c ∈ cs, restOf K c ≠ []) (h2 : cs.filterMap (unitOf K) = []) : ¬ Conf cs A ∧ ∀ l, l ∈ K ↔ Der cs A l := by
  refine closed_all H.der H.con H.ask (fun c hc l hl h => ?_) (fun c hc => ?_)
  · apply Classical.byContradiction
    intro hn
    have hall : ∀ x ∈ restOf K c, x = l := fun x hx => by
      apply Classical.byContradiction
      intro hne
      exact (mem_rest.mp hx).2 (h x (mem_rest.mp hx).1 hne)
    have hle := all_eq_nodup ((List.filter_sublist (p := fun l => !decide ((0 - l) ∈ K))).nodup (clause_nodup (hcok c hc))) hall
    have hr : restOf K c = [l] := by
      match hrr : restOf K c with
      | [] => exact absurd hrr (h1 c hc)
      | [x] => rw [hall x (by rw [hrr]; exact .head _)]
      | x :: y :: r =>
        have : (restOf K c).length ≤ 1 := hle
        rw [hrr] at this; simp at this
    have hu : unitOf K c = some l := by
      unfold unitOf; rw [hr]; dsimp only; rw [if_neg hn]
    have : l ∈ cs.filterMap (unitOf K) := List.mem_filterMap.mpr (Mine.mkE1A1 c hc hu)
    rw [h2] at this; cases this
  · match hrr : restOf K c with
    | [] => exact absurd hrr (h1 c hc)
    | x :: r =>
      have := mem_rest.mp (show x ∈ restOf K c by rw [hrr]; exact .head _)
      exact ⟨x, this⟩

theorem mu_lt {K fr : List Int} {x : Int} (hx : x ∈ fr) (hn : x ∉ K) (hr : -5 ≤ x ∧ x ≤ 5) : muOf (K ++ fr) + 1 ≤ muOf K := by
  have hsub : ∀ i, (!decide (((i : Int) - 5) ∈ K ++ fr)) = true → (!decide (((i : Int) - 5) ∈ K)) = true := fun i h => by
    simp only [Bool.not_eq_true', decide_eq_false_iff_not] at h ⊢
    exact fun h' => h (List.mem_append_left _ h')
  have h1 : (List.range 11).filter (fun i : Nat => !decide (((i : Int) - 5) ∈ K ++ fr)) = ((List.range 11).filter fun i : Nat => !decide (((i : Int) - 5) ∈ K)).filter (fun i : Nat => !decide (((i : Int) - 5) ∈ K ++ fr)) := by
    rw [List.filter_filter]
    refine List.filter_congr fun i _ => ?_
    cases hd : (!decide (((i : Int) - 5) ∈ K ++ fr)) with
    | false => simp
    | true => rw [hsub i hd]; rfl
  unfold muOf
  rw [h1]
  have hm : (x + 5).toNat ∈ (List.range 11).filter fun i : Nat => !decide (((i : Int) - 5) ∈ K) := by
    rw [List.mem_filter, List.mem_range]
    refine ⟨by omega, ?_⟩
    rw [show (((x + 5).toNat : Int) - 5) = x by omega]
    simp [hn]
  generalize (List.range 11).filter (fun i : Nat => !decide (((i : Int) - 5) ∈ K)) = l at hm
  have hex : ∃ y ∈ l, ¬ (!decide (((y : Int) - 5) ∈ K ++ fr)) = true := (Mine.mkE1A1 _ hm (by
    rw [show (((x + 5).toNat : Int) - 5) = x by omega]
    simp [hx]))
  exact List.length_filter_lt_length_iff_exists.mpr hex

theorem fo_step {cs : List (List Int)} {A K : List Int} (hcok : ∀ c ∈ cs, ClauseOk c) (H : FoI cs A K) (h2 : cs.filterMap (unitOf K) ≠ []) (hc : ∀ l ∈ K ++ cs.filterMap (unitOf K), -l ∉ K ++ cs.filterMap (unitOf K)) :
    FoI cs A (K ++ cs.filterMap (unitOf K)) ∧ muOf (K ++ cs.filterMap (unitOf K)) < muOf K := by
  (refine Mine.exE1 (List.exists_mem_of_ne_nil _ h2) ?_; intro x hx)
  (refine Mine.exA2 (unit_der H hx) ?_; intro _ hxn hrun145; refine Mine.exE1 hrun145 ?_; clear hrun145; intro c hrun146; refine Mine.exA1 hrun146 ?_; clear hrun146; intro hcm hxc)
  have hr := (hcok c hcm).1 x hxc
  have hmu := mu_lt hx hxn hr.2
  refine ⟨⟨fun l hl => ?_, fun l hl => List.mem_append_left _ (H.ask l hl), hc, fun l hl => ?_, ?_⟩, by omega⟩
  · rcases List.mem_append.mp hl with h | h
    · exact H.der l h
    · exact (unit_der H h).1
  · rcases List.mem_append.mp hl with h | h
    · exact H.rng l h
    · (refine Mine.exA2 (unit_der H h) ?_; intro _ _ hrun147; refine Mine.exE1 hrun147 ?_; clear hrun147; intro c hrun148; refine Mine.exA1 hrun148 ?_; clear hrun148; intro hcm hlc)
      exact ((hcok c hcm).1 l hlc).2
  · have h3 := List.length_filterMap_le (unitOf K) cs
    have h4 := H.len
    have h5 : (muOf (K ++ cs.filterMap (unitOf K)) + 1) * cs.length ≤ muOf K * cs.length := Nat.mul_le_mul_right _ hmu
    rw [Nat.add_mul, Nat.one_mul] at h5
    rw [List.length_append]
    omega
theorem fo_clash {cs : List (List Int)} {A K : List Int} (H : FoI cs A K) {l : Int} (h1 : l ∈ K ++ cs.filterMap (unitOf K)) (h2 : -l ∈ K ++ cs.filterMap (unitOf K)) : Conf cs A := by
  have hd : ∀ l ∈ K ++ cs.filterMap (unitOf K), Der cs A l := fun l hl => by
    rcases List.mem_append.mp hl with h | h
    · exact H.der l h
    · exact (unit_der H h).1
  exact .inr (Mine.mkE1A1 l (hd _ h1) (hd _ h2))
theorem fo_start {cs : List (List Int)} {A : List Int} (hc : ∀ l ∈ A, -l ∉ A) (hr : ∀ l ∈ A, -5 ≤ l ∧ l ≤ 5) : FoI cs A A := by
  refine ⟨fun l h => .ask h, fun l h => h, hc, hr, ?_⟩
  have : muOf A ≤ 11 := by unfold muOf; exact Nat.le_trans (List.length_filter_le _ _) (by simp)
  have := Nat.mul_le_mul_right cs.length this
  omega

/-- a consistent list of the five variables is few -/
theorem few_con {K : List Int} (h : ∀ l ∈ K, -l ∉ K) (hr : ∀ l ∈ K, -5 ≤ l ∧ l ≤ 5) : Few K := by
  refine ⟨hr, fun ks hn hs => ?_⟩
  have hn2 : (ks.map fun l => ((l.natAbs : Nat) : Int)).Nodup := by
    unfold List.Nodup
    rw [List.pairwise_map]
    refine hn.imp_of_mem fun {a b} ha hb hab e => ?_
    have h1 := h a (hs a ha)
    have h2 : b = -a := by omega
    exact h1 (h2 ▸ hs b hb)
  have := nodup_len (n := 5) (lo := 1) hn2 fun x hx => by
    (refine Mine.exE1A1 (List.mem_map.mp hx) ?_; intro l hl hsb149; subst hsb149)
    have h1 := hr l (hs l hl)
    have h2 : l ≠ 0 := fun e => by
      have hz : (0 : Int) ∈ K := e ▸ hs l hl
      exact h 0 hz (by simpa using hz)
    omega
  rwa [List.length_map] at this

/-! part M16 -/
set_option maxHeartbeats 4000000


section
variable {prog : Program} {w : World} {A : Around} {E : Value → Shared → Prop} {s : Shared}
theorem any_mem {ns : List Int} {k : Int} : ns.any (· == k) = decide (k ∈ ns) := by
  rw [Bool.eq_iff_iff, List.any_eq_true, decide_eq_true_eq]
  exact ⟨fun ⟨x, hx, e⟩ => beq_iff_eq.mp e ▸ hx, fun h => (Mine.mkE1A1 k h (by simp))⟩
theorem notin_list {l : Addr} {vs : List Value} {n : Nat} {ns : List Int} {k : Int} {t : Tok} {Q : Value → Shared → Prop} (hl : s.heap.get? l = some (W.listOf vs.toArray n)) (hi : IntsAre vs ns)
    (h : Q (.bool (!decide (k ∈ ns))) s) : wpAny (model prog w) A (compareOp .NotIn (.int k t) (.ref l)) Q E s := notin_list_ints (Mine.mkE1A2E1 _ hl rfl _ rfl) hi (by rw [any_mem]; exact h)
theorem in_list {l : Addr} {vs : List Value} {n : Nat} {ns : List Int} {k : Int} {t : Tok} {Q : Value → Shared → Prop} (hl : s.heap.get? l = some (W.listOf vs.toArray n)) (hi : IntsAre vs ns)
    (h : Q (.bool (decide (k ∈ ns))) s) : wpAny (model prog w) A (compareOp .In (.int k t) (.ref l)) Q E s := in_list_ints (Mine.mkE1A2E1 _ hl rfl _ rfl) hi (by rw [any_mem]; exact h)
end
set_option hygiene false in
local macro_rules
| `(tactic| walk_at "compareOp NotIn int ref") => `(tactic| (k_dflt (refine Mine.notin_list (by walk_at "at") (by assumption) ?_)))
set_option hygiene false in
local macro_rules
| `(tactic| walk_at "compareOp In int ref") => `(tactic| (k_dflt (refine Mine.in_list (by walk_at "at") (by assumption) ?_)))
set_option hygiene false in
local macro_rules
| `(tactic| walk_at "compareOp Eq ref ref") => `(tactic| ((with_reducible show wpAny _ _ (compareOp CmpOp.Eq (Value.ref _) (Value.ref _)) _ _ _); k_dflt (refine Mine.eq_lists (by walk_at "at") (by walk_at "at") (by first | assumption | exact .nil) (by first | exact .nil | assumption) (by exact Mine.Cx.room (by assumption)) ?_)))

section
variable {w : World} {mg mb : Str → Option Value} {n : Nat} {A : Around} {h₀ : Heap} {L : Addr} {m : Str → Option Value} {s : Shared} {E : Value → Shared → Prop} {Q : Value → Shared → Prop}

def ForcedR (cs : List (List Int)) (asked : List Int) (v : Value) (h' : Heap) : Prop := (v = .none ∧ Conf cs asked) ∨ ∃ D found, v = .ref D ∧ ListInts h' D found ∧ ¬ Conf cs asked ∧ (∀ l, l ∈ found ↔ Der cs asked l) ∧ found.Nodup ∧ (∀ l ∈ found, -l ∉ found) ∧ found.Pairwise (fun x y => x.natAbs ≤ y.natAbs)

inductive FoJ (cs : List (List Int)) (asked : List Int) (c1 : Addr) (m0 : Str → Option Value) (k : Nat) (m : Str → Option Value) (nx : List (Addr × Obj)) : Prop
  | mk (oc : Obj) (K : Addr) (vk : List Value) (nk : Nat) (known : List Int) (hk : k = muOf known) (hnx : nx = [(K, W.listOf (List.toArray vk) nk), (c1, oc)]) (hl : @LT.lt Nat _ c1 K) (hd : oc.data = Data.cell (some (.ref K))) (hv : IntsAre vk known) (hF : FoI cs asked known)
      (hm : ∀ y, [Str.ofString "fresh", Str.ofString "clause", Str.ofString "rest"].contains y = false → m y = m0 y) : FoJ cs asked c1 m0 k m nx
inductive FrJ (Df : Addr) (post : List (Addr × Obj)) (cs : List (List Int)) (known : List Int) (m2 : Str → Option Value) (i : Nat) (m : Str → Option Value) (nx : List (Addr × Obj)) : Prop
  | mk (fv : List Value) (fn : Nat) (hnx : nx = (Df, W.listOf (List.toArray fv) fn) :: post) (hv : IntsAre fv ((cs.take i).filterMap (unitOf known))) (hr : ∀ c ∈ cs.take i, restOf known c ≠ []) (hm : ∀ y, [Str.ofString "clause", Str.ofString "rest"].contains y = false → m y = m2 y) : FrJ Df post cs known m2 i m nx

theorem law_forced_spec {ca la : Addr} {cs : List (List Int)} {asked : List Int} (C : Cx w mg mb (n + 1) A h₀ L) (F : Fr h₀ L s.heap m) (hcs : ClausesAt s.heap ca cs) (hA : TupInts s.heap la asked) (hcok : ∀ c ∈ cs, ClauseOk c) (hlc : cs.length ≤ 50)
    (hAr : ∀ l ∈ asked, -5 ≤ l ∧ l ≤ 5) (hAc : ∀ l ∈ asked, -l ∉ asked) (hAl : asked.length ≤ 50)
    (hQ : ∀ v h' tk, ForcedR cs asked v h' → Kp [] s.heap h' → Fr h₀ L h' m → Q v { s with heap := h', toks := tk }) :
    wpAny (model PP w) A (call (.ref 112) [.ref ca, .ref la]) Q E s := by
  refine' callRC (binds := [(Str.ofString "clauses", .ref ca), (Str.ofString "literals", .ref la)]) (R := ForcedR cs asked) [] C F (by simp) ?ho ?hcd ?hb ?hl ?hnd ?h ?hQ ?c1 ?c2 ?c3
  case ho => exact rfl
  case hcd => exact rfl
  case hb => exact BindsTo.of_eq rfl
  case hl => exact rfl
  case hnd => decide +kernel
  case c1 => rfl
  case c2 => rfl
  case c3 => rfl
  case hQ =>
    rintro v h' tk h1 hk' F'
    exact hQ _ _ _ h1 hk' F'
  case h =>
    intro g L' h₁ tk cells hg hL' C' F' Nc Y hk₁ hcl
    have hgk : ∀ b o, s.heap.get? b = some o → g.get? b = some o := hg ▸ fun _ _ e => e
    have hcg := hcs.keeps hgk
    walk_at "hideG"
    (refine Mine.exE2A2 hcg ?_; (try clear hcg); intro as na hca hal haf)
    (refine Mine.exE2A1 (hA.keeps hgk) ?_; intro vla nla hla ila)
    have X := C'.G.X
    have T := C'.G.T
    have hh := C'.hh
    (refine Mine.exE1A1 (CellsAre.one Y) ?_; intro o1 hsb150 d1; subst hsb150)
    walk_at "showG"
    clear hk₁ hcl hgk
    have hL1 : @LT.lt Nat _ L' h₁.objs.size := F'.ns.lt
    have hl1 := ila.length
    (repeat' (walk_at "go"))
    rename News _ _ _ _ => N1
    rename Fr _ _ _ _ => F1
    rename Obj.data _ = Data.cell (some (Value.ref _)) => dK
    rename @LT.lt Nat _ (_ + 1) _ => l01
    (refine Mine.exE1A1 (Fr.gen F1) ?_; intro m0 hm0 F2)
    have mc0 : m0 (Str.ofString "clauses") = some (.ref ca) := by rw [hm0]; rfl
    clear F1 hm0
    refine' while_inv (n₀ := muOf asked) (FoJ cs asked (L' + 1) m0) ?wF ?wN ?wJ ?turn ?wE
    case wF => exact F2
    case wN => exact N1
    case wJ => exact ⟨_, _, _, _, _, rfl, rfl, l01, dK, ila, fo_start hAc hAr, ovr_refl⟩
    case wE => passes_own
    case turn =>
      clear N1 F2 l01 dK
      intro k m1 nx h2 tk2 F3 N3 hjo7
      walk_at "hideG"
      obtain ⟨oc, K, vk, nk, known, rfl, rfl, hKl, dK, ik, FO, hmm⟩ := hjo7
      walk_at "showG"
      rw [ovr_eq hmm] at F3
      (repeat' (walk_at "go"))
      rw [if_pos rfl]
      (repeat' (walk_at "go"))
      rename News _ _ _ _ => N4
      rename Fr _ _ _ (fun y => _) => F4
      rename _ ∧ _ => l4
      rename_i Df _ h4
      (refine Mine.exA1 l4 ?_; (try clear l4); intro l41 l42)
      (refine Mine.exE1A1 (Fr.gen F4) ?_; intro m2 hm2 F5)
      have mc2 : m2 (Str.ofString "clauses") = some (.ref ca) := by rw [hm2]; exact mc0
      have mf2 : m2 (Str.ofString "fresh") = some (.ref Df) := by rw [hm2]; rfl
      have mm2 : ∀ y, [Str.ofString "fresh", Str.ofString "clause", Str.ofString "rest"].contains y = false → m2 y = m0 y := by rw [hm2]; exact ovr_set ovr_ovr rfl
      have lK := ik.length
      have hKn := FO.len
      have zK : known.length ≤ 650 := by omega
      clear F4 hm2
      refine' for_seq (T := "list") (.inl rfl) (Fr.keep (by k_asm) _ _ hca) (FrJ Df [(K, W.listOf vk.toArray nk), (L' + 1, oc)] cs known m2) hh ?F1 ?N1 ?j1 ?wh1 ?turn1 ?done1 ?x1 ?p1
      case F1 => exact F5
      case N1 => exact N4
      case x1 => rfl
      case p1 => rfl
      case j1 => exact ⟨_, _, rfl, .nil, (fun c hc => nomatch hc), ovr_refl⟩
      case wh1 => exact .inl ⟨_, hca⟩
      case turn1 =>
        intro i v m1 nx h tk' I oI hv hjo9 hnI F3 N3
        walk_at "hideG"
        obtain ⟨fv, fn, rfl, hfv, hrs, hmm⟩ := hjo9
        rw [ovr_eq hmm] at F3
        (refine Mine.exE2 (clauseItem hal haf hv) ?_; intro x c hrun152; refine Mine.exA3 hrun152 ?_; clear hrun152; intro hsb151 hci hcm hrun153; refine Mine.exE2 hrun153 ?_; clear hrun153; intro vc nc hrun154; refine Mine.exA1 hrun154 ?_; clear hrun154; intro hxc hic; subst hsb151)
        walk_at "showG"
        have zf : fv.length ≤ 100000 := by
          have h1 := hfv.length
          have h2 := List.length_filterMap_le (unitOf known) (cs.take i)
          have h3 : (cs.take i).length ≤ cs.length := by rw [List.length_take]; exact Nat.min_le_right _ _
          omega
        have hI1 : @Ne Nat Df I := hnI _ (.head _)
        have hI2 : @Ne Nat K I := hnI _ (.tail _ (.head _))
        have hI3 : @Ne Nat (L' + 1) I := hnI _ (.tail _ (.tail _ (.head _)))
        (repeat' (walk_at "go"))
        refine' compA_ (cl := [(Str.ofString "known", L' + 1)]) ?f0 ?f1 ?f2 ?f3 ?_ ?f4
        case f0 => rfl
        case f1 => rfl
        case f2 => rfl
        case f3 => decide
        case f4 => intro _; rfl
        (repeat' (walk_at "go"))
        refine' comp_filter (T := "tuple") (.inr rfl) (Fr.keep (by k_asm) _ _ hxc) rfl rfl hic (fun l => !decide ((0 - l) ∈ known)) hh ?g1 ?g2 ?g3 ?F2 ?N2 ?g6 (.inl ⟨_, hxc⟩) ?tests2 ?fin2 ?g4 ?g5
        case g1 => decide
        case g2 => rfl
        case g3 => rfl
        case F2 => k_asm
        case N2 => k_asm
        case g4 => intro _; rfl
        case g5 => decide
        case g6 => have := clause_len (hcok c hcm); omega
        case tests2 =>
          intro I2 D2 C2 oI2 oD2 oC2 v t s4 m4 hv F4 N4 hn4 hx4
          refine ctests_one ?_
          (repeat' (walk_at "go"))
          exact (Mine.mkA1E1 rfl _ rfl)
        case fin2 =>
          intro D2 C2 h4 tk4 m4 ys4 nD4 hys4 F4 N4 hlt4 hsD4 hC4
          change IntsAre ys4 (restOf known c) at hys4
          have hD2 : @Ne Nat Df D2 := Nat.ne_of_lt (hlt4 _ (.tail _ (.head _)))
          refine fin_local F4 N4 hC4 (fun h5 F5 N5 => ?_) rfl rfl
          (repeat' (walk_at "go"))
          by_cases hr : restOf known c = []
          · rw [if_pos (decide_eq_true hr)]
            (repeat' (walk_at "go"))
            (repeat' (walk_at "go")); (try dsimp only [TurnEnd, WhileStep2])
            rename Fr _ _ _ _ => F6
            exact retR F6 (.inl ⟨rfl, fo_conf FO hcm hr⟩)
          · rw [if_neg (by simpa using hr)]
            have hrs' : ∀ c' ∈ cs.take (i + 1), restOf known c' ≠ [] := fun c' hc' => by
              rw [List.take_add_one, hci] at hc'
              rcases List.mem_append.mp hc' with h | h
              · exact hrs c' h
              · rw [List.mem_singleton.mp h]; exact hr
            have hno : unitOf known c = none → IntsAre fv ((cs.take (i + 1)).filterMap (unitOf known)) := fun hu => by
              rw [List.take_add_one, hci, List.filterMap_append]
              simpa [hu] using hfv
            have hyes : ∀ y, unitOf known c = some y → (cs.take (i + 1)).filterMap (unitOf known) = (cs.take i).filterMap (unitOf known) ++ [y] := fun y hu => by
              rw [List.take_add_one, hci, List.filterMap_append]
              simp [hu]
            have hrl : (restOf known c).length ≤ 10 := by
              have h1 := List.length_filter_le (fun l => !decide (0 - l ∈ known)) c
              have h2 := clause_len (hcok c hcm)
              exact Nat.le_trans h1 (by omega)
            (repeat' (walk_at "go"))
            by_cases h1 : (restOf known c).length = 1
            · rw [if_pos (by rw [h1]; rfl)]
              (refine Mine.exE1 (List.length_eq_one_iff.mp h1) ?_; intro y hy)
              rw [hy] at hys4
              clear hrl h1 hr
              (repeat' (walk_at "go"))
              rw [show [y].getD (Int.toNat 0) 0 = y from rfl]
              by_cases hyk : y ∈ known
              · rw [if_neg (by simp [hyk])]
                (repeat' (walk_at "go"))
                rw [if_neg (by decide)]
                (repeat' (walk_at "go"))
                rename News _ _ _ _ => N8
                rename Fr _ _ _ _ => F8
                exact turn_next F8 (fun p hp => N8 p (.tail _ (.tail _ hp))) (Mine.fac hI1 (Mine.fac hI2 (Mine.fac hI3 Mine.fa0))) ⟨_, _, rfl, hno (by unfold unitOf; rw [hy]; simp [hyk]), hrs', ovr_set (ovr_set ovr_ovr rfl) rfl⟩
              · rw [if_pos (by simp [hyk])]
                (repeat' (walk_at "go"))
                rw [if_pos rfl]
                (repeat' (walk_at "go"))
                rename News _ _ _ _ => N8
                rename Fr _ _ _ _ => F8
                refine turn_next F8 (fun p hp => N8 p (.tail _ (.tail _ hp))) (Mine.fac hI1 (Mine.fac hI2 (Mine.fac hI3 Mine.fa0))) ⟨_, _, rfl, ?_, hrs', ovr_set (ovr_set ovr_ovr rfl) rfl⟩
                rw [hyes y (by unfold unitOf; rw [hy]; simp [hyk])]
                exact hfv.append (.cons _ _ .nil)
            · rw [if_neg (by simp; omega)]
              (repeat' (walk_at "go"))
              rw [if_neg (by decide)]
              (repeat' (walk_at "go"))
              rename News _ _ _ _ => N8
              rename Fr _ _ _ _ => F8
              refine turn_next F8 (fun p hp => N8 p (.tail _ (.tail _ hp))) (Mine.fac hI1 (Mine.fac hI2 (Mine.fac hI3 Mine.fa0))) ⟨_, _, rfl, hno ?_, hrs', ovr_set (ovr_set ovr_ovr rfl) rfl⟩
              unfold unitOf
              split
              · rename_i z hz; rw [hz] at h1; exact absurd rfl h1
              · rfl
      case done1 =>
        intro m9 nx9 h9 tk9 hjo4 F9 N9
        walk_at "hideG"
        obtain ⟨fv, fn, rfl, hfv, hrs, hmm⟩ := hjo4
        walk_at "showG"
        rw [ovr_eq hmm] at F9
        have ht : cs.take (as.map Value.ref).toArray.size = cs := List.take_of_length_le (by simp; omega)
        rw [ht] at hfv hrs
        have zf : fv.length ≤ 50 := by
          have h1 := hfv.length
          have h2 := List.length_filterMap_le (unitOf known) cs
          omega
        clear F5 N4
        (repeat' (walk_at "go")); (try dsimp only)
        (repeat' (walk_at "go"))
        by_cases hn : cs.filterMap (unitOf known) = []
        · rw [if_pos (by simp [hn])]
          (repeat' (walk_at "go"))
          have hfew := few_con FO.con FO.rng
          refine' set_N ?sF ?sN hh ?sl ik hfew ?_
          case sF => k_asm
          case sN => k_asm
          case sl => walk_at "at"
          intro S1 h5 tk5 o5 F5 N5 hS5 T5
          have hdn : (dedA [] known).Nodup := nodup_dedA List.nodup_nil
          have hdm : ∀ l, l ∈ dedA [] known ↔ l ∈ known := fun l => by rw [mem_dedA]; simp
          have hd5 := hfew.2 _ hdn fun x hx => (hdm x).mp hx
          (repeat' (walk_at "go"))
          refine' sorted_set ?tF ?tN hh ?tl T5 ?tz ?_
          case tF => k_asm
          case tN => k_asm
          case tl => walk_at "at"
          case tz => omega
          intro D6 h6 tk6 out ms c6 F6 N6 hD6 i6 hp6 hs6
          (repeat' (walk_at "go"))
          (repeat' (walk_at "go")); (try dsimp only [WhileStep2])
          (refine Mine.exA1 (fo_done hcok FO hrs hn) ?_; intro z1 z2)
          exact retR F6 (.inr (Mine.mkE2 D6 ms ⟨rfl, (Mine.mkE2A1 out c6 ((N6 _ (.head _)).1) i6), z1, fun l => (hp6.mem_iff.trans (hdm l)).trans (z2 l), hp6.nodup_iff.mpr hdn, fun l hl hl' => FO.con l ((hdm l).mp (hp6.mem_iff.mp hl)) ((hdm _).mp (hp6.mem_iff.mp hl')), hs6⟩))
        · rw [if_neg (by simpa using hn)]
          (repeat' (walk_at "go"))
          rename Obj.data _ = Data.cell (some (Value.ref _)) => dK2
          rename News g L' _ _ => N5
          rename Fr g L' _ (ovr _ _ _) => F5
          rename _ ∧ _ => l7'
          have l7 := l7'.2.2.2
          have ik2 := ik.append hfv
          have hl2 := ik2.length
          refine' comp_ (cl := [(Str.ofString "known", L' + 1)]) ?f1 ?f2 ?f3 ?_ ?f4
          case f1 => rfl
          case f2 => rfl
          case f3 => decide
          case f4 => intro _; rfl
          (repeat' (walk_at "go"))
          refine' comp_filter (T := "list") (.inl rfl) (N5 _ (.head _)).1 rfl rfl ik2 (fun l => decide ((0 - l) ∈ known ++ cs.filterMap (unitOf known))) hh ?g1 ?g2 ?g3 ?F2 ?N2 ?g6 (.inr (Mine.mkA1E1 ((N5 _ (.head _)).2.1) _ (.head _))) ?tests2 ?fin2 ?g4 ?g5
          case g1 => decide
          case g2 => rfl
          case g3 => rfl
          case F2 => k_asm
          case N2 => k_asm
          case g4 => intro _; rfl
          case g5 => decide
          case g6 => simp at hl2 ⊢; omega
          case tests2 =>
            intro I2 D2 C2 oI2 oD2 oC2 v t s4 m4 hv F4 N4 hn4 hx4
            refine ctests_one ?_
            (repeat' (walk_at "go"))
            exact (Mine.mkA1E1 rfl _ rfl)
          case fin2 =>
            intro D2 C2 h4 tk4 m4 ys4 nD4 hys4 F4 N4 hlt4 hsD4 hC4
            refine fin_none F4 N4 hC4 (fun h5 F5 N5 => ?_)
            (repeat' (walk_at "go"))
            by_cases hb : (known ++ cs.filterMap (unitOf known)).filter (fun l => decide ((0 - l) ∈ known ++ cs.filterMap (unitOf known))) = []
            · rw [if_neg (by rw [decide_eq_true hb]; decide)]
              (repeat' (walk_at "go"))
              rename News g L' _ _ => N8
              rename Fr g L' _ _ => F8
              have hcon : ∀ l ∈ known ++ cs.filterMap (unitOf known), -l ∉ known ++ cs.filterMap (unitOf known) := fun l hl hl' => by
                have := List.filter_eq_nil_iff.mp hb l hl
                rw [show (0 - l) = -l by omega] at this
                exact this (decide_eq_true hl')
              (refine Mine.exA1 (fo_step hcok FO hn hcon) ?_; intro FO2 hmu)
              refine ⟨_, _, _, _, muOf (known ++ cs.filterMap (unitOf known)), rfl, F8, fun p hp => N8 p ?_, hmu, _, _, _, 0, _, rfl, rfl, ?_, dK2, ik2, FO2, fun y hy => ?_⟩
              · simp only [List.mem_cons, List.not_mem_nil, or_false] at hp ⊢
                rcases hp with rfl | rfl <;> simp
              · exact l7
              · rw [ovr_ovr y (by revert hy; simp)]; exact mm2 y hy
            · rw [if_pos (by rw [decide_eq_false hb]; rfl)]
              (repeat' (walk_at "go"))
              (repeat' (walk_at "go")); (try dsimp only [WhileStep2])
              rename Fr g L' _ _ => F8
              (refine Mine.exE1 (List.exists_mem_of_ne_nil _ hb) ?_; intro l hl)
              rw [List.mem_filter, decide_eq_true_eq, show (0 - l) = -l by omega] at hl
              exact retR F8 (.inl ⟨rfl, fo_clash FO hl.1 hl.2⟩)
end

/-! part E1 -/
set_option maxHeartbeats 4000000

section
variable {A : Around} {s : Shared}
theorem same_int {n : Int} {t u : Tok} : SeqAt.EqAt A s (.int n t) (.int n u) true := by
  have := SeqAt.EqAt.int_int (A := A) (s := s) n t n u
  rwa [beq_self_eq_true] at this

theorem same_list {l b : Addr} {items items2 : Array Value} {n n' : Nat} (hl : s.heap.get? l = some (W.listOf items n)) (hb : s.heap.get? b = some (W.listOf items2 n')) (hsz : items.size = items2.size) (hu : A.units < cLine)
    (he : ∀ j (h1 : j < items.size) (h2 : j < items2.size), SeqAt.EqAt A.in1 s items[j] items2[j] true) : SeqAt.EqAt A s (.ref l) (.ref b) true := by
  by_cases e : l = b
  · subst e; exact SeqAt.EqAt.same _
  · refine SeqAt.EqAt.of_refs e ?_
    have := SeqAt.RcAt.lists (A := A) (e := fun _ => true) (Mine.mkE1A2E1 _ hl rfl _ rfl) (Mine.mkE1A2E1 _ hb rfl _ rfl) hsz hu he
    rwa [show (List.range items.size).all (fun _ => true) = true by simp] at this
theorem same_tuple {l b : Addr} {items items2 : Array Value} {n n' : Nat} (hl : s.heap.get? l = some { cls := .type "tuple", data := .seq items n }) (hb : s.heap.get? b = some { cls := .type "tuple", data := .seq items2 n' }) (hsz : items.size = items2.size) (hu : A.units < cLine)
    (he : ∀ j (h1 : j < items.size) (h2 : j < items2.size), SeqAt.EqAt A.in1 s items[j] items2[j] true) : SeqAt.EqAt A s (.ref l) (.ref b) true := by
  by_cases e : l = b
  · subst e; exact SeqAt.EqAt.same _
  · refine SeqAt.EqAt.of_refs e ?_
    have := SeqAt.RcAt.tuples (A := A) (e := fun _ => true) (Mine.mkE1A2E1 _ hl rfl _ rfl) (Mine.mkE1A2E1 _ hb rfl _ rfl) hu he
    rwa [show ((List.range (min items.size items2.size)).all (fun _ => true) && items.size == items2.size) = true by simp [hsz]] at this
theorem same_ints {l b : Addr} {ns : List Int} (hl : ListInts s.heap l ns) (hb : ListInts s.heap b ns) (hu : A.units < cLine) : SeqAt.EqAt A s (.ref l) (.ref b) true := by
  (refine Mine.exE2A1 hl ?_; (try clear hl); intro vs n e i)
  (refine Mine.exE2A1 hb ?_; (try clear hb); intro us m e' i')
  refine same_list e e' (by rw [List.size_toArray, List.size_toArray, i.length, i'.length]) hu fun j h1 h2 => ?_
  (refine Mine.exE2A1 (i.at j (vs.toArray[j]) (by simp at h1; simp [h1])) ?_; intro a t ha ha')
  (refine Mine.exE2A1 (i'.at j (us.toArray[j]) (by simp at h2; simp [h2])) ?_; intro b u hb hb')
  rw [ha'] at hb'
  cases hb'
  rw [ha, hb]; exact same_int
theorem same_pair {l b : Addr} {q : Int × Int} (hl : PairAt s.heap l q) (hb : PairAt s.heap b q) (hu : A.units < cLine) : SeqAt.EqAt A s (.ref l) (.ref b) true := by
  (refine Mine.exE3 hl ?_; (try clear hl); intro t u n e)
  (refine Mine.exE3 hb ?_; (try clear hb); intro t' u' n' e')
  refine same_tuple e e' rfl hu fun j h1 h2 => ?_
  match j, h1, h2 with
  | 0, _, _ => exact same_int
  | 1, _, _ => exact same_int
theorem keq_self {kvs : List (Int × Value)} : ∀ {r : List (Int × Value)}, (∀ q ∈ r, valueAt kvs q.1 = some q.2) → KeqHits A s kvs r true
  | [], _ => .nil
  | (k, v) :: r, h => by
    have := KeqHits.hit (e := true) (b := true) (h (k, v) (.head _)) (SeqAt.EqAt.same (A := A) (s := s) v) (keq_self (r := r) fun q hq => h q (.tail _ hq))
    exact this
theorem valueAt_self : ∀ {kvs : List (Int × Value)}, (kvs.map (·.1)).Nodup → ∀ q ∈ kvs, valueAt kvs q.1 = some q.2
  | [], _, _, h => nomatch h
  | (k, v) :: r, hn, q, hq => by
    rw [List.map_cons, List.nodup_cons] at hn
    unfold valueAt
    rcases List.mem_cons.mp hq with rfl | hq
    · simp
    · have hne : k ≠ q.1 := fun e => hn.1 (List.mem_map.mpr (Mine.mkE1A1 q hq e.symm))
      have := valueAt_self hn.2 q hq
      unfold valueAt at this
      rw [List.find?_cons_of_neg (by simpa using hne)]
      exact this
theorem pairs_over {w w' : World} {prog : Program} {es : List DictEntry} {kvs : List (Int × Value)} (h : Pairs (intKind PP w) es kvs) : Pairs (intKind prog w') es kvs := by
  induction h with
  | nil => exact .nil
  | cons a b _ ih => exact .cons a b ih
theorem isDict_over {w w' : World} {prog : Program} {o : Obj} {kvs : List (Int × Value)} (h : o.IsDictOf (intKind PP w) kvs) : o.IsDictOf (intKind prog w') kvs :=
  let ⟨es, ep, a, b, c, d, e⟩ := h; (Mine.mkE2 es ep ⟨a, b, c, pairs_over d, e⟩)
theorem same_dict {w : World} {a b : Addr} {oa ob : Obj} {kvs : List (Int × Value)} (la : (a == sysModules) = false) (lb : (b == sysModules) = false) (ha : s.heap.get? a = some oa) (da : oa.IsDictOf (intKind PP w) kvs) (hb : s.heap.get? b = some ob) (db : ob.IsDictOf (intKind PP w) kvs) (hu : A.units < cLine) :
    SeqAt.EqAt A s (.ref a) (.ref b) true := by
  by_cases e : a = b
  · subst e; exact SeqAt.EqAt.same _
  · have hn : (kvs.map (·.1)).Nodup := by (refine Mine.exE2 da ?_; (try clear da); intro es ep hrun155; refine Mine.exA4 hrun155 ?_; clear hrun155; intro _ _ _ _ h); exact h
    refine SeqAt.EqAt.of_refs e fun prog w' E Q h => ?_
    exact keq_eq (knd := intKind prog w') (r := true) la lb (Heap.dictOf_iff.mpr (Mine.mkE1A1 oa ha (isDict_over da))) (Heap.dictOf_iff.mpr (Mine.mkE1A1 ob hb (isDict_over db))) hu (fun _ => keq_self (valueAt_self hn)) (by simpa using h)
end

section
variable {prog : Program} {w : World} {A : Around} {E : Value → Shared → Prop} {s : Shared}
theorem ne_list_same {l b : Addr} {items items2 : Array Value} {n n' : Nat} {Q : Value → Shared → Prop} (hl : s.heap.get? l = some (W.listOf items n)) (hb : s.heap.get? b = some (W.listOf items2 n')) (hsz : items.size = items2.size) (hu : A.units < cLine)
    (he : ∀ j (h1 : j < items.size) (h2 : j < items2.size), SeqAt.EqAt A.in1 s items[j] items2[j] true) (h : Q (.bool false) s) : wpAny (model prog w) A (compareOp .NotEq (.ref l) (.ref b)) Q E s := by
  have := SeqAt.RcNeAt.lists (A := A) (e := fun _ => true) (Mine.mkE1A2E1 _ hl rfl _ rfl) (Mine.mkE1A2E1 _ hb rfl _ rfl) hsz hu he
  rw [show (!(List.range items.size).all (fun _ => true)) = false by simp] at this
  exact this prog w E Q h
theorem ne_tuple_same {l b : Addr} {items items2 : Array Value} {n n' : Nat} {Q : Value → Shared → Prop} (hl : s.heap.get? l = some { cls := .type "tuple", data := .seq items n }) (hb : s.heap.get? b = some { cls := .type "tuple", data := .seq items2 n' }) (hsz : items.size = items2.size) (hu : A.units < cLine)
    (he : ∀ j (h1 : j < items.size) (h2 : j < items2.size), SeqAt.EqAt A.in1 s items[j] items2[j] true) (h : Q (.bool false) s) : wpAny (model prog w) A (compareOp .NotEq (.ref l) (.ref b)) Q E s := by
  have := SeqAt.RcNeAt.tuples (A := A) (e := fun _ => true) (Mine.mkE1A2E1 _ hl rfl _ rfl) (Mine.mkE1A2E1 _ hb rfl _ rfl) hu he
  rw [show (!((List.range (min items.size items2.size)).all (fun _ => true) && items.size == items2.size)) = false by simp [hsz]] at this
  exact this prog w E Q h
theorem eq_tuple_same {l b : Addr} {items items2 : Array Value} {n n' : Nat} {Q : Value → Shared → Prop} (hl : s.heap.get? l = some { cls := .type "tuple", data := .seq items n }) (hb : s.heap.get? b = some { cls := .type "tuple", data := .seq items2 n' }) (hsz : items.size = items2.size) (hu : A.units < cLine)
    (he : ∀ j (h1 : j < items.size) (h2 : j < items2.size), SeqAt.EqAt A.in1 s items[j] items2[j] true) (h : Q (.bool true) s) : wpAny (model prog w) A (compareOp .Eq (.ref l) (.ref b)) Q E s := by
  have := SeqAt.RcAt.tuples (A := A) (e := fun _ => true) (Mine.mkE1A2E1 _ hl rfl _ rfl) (Mine.mkE1A2E1 _ hb rfl _ rfl) hu he
  rw [show ((List.range (min items.size items2.size)).all (fun _ => true) && items.size == items2.size) = true by simp [hsz]] at this
  exact this prog w E Q h
theorem isnot_bool {b : Bool} {Q : Value → Shared → Prop} (h : Q (.bool false) s) : wpAny (model prog w) A (compareOp .IsNot (.bool b) (.bool b)) Q E s := wpAny_isNot_self (by cases b <;> rfl) h
theorem pairs_same {as bs : List Addr} {qs : List (Int × Int)} (ha : as.length = qs.length) (pa : ∀ (i : Nat) x q, as[i]? = some x → qs[i]? = some q → PairAt s.heap x q) (hb : bs.length = qs.length) (pb : ∀ (i : Nat) x q, bs[i]? = some x → qs[i]? = some q → PairAt s.heap x q) (hu : A.units < cLine) :
    ∀ j (h1 : j < (as.map Value.ref).toArray.size) (h2 : j < (bs.map Value.ref).toArray.size), SeqAt.EqAt A s (as.map Value.ref).toArray[j] (bs.map Value.ref).toArray[j] true := fun j h1 h2 => by
  have h1' : j < as.length := by simpa using h1
  have h2' : j < bs.length := by simpa using h2
  have e1 : (as.map Value.ref).toArray[j] = .ref as[j] := by simp
  have e2 : (bs.map Value.ref).toArray[j] = .ref bs[j] := by simp
  rw [e1, e2]
  have h3 : j < qs.length := by omega
  exact same_pair (pa j _ _ (List.getElem?_eq_getElem h1') (List.getElem?_eq_getElem h3)) (pb j _ _ (List.getElem?_eq_getElem h2') (List.getElem?_eq_getElem h3)) hu
end
set_option hygiene false in
local macro_rules
| `(tactic| walk_at "compareOp IsNot bool bool") => `(tactic| (refine Mine.isnot_bool ?_))

/-! part M17 -/
set_option maxHeartbeats 4000000


/-- what a turn of a for over an enumerate ends in -/
def TurnEnd2 (h₀ : Heap) (L e it : Addr) (oe oi : Obj) (Jn : (Str → Option Value) → List (Addr × Obj) → Prop) (s : Shared) (Q : Flow → Shared → Prop) (f : Flow) (s₂ : Shared) : Prop :=
  match f with
  | .ret v => Q (.ret v) s₂
  | .brk => Q .next s₂
  | _ => ∃ h' tk m' nx, s₂ = { s with heap := h', toks := tk } ∧ Fr h₀ L h' m' ∧ News h₀ L h' ((e, oe) :: (it, oi) :: nx) ∧ (∀ p ∈ nx, p.1 ≠ e ∧ p.1 ≠ it) ∧ Jn m' nx

section
variable {prog : Program} {w : World} {A : Around} {E : Value → Shared → Prop} {s : Shared} {env : Env} {h₀ : Heap} {xi xv : Str} {pi pv pt : Pos} {x1 : Nat} {body : List Stmt} {Q : Flow → Shared → Prop} {m : Str → Option Value} {news : List (Addr × Obj)}

theorem for_enum_code {R : Result → Shared → Prop} {l e it : Addr} {items : Array Value} {no : Nat} (hh : A.handled = none) (ho : h₀.get? l = some (W.listOf items no)) (hei : e ≠ it) (he0 : h₀.get? e = none) (hi0 : h₀.get? it = none) (heL : e ≠ env.locals) (hiL : it ≠ env.locals)
    (he : IsEnum s.heap e it 0 .none) (hit : s.heap.IsListIter it l 0) (F : Fr h₀ env.locals s.heap m) (N : News h₀ env.locals s.heap news) (hnw : ∀ p ∈ news, p.1 ≠ e ∧ p.1 ≠ it)
    (J : Nat → (Str → Option Value) → List (Addr × Obj) → Prop) (h0 : J 0 m news)
    (turn : ∀ i v ti m₁ nx h tk oe oi, items[i]? = some v → J i m₁ nx → (∀ p ∈ nx, p.1 ≠ e ∧ p.1 ≠ it) → Fr h₀ env.locals h m₁ → News h₀ env.locals h ((e, oe) :: (it, oi) :: nx) →
      wpAny (model prog w) A (do holding [v] (assign (.Name xi pi) env (.int (i : Int) ti)); do holding [] (assign (.Name xv pv) env v); pure ())
        (fun _ s₂ => wpAny (model prog w) A (execs body env) (TurnEnd2 h₀ env.locals e it oe oi (J (i + 1)) s Q) (fun _ _ => False) s₂) (fun _ _ => False) { s with heap := h, toks := tk })
    (hQ : ∀ f s', Q f s' → R (.ok f) s')
    (hR : ∀ h' tk m' news', Fr h₀ env.locals h' m' → News h₀ env.locals h' news' → J items.size m' news' → Q .next { s with heap := h', toks := tk }) :
    codeAny (model prog w) A (.forLoop (.Tuple [.Name xi pi, .Name xv pv] x1 pt) (.ref e) body [] env) R s := by
  have hle : l ≠ e := fun q => by rw [q, he0] at ho; cases ho
  have hli : l ≠ it := fun q => by rw [q, hi0] at ho; cases ho
  refine codeAny_forLoop_any
    (fun k s' => ∃ h' tk m' news' i old, s' = { s with heap := h', toks := tk } ∧ IsEnum h' e it ((i : Nat) : Int) old ∧ h'.IsListIter it l i ∧ Fr h₀ env.locals h' m' ∧ News h₀ env.locals h' news' ∧ (∀ p ∈ news', p.1 ≠ e ∧ p.1 ≠ it) ∧ J i m' news' ∧ i ≤ items.size ∧ k = items.size + 1 - i) ?_ (items.size + 1)
    (Mine.mkE6 s.heap s.toks m news 0 (.none) ⟨rfl, he, hit, F, N, hnw, h0, Nat.zero_le _, rfl⟩)
  intro k s' hjo2
  walk_at "hideG"
  (refine Mine.exE6 hjo2 ?_; (try clear hjo2); intro H tk m' news' i old hrun158; refine Mine.exA8 hrun158 ?_; clear hrun158; intro hsb156 he' hit' F' N' hnw' hJ hi hsb157; subst hsb156; subst hsb157)
  walk_at "showG"
  have hl' : H.IsList l items := (Mine.mkE1A2E1 _ (F'.keep _ _ ho) rfl _ rfl)
  have next : ∀ h₁ : Heap, (∀ b o, b ≠ e → b ≠ it → H.get? b = some o → h₁.get? b = some o) → Fr h₀ env.locals h₁ m' ∧ News h₀ env.locals h₁ news' := fun h₁ hk₁ =>
    ⟨⟨F'.ns.at' fun o x => hk₁ _ o (Ne.symm heL) (Ne.symm hiL) x, fun b o x => hk₁ b o (fun q => by rw [q, he0] at x; cases x) (fun q => by rw [q, hi0] at x; cases x) (F'.keep b o x), F'.above⟩,
      fun p hp => ⟨hk₁ _ _ (hnw' p hp).1 (hnw' p hp).2 (N' p hp).1, (N' p hp).2⟩⟩
  cases hv : items[i]? with
  | none =>
    have hsz : i = items.size := Nat.le_antisymm hi (by simpa using hv)
    refine wpAny_pyNext_enum_end hh he' hit' hl' hv fun h₁ he₁ => wpAny_execs_nil ?_
    subst hsz
    (refine Mine.exE1A1 (id hit') ?_; intro oi hoi _)
    have F1 : Fr h₀ env.locals h₁ m' := ⟨F'.ns.at' fun o x => he₁ _ o (Ne.symm hiL) x, fun b o x => he₁ b o (fun q => by rw [q, hi0] at x; cases x) (F'.keep b o x), F'.above⟩
    exact hQ _ _ (hR h₁ tk m' news' F1 (fun p hp => ⟨he₁ _ _ (hnw' p hp).2 (N' p hp).1, (N' p hp).2⟩) hJ)
  | some v =>
    have hlt : i < items.size := (Array.getElem?_eq_some_iff.mp hv).1
    have heH : e < H.objs.size := Heap.lt_size he'
    (refine Mine.exE1A1 (id hit') ?_; intro oi hoi _)
    have hiH : it < H.objs.size := Heap.lt_size hoi
    refine wpAny_pyNext_enum_item he' hit' hl' hv hei fun h₁ heo hit₁ ht₁ hz₁ hk₁ => ?_
    refine wpAny_letOwnedTupleGo_enum heo fun h₂ he₂ hs₂ => ?_
    replace hs₂ : Heap.SameBut e h₁ h₂ := hs₂
    have ht₂ : h₂.IsTuple H.objs.size #[.int i tk, v] := (Mine.mkE1A2E1 _ ((hs₂.2 _ (Nat.ne_of_gt heH)).trans ht₁) rfl _ rfl)
    have hz₂ : h₂.objs.size = H.objs.size + 1 := hs₂.1.trans hz₁
    refine wpAny_assign_Tuple hh ht₂ rfl rfl fun h₃ hx₃ => ?_
    replace hx₃ : Heap.ExtBut h₂.objs.size h₂ h₃ := hx₃
    have up₃ : ∀ b o, h₂.get? b = some o → h₃.get? b = some o := fun b o x => hx₃ b o (Nat.ne_of_lt (Heap.lt_size x)) x
    (refine Mine.exA1 (next h₃ fun b o hbe hbi x => up₃ b o (hs₂.extBut b o hbe (hk₁ b o hbe hbi x))) ?_; intro F₃ N₃)
    (refine Mine.exE1A1 (show ∃ oe₃, h₃.get? e = some oe₃ ∧ ∀ h', h'.get? e = some oe₃ → IsEnum h' e it ((i : Int) + 1) v from (Mine.mkE1A1 _ (up₃ _ _ he₂) (fun _ x => x))) ?_; intro oe₃ hoe₃ hen₃)
    (refine Mine.exE1A2 (hit₁.extBut hs₂.extBut (Ne.symm hei)) ?_; intro oi₃ hoi₃ hcl₃ hda₃)
    have N₄ : News h₀ env.locals h₃ ((e, oe₃) :: (it, oi₃) :: news') := List.forall_mem_cons.mpr ⟨⟨hoe₃, heL, he0⟩, List.forall_mem_cons.mpr ⟨⟨up₃ _ _ hoi₃, hiL, hi0⟩, N₃⟩⟩
    refine wpAny_mono (turn i v tk m' news' h₃ _ oe₃ oi₃ hv hJ hnw' F₃ N₄) (fun _ s₂ h₂' => ?_) fun _ _ x => x.elim
    refine wpAny_mono h₂' (fun f s₃ h₃' => ?_) fun _ _ x => x.elim
    have fin : (∃ h' tk m'' nx, s₃ = { s with heap := h', toks := tk } ∧ Fr h₀ env.locals h' m'' ∧ News h₀ env.locals h' ((e, oe₃) :: (it, oi₃) :: nx) ∧ (∀ p ∈ nx, p.1 ≠ e ∧ p.1 ≠ it) ∧ J (i + 1) m'' nx) → ∃ mm, mm < items.size + 1 - i ∧ ∃ h' tk m' news' i old, s₃ = { s with heap := h', toks := tk } ∧ IsEnum h' e it ((i : Nat) : Int) old ∧ h'.IsListIter it l i ∧ Fr h₀ env.locals h' m' ∧ News h₀ env.locals h' news' ∧ (∀ p ∈ news', p.1 ≠ e ∧ p.1 ≠ it) ∧ J i m' news' ∧ i ≤ items.size ∧ mm = items.size + 1 - i := by
      intro hjo0
      walk_at "hideG"
      (refine Mine.exE4A4 hjo0 ?_; (try clear hjo0); intro h' tk₃ m₂ nx hsb159 F₆ N₆ ha₆ hJ₆; subst hsb159)
      walk_at "showG"
      refine ⟨items.size + 1 - (i + 1), ⟨by omega, (Mine.mkE6 h' tk₃ m₂ nx (i + 1) v ⟨rfl, ?_, (Mine.mkE1A2 oi₃ ((N₆ _ (.tail _ (.head _))).1) hcl₃ hda₃), F₆, fun p hp => N₆ p (.tail _ (.tail _ hp)), ha₆, hJ₆, hlt, rfl⟩)⟩⟩
      have : ((i + 1 : Nat) : Int) = (i : Int) + 1 := by omega
      rw [this]; exact hen₃ _ (N₆ _ (.head _)).1
    cases f with
    | ret v => exact hQ _ _ h₃'
    | brk => exact hQ _ _ h₃'
    | cont => exact fin h₃'
    | next => exact fin h₃'

theorem for_enum {l : Addr} {items : Array Value} {no : Nat} (hh : A.handled = none) (ho : h₀.get? l = some (W.listOf items no)) (F : Fr h₀ env.locals s.heap m) (N : News h₀ env.locals s.heap news)
    (J : Nat → (Str → Option Value) → List (Addr × Obj) → Prop) (h0 : J 0 m news)
    (turn : ∀ i v ti m₁ nx h tk e it oe oi, items[i]? = some v → J i m₁ nx → (∀ p ∈ nx, p.1 ≠ e ∧ p.1 ≠ it) → Fr h₀ env.locals h m₁ → News h₀ env.locals h ((e, oe) :: (it, oi) :: nx) →
      ∀ Q', Under (TurnEnd2 h₀ env.locals e it oe oi (J (i + 1)) s Q) Q' → wpAny (model prog w) A (do holding [v] (assign (.Name xi pi) env (.int (i : Int) ti)); do holding [] (assign (.Name xv pv) env v); pure ())
        (fun _ s₂ => wpAny (model prog w) A (execs body env) Q' (fun _ _ => False) s₂) (fun _ _ => False) { s with heap := h, toks := tk })
    (done : ∀ m₁ nx h tk, J items.size m₁ nx → Fr h₀ env.locals h m₁ → News h₀ env.locals h nx → Q .next { s with heap := h, toks := tk }) :
    wpAny (model prog w) A (call (.type "enumerate") [.ref l]) (fun x s₁ => wpAny (model prog w) A (pyIter x) (fun it s₂ => codeAny (model prog w) A (.forLoop (.Tuple [.Name xi pi, .Name xv pv] x1 pt) it body [] env) (fun r s' => match r with | .ok f => Q f s' | .error e => cameBackBy (model prog w) A env E e s') s₂) E s₁) E s := by
  refine call_enumerate_1 (F.keep _ _ ho) fun h' he hit hz hk => ?_
  refine wpAny_pyIter_enum he ?_
  have F1 : Fr h₀ env.locals h' m := ⟨F.ns.keeps hk, fun b o e => hk b o (F.keep b o e), F.above⟩
  have hL : env.locals < s.heap.objs.size := F.ns.lt
  have h01 : h₀.get? s.heap.objs.size = none := next_is_new F
  have h02 : h₀.get? (s.heap.objs.size + 1) = none := by
    cases e : h₀.get? (s.heap.objs.size + 1) with
    | none => rfl
    | some o => exact absurd (Heap.lt_size (F.keep _ _ e)) (Nat.not_lt.mpr (Nat.le_succ _))
  refine for_enum_code (s := { s with heap := h' }) (l := l) hh ho (Nat.ne_of_gt (Nat.lt_succ_self _)) h02 h01 (Nat.ne_of_gt (Nat.lt_succ_of_lt hL)) (Nat.ne_of_gt hL) he hit F1 (fun p hp => ⟨hk _ _ (N p hp).1, (N p hp).2⟩)
    (fun p hp => ⟨Nat.ne_of_lt (Nat.lt_succ_of_lt (Heap.lt_size (N p hp).1)), Nat.ne_of_lt (Heap.lt_size (N p hp).1)⟩) J h0 (fun i v ti m₁ nx h tk oe oi a b c d e => turn i v ti m₁ nx h tk _ _ oe oi a b c d e _ .refl) (fun f s' h => h) fun h'' tk m' news' F' N' hJ => done m' news' h'' tk hJ F' N'
end

theorem cells3 {cm : Str → Option Value} {y1 y2 y3 : Str} {c1 c2 c3 : Addr} {cells : List (Addr × Obj)} (Y : CellsAre cm [(y1, c1), (y2, c2), (y3, c3)] cells) : ∃ o1 o2 o3, cells = [(c1, o1), (c2, o2), (c3, o3)] ∧ o1.data = .cell (cm y1) ∧ o2.data = .cell (cm y2) ∧ o3.data = .cell (cm y3) := by
  cases Y with
  | cons h1 Y => cases Y with
    | cons h2 Y => cases Y with
      | cons h3 Y => cases Y with
        | nil => exact (Mine.mkE3 _ _ _ ⟨rfl, h1, h2, h3⟩)


/-! part P5 -/
set_option maxHeartbeats 4000000

/-! what the law counts anew behind each literal -/
noncomputable def hitC (T : List Int) (l : Int) (c : List Int) : Bool := decide ((0 - l) ∈ c) && (c.filter fun x => decide (x ∈ T)).isEmpty
theorem hitC_iff {T : List Int} {l : Int} {c : List Int} : hitC T l c = true ↔ -l ∈ c ∧ (c.filter fun x => decide (x ∈ T)) = [] := by
  have e : (0 - l) = -l := by omega
  unfold hitC
  rw [e, Bool.and_eq_true, decide_eq_true_eq, List.isEmpty_iff]
noncomputable def dueC (T : List Int) (l : Int) (c : List Int) (i : Int) : List (Int × Int) := if hitC T l c = true then ((restOf T c).filter fun _ => (restOf T c).length == 1).map fun x => (x, i) else []
noncomputable def lostC (T : List Int) (l : Int) (c : List Int) (i : Int) : List Int := if hitC T l c = true then (if restOf T c = [] then [i] else []) else []
noncomputable def dueL (T : List Int) (l : Int) (cs : List (List Int)) : List (Int × Int) := cs.zipIdx.flatMap fun q => dueC T l q.1 q.2
noncomputable def lostL (T : List Int) (l : Int) (cs : List (List Int)) : List Int := cs.zipIdx.flatMap fun q => lostC T l q.1 q.2

theorem zip_take {cs : List (List Int)} {i : Nat} {c : List Int} (h : cs[i]? = some c) : (cs.take (i + 1)).zipIdx = (cs.take i).zipIdx ++ [(c, i)] := by
  have hi := (List.getElem?_eq_some_iff.mp h).1
  rw [List.take_add_one, h, List.zipIdx_append]
  simp [Nat.min_eq_left (Nat.le_of_lt hi)]
theorem dueL_take {T : List Int} {l : Int} {cs : List (List Int)} {i : Nat} {c : List Int} (h : cs[i]? = some c) : dueL T l (cs.take (i + 1)) = dueL T l (cs.take i) ++ dueC T l c i := by
  unfold dueL; rw [zip_take h, List.flatMap_append]; simp
theorem lostL_take {T : List Int} {l : Int} {cs : List (List Int)} {i : Nat} {c : List Int} (h : cs[i]? = some c) : lostL T l (cs.take (i + 1)) = lostL T l (cs.take i) ++ lostC T l c i := by
  unfold lostL; rw [zip_take h, List.flatMap_append]; simp

theorem held_filter {T c : List Int} : heldOf T c = 0 ↔ (c.filter fun x => decide (x ∈ T)) = [] := by
  unfold heldOf
  rw [← List.length_eq_zero_iff]; omega
theorem open_rest {T c : List Int} : openOf T c = ((restOf T c).length : Int) := rfl
theorem free_rest {T c : List Int} (h : (c.filter fun x => decide (x ∈ T)) = []) : freeOf T c = restOf T c := by
  unfold freeOf restOf
  refine List.filter_congr fun x hx => ?_
  have h1 := List.filter_eq_nil_iff.mp h x hx
  have h2 : x ∉ T := by simpa using h1
  have e : (0 - x) = -x := by omega
  rw [e]; simp [h2]

theorem dueC_at {T : List Int} {l : Int} {cs : List (List Int)} {i : Nat} {c : List Int} (h : cs[i]? = some c) : dueC T l c i = if (-l) ∈ c then dueAt T cs i else [] := by
  unfold dueC dueAt
  rw [Int.toNat_natCast, h]
  dsimp only
  simp only [held_filter, open_rest]
  by_cases hl : -l ∈ c
  · by_cases hf : (c.filter fun x => decide (x ∈ T)) = []
    · rw [if_pos (hitC_iff.mpr ⟨hl, hf⟩), if_pos hl]
      by_cases h1 : (restOf T c).length = 1
      · rw [if_pos ⟨hf, by omega⟩, free_rest hf]
        (refine Mine.exE1 (List.length_eq_one_iff.mp h1) ?_; intro y hy)
        rw [hy]; rfl
      · rw [if_neg (by omega)]
        rw [List.filter_eq_nil_iff.mpr (by intro x _; simpa using h1)]; rfl
    · rw [if_neg (fun q => hf (hitC_iff.mp q).2), if_pos hl, if_neg (fun q => hf q.1)]
  · rw [if_neg (fun q => hl (hitC_iff.mp q).1), if_neg hl]
theorem lostC_at {T : List Int} {l : Int} {cs : List (List Int)} {i : Nat} {c : List Int} (h : cs[i]? = some c) : lostC T l c i = if (-l) ∈ c then (if lostAt T cs i = true then [(i : Int)] else []) else [] := by
  unfold lostC lostAt
  rw [Int.toNat_natCast, h]
  dsimp only
  simp only [decide_eq_true_eq, held_filter, open_rest]
  by_cases hl : -l ∈ c
  · by_cases hf : (c.filter fun x => decide (x ∈ T)) = []
    · rw [if_pos (hitC_iff.mpr ⟨hl, hf⟩), if_pos hl]
      by_cases h1 : restOf T c = []
      · rw [if_pos h1, if_pos ⟨hf, by rw [h1]; rfl⟩]
      · rw [if_neg h1, if_neg]
        intro q
        exact h1 (List.length_eq_zero_iff.mp (by omega))
    · rw [if_neg (fun q => hf (hitC_iff.mp q).2), if_pos hl, if_neg (fun q => hf q.1)]
  · rw [if_neg (fun q => hl (hitC_iff.mp q).1), if_neg hl]

theorem flat_congr {α β : Type} : ∀ {xs : List α} {f g : α → List β}, (∀ x ∈ xs, f x = g x) → xs.flatMap f = xs.flatMap g
  | [], _, _, _ => rfl
  | x :: r, f, g, h => by
    rw [List.flatMap_cons, List.flatMap_cons, h x (.head _), flat_congr fun y hy => h y (.tail _ hy)]
theorem flat_idx {β : Type} {cs : List (List Int)} {k : Int} {f : Int → List β} : (idxOf cs k).flatMap f = cs.zipIdx.flatMap fun q => if k ∈ q.1 then f q.2 else [] := by
  unfold idxOf
  induction cs.zipIdx with
  | nil => rfl
  | cons q r ih =>
    rw [List.flatMap_cons, ← ih, List.filter_cons]
    by_cases h : k ∈ q.1
    · simp [h]
    · simp [h]
theorem filter_flat {p : Int → Bool} : ∀ {ns : List Int}, ns.filter p = ns.flatMap fun n => if p n = true then [n] else []
  | [] => rfl
  | n :: r => by
    rw [List.flatMap_cons, List.filter_cons, filter_flat]
    by_cases h : p n = true
    · simp [h]
    · simp [h]
theorem dueL_eq {T : List Int} {l : Int} {cs : List (List Int)} : dueL T l cs = (idxOf cs (-l)).flatMap (dueAt T cs) := by
  rw [flat_idx]
  unfold dueL
  refine flat_congr fun q hq => ?_
  have := List.mem_zipIdx_iff_getElem?.mp hq
  exact dueC_at this
theorem lostL_eq {T : List Int} {l : Int} {cs : List (List Int)} : lostL T l cs = (idxOf cs (-l)).filter (lostAt T cs) := by
  rw [filter_flat, flat_idx]
  unfold lostL
  refine flat_congr fun q hq => ?_
  have := List.mem_zipIdx_iff_getElem?.mp hq
  exact lostC_at this
theorem stands_eq {T : List Int} {l : Int} {cs : List (List Int)} : (!(idxOf cs (-l)).any (lostAt T cs)) = decide (lostL T l cs = []) := by
  rw [lostL_eq]
  by_cases h : (idxOf cs (-l)).filter (lostAt T cs) = []
  · rw [decide_eq_true h]
    rw [Bool.not_eq_true', List.any_eq_false]
    exact fun x hx => List.filter_eq_nil_iff.mp h x hx
  · rw [decide_eq_false h]
    (refine Mine.exE1 (List.exists_mem_of_ne_nil _ h) ?_; intro x hx)
    rw [List.mem_filter] at hx
    rw [Bool.not_eq_false', List.any_eq_true]
    exact (Mine.mkE1A1 x hx.1 hx.2)
theorem clash_nil {T : List Int} {l : Int} {cs : List (List Int)} {ck : Int × Int} (h : lostL T l cs = []) : clashOf T cs l ck (idxOf cs (-l)) = ck := by
  rw [lostL_eq] at h
  unfold clashOf; rw [h]; rfl
theorem clash_last {T : List Int} {l : Int} {cs : List (List Int)} {ck : Int × Int} {xs : List Int} {x : Int} (h : lostL T l cs = xs ++ [x]) : clashOf T cs l ck (idxOf cs (-l)) = (x, l) := by
  rw [lostL_eq] at h
  unfold clashOf; rw [h]; simp
theorem dueV_skip {R : List Int} {b : Bool} {n : Nat} {i : Int} (hb : b = false) : ((R.take n).filter fun _ => b).map (fun x => (x, i)) = [] := by
  subst hb; simp
theorem dueV_more {R : List Int} {b : Bool} {n : Nat} {i y : Int} (hb : b = true) (h : R[n]? = some y) : ((R.take (n + 1)).filter fun _ => b).map (fun x => (x, i)) = ((R.take n).filter fun _ => b).map (fun x => (x, i)) ++ [(y, i)] := by
  subst hb
  rw [List.take_add_one, h]; simp
theorem dueL_len {T : List Int} {l : Int} {cs : List (List Int)} : (dueL T l cs).length ≤ cs.length := by
  rw [dueL_eq]
  exact Nat.le_trans dues_le (idxOf_le cs (-l))
theorem lostL_len {T : List Int} {l : Int} {cs : List (List Int)} : (lostL T l cs).length ≤ cs.length := by
  rw [lostL_eq]
  exact Nat.le_trans (List.length_filter_le _ _) (idxOf_le cs (-l))

/-! part E2 -/
set_option maxHeartbeats 4000000

section
variable {w : World} {mg mb : Str → Option Value} {n : Nat} {A : Around} {h₀ : Heap} {L : Addr} {m : Str → Option Value} {s : Shared} {E : Value → Shared → Prop} {Q : Value → Shared → Prop}
theorem state_spec2 {a : StA} {e ck : Value} {hes ops trs : List Int} {ot : Obj} {kvs : List (Int × Value)} (C : Cx w mg mb (n + 1) A h₀ L) (F : Fr h₀ L s.heap m) (hx : s.heap.get? a.x = some (instObj 74 a.dx)) (hdx : DxAt s.heap a e ck)
    (hhe : ListInts s.heap a.he hes) (hop : ListInts s.heap a.op ops) (htr : ListInts s.heap a.tr trs) (hot : s.heap.get? a.ta = some ot) (hto : ot.IsDictOf (intKind PP w) kvs) (lo : (a.ta == sysModules) = false)
    (z1 : hes.length ≤ 1000) (z2 : ops.length ≤ 1000) (z3 : trs.length ≤ 1000) (z4 : kvs.length ≤ 1000)
    (hQ : ∀ t d1 d2 d3 d4 h' tk, s.heap.objs.size ≤ t → h'.get? t = some { cls := .type "tuple", data := .seq #[.ref d1, .ref d2, .ref d3, .ref d4] } → ListInts h' d1 hes → ListInts h' d2 ops → ListInts h' d3 trs → (∃ o', h'.get? d4 = some o' ∧ o'.IsDictOf (intKind PP w) kvs) → (d4 == sysModules) = false → (∀ d ∈ ([d1, d2, d3, d4] : List Nat), @LE.le Nat _ s.heap.objs.size d) →
      Kp [] s.heap h' → Fr h₀ L h' m → Q (.ref t) { s with heap := h', toks := tk }) :
    wpAny (model PP w) A (call (.ref 102) [.ref a.x]) Q E s := by
  refine' callR (binds := [(Str.ofString "steps", .ref a.x)]) (R := fun v h' => ∃ t d1 d2 d3 d4, v = .ref t ∧ s.heap.objs.size ≤ t ∧ h'.get? t = some { cls := .type "tuple", data := .seq #[.ref d1, .ref d2, .ref d3, .ref d4] } ∧ ListInts h' d1 hes ∧ ListInts h' d2 ops ∧ ListInts h' d3 trs ∧ (∃ o', h'.get? d4 = some o' ∧ o'.IsDictOf (intKind PP w) kvs) ∧ (d4 == sysModules) = false ∧ (∀ d ∈ ([d1, d2, d3, d4] : List Nat), @LE.le Nat _ s.heap.objs.size d)) [] C F (by simp) ?ho ?hcd ?hb ?hl ?h ?hQ ?hcell ?c1 ?c2 ?c3
  case ho => exact rfl
  case hcd => exact rfl
  case hb => exact BindsTo.of_eq rfl
  case hl => exact locs rfl
  case hcell => decide
  case c1 => rfl
  case c2 => rfl
  case c3 => rfl
  case hQ =>
    intro v h' tk hjo3 hk' F'
    walk_at "hideG"
    (refine Mine.exE5 hjo3 ?_; (try clear hjo3); intro t d1 d2 d3 d4 hrun161; refine Mine.exA8 hrun161 ?_; clear hrun161; intro hsb160 h1 h2 h3 h4 h5 h6 h7 h8; subst hsb160)
    walk_at "showG"
    exact hQ _ _ _ _ _ _ _ h1 h2 h3 h4 h5 h6 h7 h8 hk' F'
  case h =>
    intro g L' h₁ hg hL' C' F' hk₁
    have hgk : ∀ b o, s.heap.get? b = some o → g.get? b = some o := hg ▸ fun _ _ e => e
    (refine Mine.exE3 hdx ?_; (try clear hdx); intro hs ts nd hdx)
    (refine Mine.exE2A1 hhe ?_; (try clear hhe); intro vhe nhe hhe ihe)
    (refine Mine.exE2A1 hop ?_; (try clear hop); intro vop nop hop iop)
    (refine Mine.exE2A1 htr ?_; (try clear htr); intro vtr ntr htr itr)
    have gx := hgk _ _ hx
    have gdx := hgk _ _ hdx
    have ghe := hgk _ _ hhe
    have gop := hgk _ _ hop
    have gtr := hgk _ _ htr
    have got := hgk _ _ hot
    have X := C'.G.X
    have T := C'.G.T
    have hh := C'.hh
    have N : News g L' h₁ [] := News.nil
    have y1 := ihe.length
    have y2 := iop.length
    have y3 := itr.length
    have hL1 : @LT.lt Nat _ L' h₁.objs.size := F'.ns.lt
    clear hgk hk₁ hx hdx hhe hop htr hot hg
    (repeat' (walk_at "go"))
    rename News _ _ _ _ => N9
    rename Fr _ _ _ _ => F9
    rename Obj.IsDictOf _ _ _ => hd9
    rename (_ == sysModules) = false => lo9
    refine retR F9 (Mine.mkE5 _ _ _ _ _ ⟨rfl, ?_, News.get N9 (.head _), (Mine.mkE2A1 _ _ (News.get N9 (by k_mem)) ihe), (Mine.mkE2A1 _ _ (News.get N9 (by k_mem)) iop), (Mine.mkE2A1 _ _ (News.get N9 (by k_mem)) itr), (Mine.mkE1A1 _ (News.get N9 (by k_mem)) hd9), lo9, ?_⟩)
    · omega
    · simp only [List.forall_mem_cons]
      refine ⟨?_, ?_, ?_, ?_, fun _ h => nomatch h⟩ <;> omega
end
section
variable {prog : Program} {w : World} {A : Around} {E : Value → Shared → Prop} {s : Shared} {h₀ : Heap} {L : Addr} {m : Str → Option Value} {news : List (Addr × Obj)}
theorem keys_ints : ∀ (vs : List Value) (kvs : List (Int × Value)), vs.length = kvs.length → (∀ (j : Nat) v, vs[j]? = some v → ∃ k x, kvs[j]? = some (k, x) ∧ (intKind prog w).is k v = true) → IntsAre vs (keysOf kvs)
  | [], [], _, _ => .nil
  | [], _ :: _, h, _ => by cases h
  | _ :: _, [], h, _ => by cases h
  | v :: vs, kv :: kvs, h, hP => by
    (refine Mine.exE2A1 (hP 0 v rfl) ?_; intro k x e hk)
    cases e
    (refine Mine.exE1 (Value.isInt_shape hk) ?_; intro t hsb162; subst hsb162)
    exact .cons _ _ (keys_ints vs kvs (by simpa using h) fun j v e => hP (j + 1) v (by simpa using e))
theorem dict_list {d : Addr} {o : Obj} {kvs : List (Int × Value)} {Q : Value → Shared → Prop} (hh : A.handled = none) (F : Fr h₀ L s.heap m) (N : News h₀ L s.heap news) (lo : (d == sysModules) = false) (ho : s.heap.get? d = some o) (hd : o.IsDictOf (intKind prog w) kvs) (hlen : kvs.length ≤ 1000)
    (h : ∀ D c h' tk vs, Fr h₀ L h' m → News h₀ L h' ((D, W.listOf (List.toArray vs) c) :: news) → (∀ q ∈ news, q.1 < D) → IntsAre vs (keysOf kvs) → Q (.ref D) { s with heap := h', toks := tk }) :
    wpAny (model prog w) A (call (.type "list") [.ref d]) Q E s := by
  have hD : s.heap.DictOf (intKind prog w) d kvs := Heap.dictOf_iff.mpr (Mine.mkE1A1 o ho hd)
  (refine Mine.exE1 hD.dictAt ?_; intro ep hat)
  exact kdl_N (kdl_dict (knd := intKind prog w) (kvs := kvs) (ep := ep) lo) hh F N hat (by rw [sizeLine_eq]; omega) fun D c h' tk vs F' N' hlt hl hP => h D c h' tk vs F' N' hlt (keys_ints vs kvs hl hP)
end

/-! part M18 -/
set_option maxHeartbeats 4000000


section
variable {prog : Program} {w : World} {A : Around} {E : Value → Shared → Prop} {s : Shared}
theorem in_tup {l : Addr} {vs : List Value} {n : Nat} {ns : List Int} {k : Int} {t : Tok} {Q : Value → Shared → Prop} (hl : s.heap.get? l = some { cls := .type "tuple", data := .seq vs.toArray n }) (hi : IntsAre vs ns)
    (h : Q (.bool (decide (k ∈ ns))) s) : wpAny (model prog w) A (compareOp .In (.int k t) (.ref l)) Q E s :=
  SeqAt.in_tupleAt (isInt k) (Mine.mkE1A2E1 _ hl rfl _ rfl) (fun y hy => (eq_isInt k t hi y (by simpa using hy)).at _ _) (by rw [← Array.any_toList, show vs.toArray.toList = vs from rfl, any_isInt k hi, any_mem]; exact h)
end
set_option hygiene false in
local macro_rules
| `(tactic| walk_at "compareOp In int ref") => `(tactic| (k_dflt (refine Mine.in_tup (by walk_at "at") (by assumption) ?_)))

theorem news_pull {g h : Heap} {L : Addr} (pre core ex : List (Addr × Obj)) (N : News g L h (pre ++ (core ++ ex))) : News g L h (core ++ (pre ++ ex)) := fun p hp => N p (by
  rcases List.mem_append.mp hp with h | h
  · exact List.mem_append_right _ (List.mem_append_left _ h)
  · rcases List.mem_append.mp h with h | h
    · exact List.mem_append_left _ h
    · exact List.mem_append_right _ (List.mem_append_right _ h))

theorem _root_.Mine.PairsIn.app' {g : Heap} {ex ey : List (Addr × Obj)} {as bs : List Addr} {qs rs : List (Int × Int)} (p : PairsIn g ex as qs) (h : ∀ r ∈ ex, r ∈ ey) (q : PairsIn g ey bs rs) : PairsIn g ey (as ++ bs) (qs ++ rs) := by
  refine ⟨by rw [List.length_append, List.length_append, p.1, q.1], fun i x r h1 h2 => ?_⟩
  by_cases hi : i < as.length
  · rw [List.getElem?_append_left hi] at h1
    rw [List.getElem?_append_left (p.1 ▸ hi)] at h2
    exact (p.2 i x r h1 h2).more h
  · rw [List.getElem?_append_right (by omega)] at h1
    rw [List.getElem?_append_right (by rw [← p.1]; omega), ← p.1] at h2
    exact q.2 _ x r h1 h2
theorem off_pull {P : Addr × Obj → Prop} (pre core ex : List (Addr × Obj)) (h : ∀ r ∈ core ++ ex, P r) (hp : ∀ r ∈ pre, P r) : ∀ r ∈ core ++ (pre ++ ex), P r := fun r hr => by
  rcases List.mem_append.mp hr with h1 | h1
  · exact h r (List.mem_append_left _ h1)
  · rcases List.mem_append.mp h1 with h1 | h1
    · exact hp r h1
    · exact h r (List.mem_append_right _ h1)

theorem wp_if_cut {M : Model} {A : Around} {E : Value → Shared → Prop} {s : Shared} {α : Type} {c : Prop} [Decidable c] {m₁ m₂ : Sem α} {K P : α → Shared → Prop} (h : if c then wpAny M A m₁ P E s else wpAny M A m₂ P E s) (hK : ∀ a s', P a s' → K a s') : if c then wpAny M A m₁ K E s else wpAny M A m₂ K E s := by
  by_cases hc : c
  · rw [if_pos hc] at h ⊢; exact wpAny_mono h hK fun _ _ e => e
  · rw [if_neg hc] at h ⊢; exact wpAny_mono h hK fun _ _ e => e
theorem list_itemN {prog : Program} {w : World} {A : Around} {E : Value → Shared → Prop} {s : Shared} {value slice : PySem.Expr} {l : Addr} {items : Array Value} {n : Nat} {k : Int} {t : Tok} {v : Value} {Q : Value → Shared → Prop} (ho : s.heap.get? l = some (W.listOf items n)) (h0 : k < 0) (h1 : -(items.size : Int) ≤ k) (h2 : -(2 ^ 63) ≤ k) (hv : items[(k + items.size).toNat]? = some v)
    (h : Q v s) (hs : subscripted slice false (.ref l) (.int k t) = operate [.ref l, .int k t] (getItem (.ref l) (.int k t)) := by with_unfolding_all rfl) :
    wpAny (model prog w) A (subscriptTail value slice (.ref l) (.int k t)) Q E s := by
  have hl : s.heap.IsList l items := (Mine.mkE1A2E1 _ ho rfl _ rfl)
  exact tail_any hl.typeIs slot_list_getitem.lookup (wpAny_getItem_list_neg hl h0 h1 h2 hv h) hs

/-- where a round of the law's count stands -/
inductive TakJ (g : Heap) (L' : Nat) (o1 : Obj) (adx : Addr) (dxo : Obj) (td : Addr) (ot2 : Obj) (SN2 : List (Addr × Obj)) (T : List Int) (l : Int) (cs : List (List Int)) (m3 : Str → Option Value) (i : Nat) (m : Str → Option Value) (nx : List (Addr × Obj)) : Prop
  | mk (ex : List (Addr × Obj)) (o2' o3' : Obj) (v2 v3 : Option Value) (as' : List Addr) (vl : List Value) (Dd Dl : Addr) (nd' nl : Nat) (hnx : nx = (L' + 1 + 1 + 1, o3') :: (L' + 1 + 1, o2') :: (L' + 1, o1) :: (adx, dxo) :: (td, ot2) :: ex)
      (e2 : o2'.data = Data.cell v2) (e3 : o3'.data = Data.cell v3) (hex : ∀ r ∈ SN2, r ∈ ex) (j1 : ∀ r ∈ ex, r.1 ≠ L' + 1 + 1 + 1) (j2 : ∀ r ∈ ex, r.1 ≠ L' + 1 + 1) (j3 : ∀ r ∈ ex, r.1 ≠ L' + 1) (jd : ∀ r ∈ ex, r.1 ≠ adx) (jt : ∀ r ∈ ex, r.1 ≠ td)
      (hd : (Dd, W.listOf (List.map Value.ref as').toArray nd') ∈ ex) (hp : PairsIn g ex as' (dueL T l (cs.take i))) (hl : (Dl, W.listOf (List.toArray vl) nl) ∈ ex) (hi : IntsAre vl (lostL T l (cs.take i)))
      (md : m (Str.ofString "due") = some (.ref Dd)) (ml : m (Str.ofString "lost") = some (.ref Dl)) (hm : ∀ y, [Str.ofString "due", Str.ofString "lost", Str.ofString "clause"].contains y = false → m y = m3 y) : TakJ g L' o1 adx dxo td ot2 SN2 T l cs m3 i m nx

theorem TakJ.next {g h' : Heap} {L' : Nat} {o1 : Obj} {adx : Addr} {dxo : Obj} {td : Addr} {ot2 : Obj} {SN2 : List (Addr × Obj)} {T : List Int} {l : Int} {cs : List (List Int)} {m3 m' : Str → Option Value} {i : Nat} {e it : Addr} {oe oi : Obj} {ex ex' : List (Addr × Obj)} {o2 o3 o2' o3' : Obj} {v2 v3 : Option Value} {as' : List Addr} {vl : List Value} {Dd Dl : Addr} {nd' nl : Nat}
    (hnI : ∀ p ∈ (L' + 1 + 1 + 1, o3) :: (L' + 1 + 1, o2) :: (L' + 1, o1) :: (adx, dxo) :: (td, ot2) :: ex, p.1 ≠ e ∧ p.1 ≠ it)
    (hex : ∀ r ∈ SN2, r ∈ ex) (jx1 : ∀ r ∈ ex, r.1 ≠ L' + 1 + 1 + 1) (jx2 : ∀ r ∈ ex, r.1 ≠ L' + 1 + 1) (jx3 : ∀ r ∈ ex, r.1 ≠ L' + 1) (jxd : ∀ r ∈ ex, r.1 ≠ adx) (jxt : ∀ r ∈ ex, r.1 ≠ td)
    (N : News g L' h' ((e, oe) :: (it, oi) :: (L' + 1 + 1 + 1, o3') :: (L' + 1 + 1, o2') :: (L' + 1, o1) :: (adx, dxo) :: (td, ot2) :: ex')) (e2 : o2'.data = Data.cell v2) (e3 : o3'.data = Data.cell v3)
    (hsub : ∀ r ∈ ex, r ∈ ex') (hnew : ∀ r ∈ ex', r ∈ ex ∨ ∀ b ∈ ([e, it, L' + 1 + 1 + 1, L' + 1 + 1, L' + 1, adx, td] : List Nat), @LT.lt Nat _ b r.1)
    (hd : (Dd, W.listOf (List.map Value.ref as').toArray nd') ∈ ex') (hp : PairsIn g ex' as' (dueL T l (cs.take (i + 1)))) (hl : (Dl, W.listOf (List.toArray vl) nl) ∈ ex') (hi : IntsAre vl (lostL T l (cs.take (i + 1))))
    (md : m' (Str.ofString "due") = some (.ref Dd)) (mlo : m' (Str.ofString "lost") = some (.ref Dl)) (hmm : ∀ y, [Str.ofString "due", Str.ofString "lost", Str.ofString "clause"].contains y = false → m' y = m3 y) :
    ∃ nx, News g L' h' ((e, oe) :: (it, oi) :: nx) ∧ (∀ p ∈ nx, p.1 ≠ e ∧ p.1 ≠ it) ∧ TakJ g L' o1 adx dxo td ot2 SN2 T l cs m3 (i + 1) m' nx := by
  refine ⟨_, N, ?_, ex', o2', o3', v2, v3, as', vl, Dd, Dl, nd', nl, rfl, e2, e3, fun r hr => hsub r (hex r hr), ?_, ?_, ?_, ?_, ?_, hd, hp, hl, hi, md, mlo, hmm⟩
  · have hx : ∀ p ∈ ex', p.1 ≠ e ∧ p.1 ≠ it := fun p hp => by
      rcases hnew p hp with h | h
      · exact hnI p (.tail _ (.tail _ (.tail _ (.tail _ (.tail _ h)))))
      · exact ⟨Nat.ne_of_gt (h e (by walk_at "sim")), Nat.ne_of_gt (h it (by walk_at "sim"))⟩
    exact List.forall_mem_cons.mpr ⟨hnI (L' + 1 + 1 + 1, o3) (.head _), List.forall_mem_cons.mpr ⟨hnI (L' + 1 + 1, o2) (by walk_at "sim"), List.forall_mem_cons.mpr ⟨hnI (L' + 1, o1) (by walk_at "sim"), List.forall_mem_cons.mpr ⟨hnI (adx, dxo) (by walk_at "sim"), List.forall_mem_cons.mpr ⟨hnI (td, ot2) (by walk_at "sim"), hx⟩⟩⟩⟩⟩
  · exact fun r hr => (hnew r hr).elim (jx1 r) fun h => Nat.ne_of_gt (h _ (by walk_at "sim"))
  · exact fun r hr => (hnew r hr).elim (jx2 r) fun h => Nat.ne_of_gt (h _ (by walk_at "sim"))
  · exact fun r hr => (hnew r hr).elim (jx3 r) fun h => Nat.ne_of_gt (h _ (by walk_at "sim"))
  · exact fun r hr => (hnew r hr).elim (jxd r) fun h => Nat.ne_of_gt (h _ (by walk_at "sim"))
  · exact fun r hr => (hnew r hr).elim (jxt r) fun h => Nat.ne_of_gt (h _ (by walk_at "sim"))

section
variable {w : World} {mg mb : Str → Option Value} {n : Nat} {A : Around} {h₀ : Heap} {L : Addr} {m : Str → Option Value} {s : Shared} {E : Value → Shared → Prop} {Q : Value → Shared → Prop}

theorem is_taken_spec {a : StA} {ps : List Addr} {cs : List (List Int)} {kvs : List (Int × Value)} {ck : Int × Int} {l cause : Int} {tl tc : Tok} {ca td q : Addr} {ot : Obj} {qs : List (Int × Int)} (C : Cx w mg mb (n + 3) A h₀ L) (F : Fr h₀ L s.heap m)
    (S : StepsAt w s.heap a ps cs kvs ck) (O : StOk a ps) (hcs : ClausesAt s.heap ca cs) (hqs : PairsAt s.heap q qs) (hot : s.heap.get? td = some ot) (hto : ot.IsDictOf (intKind PP w) kvs) (lot : (td == sysModules) = false)
    (hq : (q : Nat) ∉ (([a.x, a.dx, a.cl, a.pl, a.he, a.op, a.be, a.ta, a.tr] : List Nat) ++ ps)) (htd : (td : Nat) ∉ (([a.x, a.dx, a.cl, a.pl, a.he, a.op, a.be, a.ta, a.tr] : List Nat) ++ ps)) (hqt : @Ne Nat q td) (hca : ca ∉ [a.dx, a.he, a.op, a.ta, a.tr, q, td])
    (hmut : ∀ b ∈ [a.dx, a.he, a.op, a.ta, a.tr, q, td], h₀.get? b = none ∧ b ≠ L) (hl1 : l ∉ keysOf kvs) (hl2 : -l ∉ keysOf kvs) (hl0 : l ≠ 0) (hcok : ∀ c ∈ cs, ClauseOk c)
    (hlc : cs.length ≤ 50) (hlk : kvs.length ≤ 50) (hlq : qs.length ≤ 1000)
    (hQ : ∀ ot' h' tk, StepsAt w h' a ps cs (kvs ++ [(l, .int cause tc)]) (clashOf (keysOf kvs ++ [l]) cs l ck (idxOf cs (-l))) → PairsAt h' q (qs ++ (idxOf cs (-l)).flatMap (dueAt (keysOf kvs ++ [l]) cs)) → h'.get? td = some ot' → ot'.IsDictOf (intKind PP w) (kvs ++ [(l, .int cause tc)]) →
      Kp [a.dx, a.he, a.op, a.ta, a.tr, q, td] s.heap h' → Fr h₀ L h' m → Q (.bool true) { s with heap := h', toks := tk }) :
    wpAny (model PP w) A (call (.ref 107) [.ref a.x, .ref ca, .ref td, .int l tl, .int cause tc, .ref q]) Q E s := by
  refine' callRC (binds := [(Str.ofString "steps", .ref a.x), (Str.ofString "clauses", .ref ca), (Str.ofString "taken", .ref td), (Str.ofString "literal", .int l tl), (Str.ofString "cause", .int cause tc), (Str.ofString "queue", .ref q)])
    (R := fun v h' => v = .bool true ∧ StepsAt w h' a ps cs (kvs ++ [(l, .int cause tc)]) (clashOf (keysOf kvs ++ [l]) cs l ck (idxOf cs (-l))) ∧ PairsAt h' q (qs ++ (idxOf cs (-l)).flatMap (dueAt (keysOf kvs ++ [l]) cs)) ∧ ∃ ot', h'.get? td = some ot' ∧ ot'.IsDictOf (intKind PP w) (kvs ++ [(l, .int cause tc)])) [a.dx, a.he, a.op, a.ta, a.tr, q, td] C F hmut ?ho ?hcd ?hb ?hl ?hnd ?h ?hQ ?c1 ?c2 ?c3
  case ho => exact rfl
  case hcd => exact rfl
  case hb => exact BindsTo.of_eq rfl
  case hl => exact rfl
  case hnd => decide +kernel
  case c1 => rfl
  case c2 => rfl
  case c3 => rfl
  case hQ =>
    intro v h' tk hjo3 hk' F'
    walk_at "hideG"
    (refine Mine.exA3 hjo3 ?_; (try clear hjo3); intro hsb163 h1 h2 hrun164; refine Mine.exE1 hrun164 ?_; clear hrun164; intro ot' hrun165; refine Mine.exA1 hrun165 ?_; clear hrun165; intro h3 h4; subst hsb163)
    walk_at "showG"
    exact hQ _ _ _ h1 h2 h3 h4 hk' F'
  case h =>
    intro g L' h₁ tk cells hg hL' C' F' Nc Y hk₁ hcl
    walk_at "hideG"
    (refine Mine.exE3A3 (cells3 (c3 := L' + 1) (c2 := L' + 1 + 1) (c1 := L' + 1 + 1 + 1) Y) ?_; intro o3 o2 o1 hsb166 d3 d2 d1; subst hsb166)
    have X := C'.G.X
    have T := C'.G.T
    have hh := C'.hh
    have S1 : StepsAt w h₁ a ps cs kvs ck := S.kp (ch := []) (fun b o _ e => hk₁ b o e) (fun b hb => nomatch hb) (fun b _ hb => nomatch hb)
    (refine Mine.exE2A1 (id S.dx) ?_; intro tte kc hnst167 hck; obtain ⟨hs, ts, nd, hdx⟩ := hnst167)
    have hlv : ∀ b ∈ [a.dx, a.he, a.op, a.ta, a.tr, q, td], ∃ o, s.heap.get? b = some o := fac (S.live _ (by walk_at "mem")) (fac (S.live _ (by walk_at "mem")) (fac (S.live _ (by walk_at "mem")) (fac (S.live _ (by walk_at "mem")) (fac (S.live _ (by walk_at "mem")) (fac (hqs.elim fun _ q => q.elim fun _ q => ⟨_, q.1⟩) (fac ⟨_, hot⟩ fa0))))))
    have gdn := gdnOf hg hL' hk₁ hlv
    obtain ⟨n01, n02, n03, n04, n05, n06, n07, n08, n09, n12, n13, n14, n15, n16, n17, n18, n19, n23, n24, n25, n26, n27, n28, n29, n34, n35, n36, n37, n38, n39, n45, n46, n47, n48, n49, n56, n57, n58, n59, n67, n68, n69, n78, n79, n89, n99⟩ := O.ne
    have hq0 := nmo hq
    have htd0 := nmo htd
    have gk := gkOf hg
    have gx := gk _ _ (Mine.nmc n01 (Mine.nmc n04 (Mine.nmc n05 (Mine.nmc n07 (Mine.nmc n08 (Mine.nmc (fun e => hq0.1 e.symm) (Mine.nmc (fun e => htd0.1 e.symm) Mine.nm0))))))) S.x
    (refine Mine.exE2A2 (id hcs) ?_; intro as na hcl0 hal haf)
    have gca := gk _ _ hca hcl0
    have hL1 : @LT.lt Nat _ L' h₁.objs.size := F'.ns.lt
    have hcl3 : ∀ b ∈ [L' + 1 + 1 + 1, L' + 1 + 1, L' + 1], @LT.lt Nat _ L' b := fun b hb => by
      exact (fac (Nat.lt_of_lt_of_le (Nat.lt_succ_self L') (Nat.le_add_right _ 2)) (fac (Nat.lt_of_lt_of_le (Nat.lt_succ_self L') (Nat.le_add_right _ 1)) (fac (Nat.lt_succ_self L') fa0)) : ∀ b ∈ [L' + 1 + 1 + 1, L' + 1 + 1, L' + 1], @LT.lt Nat _ L' b) b hb
    have hold : ∀ b o, s.heap.get? b = some o → @LT.lt Nat _ b L' := fun b o e => by rw [hL']; exact Heap.lt_size e
    have hdx1 := hk₁ _ _ hdx
    have ne1 : @Ne Nat a.dx (L' + 1 + 1 + 1) := Nat.ne_of_lt (Nat.lt_trans (hold _ _ hdx) (hcl3 _ (by walk_at "sim")))
    have ne2 : @Ne Nat a.dx (L' + 1 + 1) := Nat.ne_of_lt (Nat.lt_trans (hold _ _ hdx) (hcl3 _ (by walk_at "sim")))
    have ne3 : @Ne Nat a.dx (L' + 1) := Nat.ne_of_lt (Nat.lt_trans (hold _ _ hdx) (hcl3 _ (by walk_at "sim")))
    have N : News g L' h₁ ((L' + 1 + 1 + 1, o3) :: (L' + 1 + 1, o2) :: (L' + 1, o1) :: (a.dx, dictOf (stEs hs ts a (.int (emptyOf cs) tte) (.ref kc)) nd) :: snap g L' h₁ [a.dx, L' + 1 + 1 + 1, L' + 1 + 1, L' + 1]) :=
      List.forall_mem_cons.mpr ⟨Nc _ (.head _), List.forall_mem_cons.mpr ⟨Nc _ (.tail _ (.head _)), List.forall_mem_cons.mpr ⟨Nc _ (.tail _ (.tail _ (.head _))), List.forall_mem_cons.mpr ⟨⟨hdx1, (gdn _ (by walk_at "sim")).2, (gdn _ (by walk_at "sim")).1⟩, snap_news⟩⟩⟩⟩
    have hxd : ∀ r ∈ snap g L' h₁ [a.dx, L' + 1 + 1 + 1, L' + 1 + 1, L' + 1], r.1 ≠ a.dx := snap_off (by walk_at "sim")
    have hx1 : ∀ r ∈ snap g L' h₁ [a.dx, L' + 1 + 1 + 1, L' + 1 + 1, L' + 1], r.1 ≠ L' + 1 + 1 + 1 := snap_off (by walk_at "sim")
    have hx2 : ∀ r ∈ snap g L' h₁ [a.dx, L' + 1 + 1 + 1, L' + 1 + 1, L' + 1], r.1 ≠ L' + 1 + 1 := snap_off (by walk_at "sim")
    have hx3 : ∀ r ∈ snap g L' h₁ [a.dx, L' + 1 + 1 + 1, L' + 1 + 1, L' + 1], r.1 ≠ L' + 1 := snap_off (by walk_at "sim")
    (refine Mine.exE2A2 (id hqs) ?_; intro aq nq hqo lq fq)
    walk_at "showG"
    have hqm : (q, W.listOf (aq.map Value.ref).toArray nq) ∈ snap g L' h₁ [a.dx, L' + 1 + 1 + 1, L' + 1 + 1, L' + 1] := mem_snap.mpr ⟨hk₁ _ _ hqo, (gdn _ (by walk_at "sim")).1, (gdn _ (by walk_at "sim")).2, by
      have := hold _ _ hqo
      exact nmc hq0.2.1 (nmc (Nat.ne_of_lt (Nat.lt_trans this (hcl3 _ (by walk_at "sim")))) (nmc (Nat.ne_of_lt (Nat.lt_trans this (hcl3 _ (by walk_at "sim")))) (nmc (Nat.ne_of_lt (Nat.lt_trans this (hcl3 _ (by walk_at "sim")))) nm0)))⟩
    have hkeep : ∀ h m, Fr g L' h m → News g L' h (snap g L' h₁ [a.dx, L' + 1 + 1 + 1, L' + 1 + 1, L' + 1]) → Kp [L', a.dx, L' + 1 + 1 + 1, L' + 1 + 1, L' + 1] h₁ h := fun h m Fh Nh => snap_keep F'.keep Fh Nh
    have zq : (aq.map Value.ref).length ≤ 100000 := by rw [List.length_map, lq]; omega
    generalize hSN : snap g L' h₁ [a.dx, L' + 1 + 1 + 1, L' + 1 + 1, L' + 1] = SN at N hxd hx1 hx2 hx3 hqm hkeep
    have hnt0 : NoTup s.heap [a.dx, a.he, a.op, a.ta, a.tr, q, td] := by
      have H := S.noTup
      exact fac (H _ (by walk_at "mem")) (fac (H _ (by walk_at "mem")) (fac (H _ (by walk_at "mem")) (fac (H _ (by walk_at "mem")) (fac (H _ (by walk_at "mem")) ((NoTup.nil.isd hot hto).lst hqo)))))
    have gck : PairAt g kc ck := by (refine Mine.exE3 hck ?_; (try clear hck); intro t u n e); exact (Mine.mkE3 t u n (gk _ _ (hnt0.off e) e))
    have gaf : ∀ (i : Nat) x c, as[i]? = some x → cs[i]? = some c → TupInts g x c := fun i x c h1 h2 => by
      (refine Mine.exE2A1 (haf i x c h1 h2) ?_; intro vs n e hi)
      exact (Mine.mkE2A1 vs n (gk _ _ (hnt0.off e) e) hi)
    have hc3 := (Nc _ (.head _)).1
    have hc2 := (Nc _ (.tail _ (.head _))).1
    have hc1 := (Nc _ (.tail _ (.tail _ (.head _)))).1
    clear Nc
    have gdn6 : ∀ b ∈ [a.dx, a.he, a.op, a.ta, a.tr, q], g.get? b = none ∧ b ≠ L' := fun b hb => gdn b ((by walk_at "sub" : ∀ p ∈ _, p ∈ _) _ hb)
    have hoffL : ∀ b, (∃ o, s.heap.get? b = some o) → b ∉ [L', L' + 1 + 1 + 1, L' + 1 + 1, L' + 1] := fun b ⟨o, ho⟩ => by
      have h1 := hold _ _ ho
      exact nmc (Nat.ne_of_lt h1) (nmc (Nat.ne_of_lt (Nat.lt_trans h1 (hcl3 _ (by walk_at "sim")))) (nmc (Nat.ne_of_lt (Nat.lt_trans h1 (hcl3 _ (by walk_at "sim")))) (nmc (Nat.ne_of_lt (Nat.lt_trans h1 (hcl3 _ (by walk_at "sim")))) nm0)))
    have hoffd : ∀ b ∈ (([a.x, a.cl, a.pl, a.he, a.op, a.be, a.ta, a.tr] : List Nat) ++ ps), b ∉ [L', a.dx, L' + 1 + 1 + 1, L' + 1 + 1, L' + 1] := fun b hb => by
      have h1 := nmo (hoffL b (S.live b (sub8 hb)))
      exact nmc h1.1 (nmc (O.offdx b hb) (nmc h1.2.1 (nmc h1.2.2.1 (nmc h1.2.2.2.1 nm0))))
    have hnt1 : NoTup h₁ [L', a.dx, L' + 1 + 1 + 1, L' + 1 + 1, L' + 1] := ((((NoTup.nil.cel hc1 d1).cel hc2 d2).cel hc3 d3).dct hdx1).ns F'
    (repeat' (walk_at "go"))
    rename News _ _ _ _ => N1
    rename Fr _ _ _ _ => F1
    rename_i Db cb hb1 lb2 lb1 Dt hb2 lb3 hb3 hb4 hb5
    have hk1 := hkeep _ _ F1 (fun r hr => N1 r (.tail _ (.tail _ (.tail _ (.tail _ (.tail _ (.tail _ hr)))))))
    refine' take_spec (a := a) (ps := ps) (cs := cs) (kvs := kvs) (ck := ck) (q := q) (qs := qs) C' ?tF ?tS O ?tq hq gdn6 hl1 hl2 hl0 hcok ?tl ?tl2 ?tl3 ?tl4 ?_
    case tF => exact F1
    case tS => exact S1.kpd hk1 hnt1 hoffd (Mine.mkE3 hs ts nd ((N1 _ (.tail _ (.tail _ (.tail _ (.tail _ (.tail _ (.head _))))))).1)) ((hck.keeps hk₁).kp hk1 (by (refine Mine.exE3 (hck.keeps hk₁) ?_; intro t u n e); exact hnt1.off e))
    case tq => exact (hqs.keeps hk₁).kp hk1 (by
      have h1 := nmo (hoffL q ⟨_, hqo⟩)
      exact nmc h1.1 (nmc hq0.2.1 (nmc h1.2.1 (nmc h1.2.2.1 (nmc h1.2.2.2.1 nm0))))) hnt1
    case tl => omega
    case tl2 => exact fun c hc => by have := clause_len (hcok c hc); omega
    case tl3 => omega
    case tl4 => omega
    intro h2 tk2 S2 P2 hk2 F2
    have d1' : o1.data = Data.cell (some (.ref td)) := d1
    have d2' : o2.data = Data.cell none := d2
    have d3' : o3.data = Data.cell none := d3
    have hlow : ∀ b ∈ [a.dx, a.he, a.op, a.ta, a.tr, q], @LT.lt Nat _ b L' := fun b hb => (hlv b ((by walk_at "sub" : ∀ p ∈ _, p ∈ _) _ hb)).elim fun o ho => hold _ _ ho
    have hhigh : ∀ b : Nat, L' < b → b ∉ [a.dx, a.he, a.op, a.ta, a.tr, q] := fun b h1 hb => Nat.lt_irrefl _ (Nat.lt_trans h1 (hlow b hb))
    have hDb : @LT.lt Nat _ L' Db := Nat.lt_of_lt_of_le hL1 lb2
    have tdl := hold _ _ hot
    have htd6 : td ∉ [a.dx, a.he, a.op, a.ta, a.tr, q] := by
      exact nmc htd0.2.1 (nmc htd0.2.2.2.2.1 (nmc htd0.2.2.2.2.2.1 (nmc htd0.2.2.2.2.2.2.2.1 (nmc htd0.2.2.2.2.2.2.2.2.1 (nmc (fun e => hqt e.symm) nm0)))))
    have hot2 : h2.get? td = some ot := hk2 _ _ htd6 (hk1 _ _ (by
      have h1 := nmo (hoffL td ⟨_, hot⟩)
      exact nmc h1.1 (nmc htd0.2.1 (nmc h1.2.1 (nmc h1.2.2.1 (nmc h1.2.2.2.1 nm0))))) (hk₁ _ _ hot))
    have hc3' := hk2 _ _ (hhigh _ (hcl3 _ (by walk_at "sim"))) (N1 _ (.tail _ (.tail _ (.head _)))).1
    have hc2' := hk2 _ _ (hhigh _ (hcl3 _ (by walk_at "sim"))) (N1 _ (.tail _ (.tail _ (.tail _ (.head _))))).1
    have hc1' := hk2 _ _ (hhigh _ (hcl3 _ (by walk_at "sim"))) (N1 _ (.tail _ (.tail _ (.tail _ (.tail _ (.head _)))))).1
    have hb2' := hk2 _ _ (hhigh _ hDb) (N1 _ (.tail _ (.head _))).1
    have gb := N1 _ (.tail _ (.head _))
    have g3 := N1 _ (.tail _ (.tail _ (.head _)))
    have g2 := N1 _ (.tail _ (.tail _ (.tail _ (.head _))))
    have g1 := N1 _ (.tail _ (.tail _ (.tail _ (.tail _ (.head _)))))
    have lb1c := lb1
    clear N1 F1
    walk_at "hideG"
    (refine Mine.exE2A1 (id S2.dx) ?_; intro tte2 kc2 hnst168 hck2; obtain ⟨hs2, ts2, nd2, hdx2⟩ := hnst168)
    (refine Mine.exE2A2 (id P2) ?_; intro aq2 nq2 hqo2 lq2 fq2)
    walk_at "showG"
    have net1 : @Ne Nat td (L' + 1 + 1 + 1) := Nat.ne_of_lt (Nat.lt_trans tdl (hcl3 _ (by walk_at "sim")))
    have net2 : @Ne Nat td (L' + 1 + 1) := Nat.ne_of_lt (Nat.lt_trans tdl (hcl3 _ (by walk_at "sim")))
    have net3 : @Ne Nat td (L' + 1) := Nat.ne_of_lt (Nat.lt_trans tdl (hcl3 _ (by walk_at "sim")))
    have netd : @Ne Nat td a.dx := htd0.2.1
    have N2 : News g L' h2 ((L' + 1 + 1 + 1, o3) :: (L' + 1 + 1, o2) :: (L' + 1, o1) :: (a.dx, dictOf (stEs hs2 ts2 a (.int (emptyOf cs) tte2) (.ref kc2)) nd2) :: (td, ot) :: snap g L' h2 [a.dx, td, L' + 1 + 1 + 1, L' + 1 + 1, L' + 1]) :=
      List.forall_mem_cons.mpr ⟨⟨hc3', g3.2⟩, List.forall_mem_cons.mpr ⟨⟨hc2', g2.2⟩, List.forall_mem_cons.mpr ⟨⟨hc1', g1.2⟩, List.forall_mem_cons.mpr ⟨⟨hdx2, (gdn _ (by walk_at "sim")).2, (gdn _ (by walk_at "sim")).1⟩, List.forall_mem_cons.mpr ⟨⟨hot2, (gdn _ (by walk_at "sim")).2, (gdn _ (by walk_at "sim")).1⟩, snap_news⟩⟩⟩⟩⟩
    have ixd : ∀ r ∈ snap g L' h2 [a.dx, td, L' + 1 + 1 + 1, L' + 1 + 1, L' + 1], r.1 ≠ a.dx := snap_off (by walk_at "sim")
    have ixt : ∀ r ∈ snap g L' h2 [a.dx, td, L' + 1 + 1 + 1, L' + 1 + 1, L' + 1], r.1 ≠ td := snap_off (by walk_at "sim")
    have ix1 : ∀ r ∈ snap g L' h2 [a.dx, td, L' + 1 + 1 + 1, L' + 1 + 1, L' + 1], r.1 ≠ L' + 1 + 1 + 1 := snap_off (by walk_at "sim")
    have ix2 : ∀ r ∈ snap g L' h2 [a.dx, td, L' + 1 + 1 + 1, L' + 1 + 1, L' + 1], r.1 ≠ L' + 1 + 1 := snap_off (by walk_at "sim")
    have ix3 : ∀ r ∈ snap g L' h2 [a.dx, td, L' + 1 + 1 + 1, L' + 1 + 1, L' + 1], r.1 ≠ L' + 1 := snap_off (by walk_at "sim")
    have iqm : (q, W.listOf (aq2.map Value.ref).toArray nq2) ∈ snap g L' h2 [a.dx, td, L' + 1 + 1 + 1, L' + 1 + 1, L' + 1] := mem_snap.mpr ⟨hqo2, (gdn _ (by walk_at "sim")).1, (gdn _ (by walk_at "sim")).2, by
      have h1 := nmo (hoffL q ⟨_, hqo⟩)
      exact nmc hq0.2.1 (nmc hqt (nmc h1.2.1 (nmc h1.2.2.1 (nmc h1.2.2.2.1 nm0))))⟩
    have ibm : (Db, W.listOf (aq.map Value.ref).toArray cb) ∈ snap g L' h2 [a.dx, td, L' + 1 + 1 + 1, L' + 1 + 1, L' + 1] := mem_snap.mpr ⟨hb2', gb.2.2, gb.2.1, by
      exact nmc (nmo (hhigh _ hDb)).1 (nmc (Nat.ne_of_gt (Nat.lt_trans tdl hDb)) (nmc (Nat.ne_of_gt lb1c.1) (nmc (Nat.ne_of_gt lb1c.2.1) (nmc (Nat.ne_of_gt lb1c.2.2.1) nm0))))⟩
    have hkeep2 : ∀ h m, Fr g L' h m → News g L' h (snap g L' h2 [a.dx, td, L' + 1 + 1 + 1, L' + 1 + 1, L' + 1]) → Kp [L', a.dx, td, L' + 1 + 1 + 1, L' + 1 + 1, L' + 1] h2 h := fun h m Fh Nh => snap_keep F2.keep Fh Nh
    generalize hSN2 : snap g L' h2 [a.dx, td, L' + 1 + 1 + 1, L' + 1 + 1, L' + 1] = SN2 at N2 ixd ixt ix1 ix2 ix3 iqm ibm hkeep2
    have hsz : kvs.length ≤ sizeLine := by rw [sizeLine_eq]; omega
    have hnt2 : NoTup h2 [L', a.dx, td, L' + 1 + 1 + 1, L' + 1 + 1, L' + 1] := (((((NoTup.nil.cel hc1' d1).cel hc2' d2).cel hc3' d3).isd hot2 hto).dct hdx2).ns F2
    (repeat' (walk_at "go"))
    rename News _ _ _ _ => N3
    rename Fr _ _ _ _ => F3
    rename Obj.IsDictOf _ _ (stored _ _ _) => hto3
    have hst : stored kvs l (.int cause tc) = kvs ++ [(l, .int cause tc)] := by
      unfold stored
      rw [if_neg (by
        intro h
        (refine Mine.exE1A1 (List.any_eq_true.mp h) ?_; intro r hr e)
        exact hl1 (List.mem_map.mpr (Mine.mkE1A1 r hr (of_decide_eq_true e))))]
    rw [hst] at hto3
    have hT : keysOf (kvs ++ [(l, .int cause tc)]) = keysOf kvs ++ [l] := List.map_append
    rw [← hT] at F3 P2 kU1
    rw [← hT] at S2
    clear hst
    have hkv2 : (kvs ++ [(l, Value.int cause tc)]).length ≤ 51 := by simp; omega
    generalize kvs ++ [(l, Value.int cause tc)] = kv2 at *
    rename_i Dd hy1 ly1 Dl hy2 ly2 Dt2 hy3 ly3 hy4 hy5 hy6
    rename Obj => ot2
    (refine Mine.exE1A1 (Fr.gen F3) ?_; intro m3 hm3 F4)
    have ms : m3 (Str.ofString "steps") = some (.ref a.x) := by rw [hm3]; rfl
    have mc : m3 (Str.ofString "clauses") = some (.ref ca) := by rw [hm3]; rfl
    have ml : m3 (Str.ofString "literal") = some (.int l tl) := by rw [hm3]; rfl
    have mq : m3 (Str.ofString "queue") = some (.ref q) := by rw [hm3]; rfl
    have mb : m3 (Str.ofString "before") = some (.ref Db) := by rw [hm3]; rfl
    have mk : m3 (Str.ofString "clash") = some (.ref kc) := by rw [hm3]; rfl
    have mst : m3 (Str.ofString "stands") = some (.bool (decide (lostL (keysOf kv2) l cs = []))) := by rw [hm3, ← stands_eq]; rfl
    have md : m3 (Str.ofString "due") = some (.ref Dd) := by rw [hm3]; rfl
    have mlo : m3 (Str.ofString "lost") = some (.ref Dl) := by rw [hm3]; rfl
    clear F3 hm3
    have N4 : News g L' hy6 ((L' + 1 + 1 + 1, o3) :: (L' + 1 + 1, o2) :: (L' + 1, o1) :: (a.dx, dictOf (stEs hs2 ts2 a (.int (emptyOf cs) tte2) (.ref kc2)) nd2) :: (td, ot2) :: (Dl, W.listOf #[] 0) :: (Dd, W.listOf #[] 0) :: SN2) := fun p hp => N3 p (by
      exact (by walk_at "sub" : ∀ p ∈ _, p ∈ _) _ hp)
    clear N3
    refine' for_enum hh gca F4 N4 (TakJ g L' o1 a.dx (dictOf (stEs hs2 ts2 a (.int (emptyOf cs) tte2) (.ref kc2)) nd2) td ot2 SN2 (keysOf kv2) l cs m3) ?j0 ?turn ?done
    case j0 =>
      refine ⟨(Dl, W.listOf #[] 0) :: (Dd, W.listOf #[] 0) :: SN2, o2, o3, none, none, [], [], Dd, Dl, 0, 0, rfl, d2', d3', fun r hr => .tail _ (.tail _ hr), ?_, ?_, ?_, ?_, ?_, .tail _ (.head _), ⟨rfl, fun i x q h => nomatch h⟩, .head _, .nil, md, mlo, fun _ _ => rfl⟩
      · exact List.forall_mem_cons.mpr ⟨Nat.ne_of_gt ly2.2.1, List.forall_mem_cons.mpr ⟨Nat.ne_of_gt ly1.1, ix1⟩⟩
      · exact List.forall_mem_cons.mpr ⟨Nat.ne_of_gt ly2.2.2.1, List.forall_mem_cons.mpr ⟨Nat.ne_of_gt ly1.2.1, ix2⟩⟩
      · exact List.forall_mem_cons.mpr ⟨Nat.ne_of_gt ly2.2.2.2.1, List.forall_mem_cons.mpr ⟨Nat.ne_of_gt ly1.2.2.1, ix3⟩⟩
      · exact List.forall_mem_cons.mpr ⟨Nat.ne_of_gt ly2.2.2.2.2.1, List.forall_mem_cons.mpr ⟨Nat.ne_of_gt ly1.2.2.2.1, ixd⟩⟩
      · exact List.forall_mem_cons.mpr ⟨Nat.ne_of_gt ly2.2.2.2.2.2.1, List.forall_mem_cons.mpr ⟨Nat.ne_of_gt ly1.2.2.2.2.1, ixt⟩⟩
    case turn =>
      clear F4 N4
      intro i v ti m₁ nx h tk' e it oe oi hv hjo12 hnI F5 N5
      walk_at "hideG"
      obtain ⟨ex, o2', o3', v2, v3, as', vl, Dd', Dl', nd', nl, rfl, e2, e3, hex, jx1, jx2, jx3, jxd, jxt, hdm, hps, hlm, hli, md', mlo', hmm⟩ := hjo12
      walk_at "showG"
      walk_at "hide"
      rw [ovr_eq hmm] at F5
      walk_at "hideG"
      (refine Mine.exE2 (clauseItem hal gaf hv) ?_; intro x c hrun170; refine Mine.exA3 hrun170 ?_; clear hrun170; intro hsb169 hci hcm hrun171; refine Mine.exE2 hrun171 ?_; clear hrun171; intro vc nc hrun172; refine Mine.exA1 hrun172 ?_; clear hrun172; intro hxc hic; subst hsb169)
      walk_at "showG"
      have i1e : @Ne Nat (L' + 1 + 1 + 1) e := (hnI _ (.head _)).1
      have i1t : @Ne Nat (L' + 1 + 1 + 1) it := (hnI _ (.head _)).2
      have i2e : @Ne Nat (L' + 1 + 1) e := (hnI _ (.tail _ (.head _))).1
      have i2t : @Ne Nat (L' + 1 + 1) it := (hnI _ (.tail _ (.head _))).2
      refine wpAny_bind (wpAny_holding (wpAny_assign_Name ?_))
      (repeat' (walk_at "go"))
      refine wpAny_bind (wpAny_holding (wpAny_assign_Name ?_))
      (repeat' (walk_at "go"))
      refine wpAny_pure ?_
      (repeat' (walk_at "go"))
      refine' wpAny_Assign_Name ?_ ?f0
      case f0 => rfl
      refine' comp_ (cl := [(Str.ofString "taken", L' + 1)]) ?f1 ?f2 ?f3 ?_ ?f4
      case f1 => rfl
      case f2 => rfl
      case f3 => decide
      case f4 => intro _; rfl
      (repeat' (walk_at "go"))
      refine' comp_filter (T := "tuple") (.inr rfl) (Fr.keep (by k_asm) _ _ hxc) rfl rfl hic (fun y => !decide ((0 - y) ∈ keysOf kv2)) hh ?g1 ?g2 ?g3 ?F2 ?N2 ?g6 (.inl ⟨_, hxc⟩) ?tests2 ?fin2 ?g4 ?g5
      case g1 => decide
      case g2 => rfl
      case g3 => rfl
      case F2 => k_asm
      case N2 => k_asm
      case g4 => intro _; rfl
      case g5 => decide
      case g6 => have := clause_len (hcok c hcm); omega
      case tests2 =>
        intro I2 D2 C2 oI2 oD2 oC2 v t s4 m4 hv F4 N4 hn4 hx4
        refine ctests_one ?_
        (repeat' (walk_at "go"))
        exact (Mine.mkA1E1 rfl _ rfl)
      case fin2 =>
        intro D2 C2 h4 tk4 m4 ys4 nD4 hys4 F4 N4 hlt4 hsD4 hC4
        change IntsAre ys4 (restOf (keysOf kv2) c) at hys4
        have i3D : @Ne Nat (L' + 1 + 1 + 1) D2 := Nat.ne_of_lt (hlt4 _ (.tail _ (.tail _ (.head _))))
        have i2D : @Ne Nat (L' + 1 + 1) D2 := Nat.ne_of_lt (hlt4 _ (.tail _ (.tail _ (.tail _ (.head _)))))
        refine fin_none F4 N4 hC4 (fun h5 F5 N5 => ?_)
        (repeat' (walk_at "go"))
        rename News _ _ _ _ => N6
        rename Fr _ _ _ _ => F6
        rename Obj.data _ = Data.cell (some (Value.ref D2)) => d5
        rename Obj.data _ = Data.cell (some (Value.int _ _)) => d6
        have hb2 : ∀ b ∈ ([e, it, L' + 1 + 1 + 1, L' + 1 + 1, L' + 1, a.dx, td] : List Nat), @LT.lt Nat _ b D2 := by
          exact (Mine.fac (hlt4 _ (.head _)) (Mine.fac (hlt4 _ (.tail _ (.head _))) (Mine.fac (hlt4 _ (.tail _ (.tail _ (.head _)))) (Mine.fac (hlt4 _ (.tail _ (.tail _ (.tail _ (.head _))))) (Mine.fac (hlt4 _ (.tail _ (.tail _ (.tail _ (.tail _ (.head _)))))) (Mine.fac (hlt4 _ (.tail _ (.tail _ (.tail _ (.tail _ (.tail _ (.head _))))))) (Mine.fac (hlt4 _ (.tail _ (.tail _ (.tail _ (.tail _ (.tail _ (.tail _ (.head _)))))))) Mine.fa0)))))))
        have hmiss : hitC (keysOf kv2) l c = false → dueL (keysOf kv2) l (cs.take (i + 1)) = dueL (keysOf kv2) l (cs.take i) ∧ lostL (keysOf kv2) l (cs.take (i + 1)) = lostL (keysOf kv2) l (cs.take i) := fun hm => by
          rw [dueL_take hci, lostL_take hci]
          unfold dueC lostC
          rw [if_neg (by rw [hm]; decide), if_neg (by rw [hm]; decide), List.append_nil, List.append_nil]
          exact ⟨rfl, rfl⟩
        by_cases hlc1 : (0 - l) ∈ c
        · rw [if_pos (decide_eq_true hlc1)]
          (repeat' (walk_at "go"))
          refine' comp_ (cl := [(Str.ofString "taken", L' + 1)]) ?p1 ?p2 ?p3 ?_ ?p4
          case p1 => rfl
          case p2 => rfl
          case p3 => decide
          case p4 => intro _; rfl
          (repeat' (walk_at "go"))
          refine' comp_filter (T := "tuple") (.inr rfl) (Fr.keep (by k_asm) _ _ hxc) rfl rfl hic (fun y => decide (y ∈ keysOf kv2)) hh ?q1 ?q2 ?q3 ?F7 ?N7 ?q6 (.inl ⟨_, hxc⟩) ?tests7 ?fin7 ?q4 ?q5
          case q1 => decide
          case q2 => rfl
          case q3 => rfl
          case F7 => k_asm
          case N7 => k_asm
          case q4 => intro _; rfl
          case q5 => decide
          case q6 => have := clause_len (hcok c hcm); omega
          case tests7 =>
            intro I2 D2 C2 oI2 oD2 oC2 v t s4 m4 hv F4 N4 hn4 hx4
            refine ctests_one ?_
            (repeat' (walk_at "go"))
            exact (Mine.mkA1E1 rfl _ rfl)
          case fin7 =>
            intro D7 C7 h7 tk7 m7 ys7 nD7 hys7 F7 N7 hlt7 hsD7 hC7
            have hb7 : @LT.lt Nat _ D2 D7 := hlt7 _ (.head _)
            refine fin_none F7 N7 hC7 (fun h8 F8 N8 => ?_)
            (repeat' (walk_at "go"))
            rename News _ _ _ _ => N9
            rename Fr _ _ _ _ => F9
            rename _ ∧ _ => l9
            rename_i Dn h9
            by_cases hf : (c.filter fun y => decide (y ∈ keysOf kv2)) = []
            · rw [if_pos (decide_eq_true hf)]
              have hhit : hitC (keysOf kv2) l c = true := by unfold hitC; rw [decide_eq_true hlc1, hf]; rfl
              (repeat' (walk_at "go"))
              rw [if_pos rfl]
              have N10 : News g L' h9 ((D2, W.listOf ys4.toArray nD4) :: _) := fun p hp => N9 p (.tail _ (.tail _ hp))
              clear N9
              have hcl : c.length ≤ 5 := clause_len (hcok c hcm)
              have hrl : (restOf (keysOf kv2) c).length ≤ 5 := Nat.le_trans (List.length_filter_le _ _) hcl
              have htk : (cs.take i).length ≤ 50 := by rw [List.length_take]; have := Nat.min_le_right i cs.length; omega
              have zdd : (List.map Value.ref as').length ≤ 100000 := by rw [List.length_map, hps.1]; have := @dueL_len (keysOf kv2) l (cs.take i); omega
              have zll : vl.length ≤ 100000 := by rw [hli.length]; have := @lostL_len (keysOf kv2) l (cs.take i); omega
              (repeat' (walk_at "go"))
              refine' comp_ (cl := [(Str.ofString "rest", L' + 1 + 1 + 1), (Str.ofString "number", L' + 1 + 1)]) ?r1 ?r2 ?r3 ?_ ?r4
              case r1 => rfl
              case r2 => rfl
              case r3 => decide
              case r4 => intro _; rfl
              (repeat' (walk_at "go"))
              rename News _ _ _ _ => N11
              refine' comp_seq (T := "list") (.inl rfl) (N11 _ (.head _)).1 rfl rfl (fun _ => (restOf (keysOf kv2) c).length == 1) (fun vs ys nx => ∃ ex2 as2 o5' o6', nx = (D2, W.listOf ys4.toArray nD4) :: (e, oe) :: (it, oi) :: (L' + 1 + 1 + 1, o5') :: (L' + 1 + 1, o6') :: (L' + 1, o1) :: (a.dx, dictOf (stEs hs2 ts2 a (.int (emptyOf cs) tte2) (.ref kc2)) nd2) :: (td, ot2) :: ex2 ∧
                o5'.data = Data.cell (some (.ref D2)) ∧ o6'.data = Data.cell (some (.int (i : Int) ti)) ∧
                (∀ r ∈ ex, r ∈ ex2) ∧ (∀ r ∈ ex2, r ∈ ex ∨ ∀ b ∈ ([e, it, L' + 1 + 1 + 1, L' + 1 + 1, L' + 1, a.dx, td] : List Nat), @LT.lt Nat _ b r.1) ∧ ys = List.map Value.ref as2 ∧ PairsIn g ex2 as2 ((((restOf (keysOf kv2) c).take vs.length).filter fun _ => (restOf (keysOf kv2) c).length == 1).map fun x => (x, (i : Int)))) hh ?t1 ?t2 ?t3 ?F ?N ?j ?sz ?wh ?tests ?skip ?elt ?fin
              case t1 => decide
              case t2 => rfl
              case t3 => rfl
              case F => k_asm
              case N => exact N11
              case j => exact (Mine.mkE4 ex ([]) _ _ ⟨rfl, d5, d6, fun _ h => h, fun _ h => .inl h, rfl, rfl, fun i x q h => nomatch h⟩)
              case sz => rw [sizeLine_eq, List.size_toArray, hys4.length]; omega
              case wh => exact .inr (Mine.mkA1E1 ((N11 _ (.head _)).2.1) _ (by rintro vs ys nx ⟨_, _, _, _, rfl, _⟩; exact .head _))
              case tests =>
                intro I3 D3 C3 oI oD oC vs v ys nx s₃ m₃ hv hjo13 F3 N3 hC hx
                walk_at "hideG"
                (refine Mine.exE4A3 hjo13 ?_; (try clear hjo13); intro ex2 as2 o5' o6' hsb173 d5' d6' hJ; subst hsb173)
                walk_at "showG"
                have hn := hC _ (N3 _ (.tail _ (.tail _ (.head _)))).1
                refine ctests_one ?_
                (repeat' (walk_at "go"))
                exact (Mine.mkA1E1 (by rw [Bool.eq_iff_iff]; simp; omega) _ rfl)
              case skip =>
                intro vs v ys nx hv hp hjo6
                walk_at "hideG"
                (refine Mine.exE4 hjo6 ?_; (try clear hjo6); intro ex2 as2 o5' o6' hrun175; refine Mine.exA6 hrun175 ?_; clear hrun175; intro hsb174 d5' d6' k1 k2 k3 k4; subst hsb174)
                walk_at "showG"
                refine (Mine.mkE4 ex2 as2 o5' o6' ⟨rfl, d5', d6', k1, k2, k3, ?_⟩)
                rw [dueV_skip hp] at k4 ⊢
                exact k4
              case elt =>
                intro I3 D3 C3 oI oD oC vs v ys nx s₃ m₃ hv hp hjo14 hoff hne3 F3 N3 hC hx
                walk_at "hideG"
                (refine Mine.exE4 hjo14 ?_; (try clear hjo14); intro ex2 as2 o5' o6' hrun177; refine Mine.exA6 hrun177 ?_; clear hrun177; intro hsb176 d5' d6' k1 k2 k3 k4; subst hsb176)
                have hn := hC _ (N3 _ (.tail _ (.tail _ (.head _)))).1
                (refine Mine.exE2A1 (hys4.at _ _ (by simpa using hv)) ?_; intro y ty hsb178 hys; subst hsb178)
                walk_at "showG"
                (repeat' (walk_at "go"))
                rename News _ _ _ _ => N8
                rename Fr _ _ _ _ => F8
                rename _ ∧ _ => l8
                rename_i Dx h8
                (refine Mine.exA11 l8 ?_; (try clear l8); intro u1 u2 u3 u4 u5 u6 u7 u8 u9 u10 u11 u12)
                refine (Mine.mkE3 _ _ _ ⟨rfl, F8, news_pull [_] [_, _, _, _, _, _, _, _, _, _, _] ex2 N8, off_pull [_] [_, _, _, _, _, _, _, _] ex2 hoff (List.forall_mem_cons.mpr ⟨⟨Nat.ne_of_gt u1, Nat.ne_of_gt u2, Nat.ne_of_gt u3⟩, fun _ h => nomatch h⟩), (Mine.mkE4 ([(Dx, { cls := .type "tuple", data := .seq #[.int y ty, .int (i : Int) ti] })] ++ ex2) (as2 ++ [Dx]) o5' o6' ⟨rfl, d5', d6', fun r hr => .tail _ (k1 r hr), ?_, by rw [k3, List.map_append]; rfl, ?_⟩)⟩)
                · refine List.forall_mem_cons.mpr ⟨.inr ?_, k2⟩
                  exact (Mine.fac u5 (Mine.fac u6 (Mine.fac u7 (Mine.fac u8 (Mine.fac u9 (Mine.fac u10 (Mine.fac u11 Mine.fa0)))))))
                · rw [List.length_append, List.length_singleton, dueV_more hp hys]
                  exact (k4.more (fun r hr => .tail _ hr)).snoc (Mine.mkE3 _ _ _ (.inr (.head _)))
              case fin =>
                intro D9 C9 h' tk' m' ys nx nD9 hjo8 F9 N9 hD9 hsz9 hC9
                walk_at "hideG"
                (refine Mine.exE4 hjo8 ?_; (try clear hjo8); intro ex2 as2 o5' o6' hrun181; refine Mine.exA6 hrun181 ?_; clear hrun181; intro hsb179 d5' d6' k1 k2 hsb180 k4; subst hsb179; subst hsb180)
                walk_at "showG"
                refine fin_none F9 N9 hC9 (fun h8 F8 N8 => ?_)
                have hdm2 := k1 _ hdm
                have hlm2 := k1 _ hlm
                have hall : ((restOf (keysOf kv2) c).take ys4.toArray.toList.length) = restOf (keysOf kv2) c := List.take_of_length_le (by have := hys4.length; simp; omega)
                rw [hall] at k4
                have zd2 : (List.map Value.ref as2).length ≤ 100000 := by
                  rw [List.length_map, k4.1, List.length_map]
                  have := List.length_filter_le (fun _ => (restOf (keysOf kv2) c).length == 1) (restOf (keysOf kv2) c)
                  omega
                (repeat' (walk_at "go"))
                rename News _ _ _ _ => N12
                rename Fr _ _ _ _ => F12
                rename _ ∧ _ => l12
                refine' comp_ (cl := [(Str.ofString "number", L' + 1 + 1)]) ?v1 ?v2 ?v3 ?_ ?v4
                case v1 => rfl
                case v2 => rfl
                case v3 => decide
                case v4 => intro _; rfl
                (repeat' (walk_at "go"))
                (repeat' (walk_at "go")); (try dsimp only)
                rename News _ _ _ _ => N13
                rename Fr _ _ _ _ => F13
                rename IsRange _ _ _ _ _ _ _ _ => hR
                rename_i Ddn _ _ _ _ _ _ _ h13 _ _ _ _ _
                (refine Mine.exE1A1 (show ∃ n0 : Nat, (if decide (restOf (keysOf kv2) c = []) = true then (1 : Int) else 0) = (n0 : Int) ∧ n0 ≤ 1 ∧ List.replicate n0 (i : Int) = lostC (keysOf kv2) l c i from by
                  unfold lostC
                  rw [if_pos hhit]
                  by_cases h : restOf (keysOf kv2) c = []
                  · exact (Mine.mkE1A2 1 (by rw [if_pos (decide_eq_true h)]; rfl) (Nat.le_refl _) (by rw [if_pos h]; rfl))
                  · exact (Mine.mkE1A2 0 (by rw [if_neg (by simpa using h)]; rfl) (Nat.zero_le _) (by rw [if_neg h]; rfl))) ?_; intro n0 hn0 hn01)
                rw [hn0] at hR
                have N14 : News g L' h13 ((Ddn, W.listOf (List.map Value.ref as' ++ List.map Value.ref as2).toArray 0) :: (e, oe) :: (it, oi) :: (L' + 1 + 1 + 1, o5') :: (L' + 1 + 1, o6') :: (L' + 1, o1) :: (a.dx, dictOf (stEs hs2 ts2 a (.int (emptyOf cs) tte2) (.ref kc2)) nd2) :: (td, ot2) :: ex2) :=
                  List.forall_mem_cons.mpr ⟨N13 _ (.tail _ (.head _)), fun p hp => N13 p (.tail _ (.tail _ (.tail _ (.tail _ hp))))⟩
                clear N13
                refine' comp_range (n := n0) hR ?w1 ?w2 (fun _ => true) (fun vs ys nx => nx = (Ddn, W.listOf (List.map Value.ref as' ++ List.map Value.ref as2).toArray 0) :: (e, oe) :: (it, oi) :: (L' + 1 + 1 + 1, o5') :: (L' + 1 + 1, o6') :: (L' + 1, o1) :: (a.dx, dictOf (stEs hs2 ts2 a (.int (emptyOf cs) tte2) (.ref kc2)) nd2) :: (td, ot2) :: ex2 ∧ IntsAre ys (List.replicate vs.length (i : Int))) hh ?w3 ?w4 ?w5 ?F ?N ?j ?sz ?tests ?skip ?elt ?fin
                case w1 => exact small_one (by omega) (by omega) (by omega) (by omega)
                case w2 => rw [rangeSize_nat]; simp
                case w3 => decide
                case w4 => rfl
                case w5 => rfl
                case F => exact F13
                case N => exact N14
                case j => exact ⟨rfl, .nil⟩
                case sz => rw [sizeLine_eq]; omega
                case tests =>
                  intro I3 D3 C3 oI oD oC vs v ys nx s₃ m₃ hv hJ F3 N3 hC hx
                  exact ctests_nil (Mine.mkA1E1 rfl _ rfl)
                case skip => intro vs v ys nx h; cases h
                case elt =>
                  rintro I3 D3 C3 oI oD oC vs v ys nx s₃ m₃ hv - ⟨rfl, hys⟩ hoff hne3 F3 N3 hC hx
                  have hn := hC _ (N3 _ (.tail _ (.tail _ (.head _)))).1
                  (repeat' (walk_at "go"))
                  refine (Mine.mkE3 _ _ _ ⟨rfl, F3, N3, hoff, rfl, ?_⟩)
                  rw [List.length_append, List.length_singleton, List.replicate_succ']
                  exact hys.append (.cons _ _ .nil)
                case fin =>
                  rintro D15 C15 h15 tk15 m15 vs15 ys15 nx nD15 hvl ⟨rfl, hys15⟩ F15 N15 hD15 hsz15 hC15
                  rw [hvl, hn01.2] at hys15
                  refine fin_none F15 N15 hC15 (fun h16 F16 N16 => ?_)
                  have zy : ys15.length ≤ 100000 := by
                    rw [hys15.length, ← hn01.2, List.length_replicate]; omega
                  (repeat' (walk_at "go"))
                  rename News _ _ _ _ => N17
                  rename Fr _ _ _ _ => F17
                  rename _ ∧ _ => l17
                  rename_i Dln h17a h17
                  walk_at "hideG"
                  (refine Mine.exA9 l17 ?_; (try clear l17); intro x1 x2 x3 x4 x5 x6 x7 x8 x9 x10)
                  (refine Mine.exE1A1 (Fr.gen F17) ?_; intro m6 hm6 F6')
                  have md6 : m6 (Str.ofString "due") = some (.ref Ddn) := by rw [hm6]; rfl
                  have mlo6 : m6 (Str.ofString "lost") = some (.ref Dln) := by rw [hm6]; rfl
                  have hmm6 : ∀ y, [Str.ofString "due", Str.ofString "lost", Str.ofString "clause"].contains y = false → m6 y = m3 y := by rw [hm6]; exact ovr_set (ovr_set (ovr_set ovr_ovr rfl) rfl) rfl
                  have hbd : ∀ b ∈ ([e, it, L' + 1 + 1 + 1, L' + 1 + 1, L' + 1, a.dx, td] : List Nat), @LT.lt Nat _ b Ddn := fun b hb => Nat.lt_trans (hb2 b hb) l12.2.1
                  have hbl : ∀ b ∈ ([e, it, L' + 1 + 1 + 1, L' + 1 + 1, L' + 1, a.dx, td] : List Nat), @LT.lt Nat _ b Dln := fun b hb => Nat.lt_trans (hbd b hb) x2
                  (refine Mine.exE1A2 (TakJ.next (cs := cs) (T := keysOf kv2) (l := l) (i := i) (m3 := m3) (m' := m6) (ex := ex) (as' := as' ++ as2) (vl := vl ++ ys15) (ex' := [(Dln, W.listOf (vl ++ ys15).toArray 0), (Ddn, W.listOf (List.map Value.ref (as' ++ as2)).toArray 0)] ++ ex2) hnI hex jx1 jx2 jx3 jxd jxt (by
                      rw [List.map_append]
                      exact news_pull [_, _] [_, _, _, _, _, _, _] ex2 (fun p hp => N17 p (by
                        rcases List.mem_cons.mp hp with h | h
                        · rw [h]; exact .head _
                        · exact .tail _ (.tail _ h)))) d6' d5' (fun r hr => .tail _ (.tail _ (k1 r hr))) (List.forall_mem_cons.mpr ⟨.inr hbl, List.forall_mem_cons.mpr ⟨.inr hbd, k2⟩⟩) (.tail _ (.head _))
                      (by rw [dueL_take hci]; exact (hps.app' (fun r hr => .tail _ (.tail _ (k1 r hr))) (by unfold dueC; rw [if_pos hhit]; exact k4.more (fun r hr => .tail _ (.tail _ hr))))) (.head _) (by rw [lostL_take hci]; exact hli.append hys15) md6 mlo6 hmm6) ?_; intro nx z1 z2 z3)
                  walk_at "showG"
                  exact (Mine.mkE4 _ _ _ nx ⟨rfl, F6', z1, z2, z3⟩)
            · rw [if_neg (by simpa using hf)]
              (repeat' (walk_at "go"))
              rw [if_neg (by decide)]
              (repeat' (walk_at "go"))
              have hm : hitC (keysOf kv2) l c = false := by
                unfold hitC
                rw [Bool.and_eq_false_iff]
                exact .inr (by rw [Bool.eq_false_iff, ne_eq, List.isEmpty_iff]; exact hf)
              (refine Mine.exE1A1 (Fr.gen F9) ?_; intro m6 hm6 F6')
              have md6 : m6 (Str.ofString "due") = some (.ref Dd') := by rw [hm6]; exact md'
              have mlo6 : m6 (Str.ofString "lost") = some (.ref Dl') := by rw [hm6]; exact mlo'
              have hmm6 : ∀ y, [Str.ofString "due", Str.ofString "lost", Str.ofString "clause"].contains y = false → m6 y = m3 y := by rw [hm6]; exact ovr_set ovr_ovr rfl
              have hb7' : ∀ b ∈ ([e, it, L' + 1 + 1 + 1, L' + 1 + 1, L' + 1, a.dx, td] : List Nat), @LT.lt Nat _ b D7 := fun b hb => Nat.lt_trans (hb2 b hb) hb7
              have hb9' : ∀ b ∈ ([e, it, L' + 1 + 1 + 1, L' + 1 + 1, L' + 1, a.dx, td] : List Nat), @LT.lt Nat _ b Dn := fun b hb => Nat.lt_trans (hb7' b hb) l9.1
              (refine Mine.exE1A2 (TakJ.next (cs := cs) (T := keysOf kv2) (l := l) (i := i) (m3 := m3) (ex := ex) (ex' := [(Dn, W.listOf #[] 0), (D7, W.listOf ys7.toArray nD7), (D2, W.listOf ys4.toArray nD4)] ++ ex) hnI hex jx1 jx2 jx3 jxd jxt (news_pull [_, _, _] [_, _, _, _, _, _, _] ex N9) d6 d5 (fun r hr => .tail _ (.tail _ (.tail _ hr))) (List.forall_mem_cons.mpr ⟨.inr hb9', List.forall_mem_cons.mpr ⟨.inr hb7', List.forall_mem_cons.mpr ⟨.inr hb2, fun r hr => .inl hr⟩⟩⟩) (.tail _ (.tail _ (.tail _ hdm))) (by rw [(hmiss hm).1]; exact hps.more (fun r hr => .tail _ (.tail _ (.tail _ hr)))) (.tail _ (.tail _ (.tail _ hlm))) (by rw [(hmiss hm).2]; exact hli) md6 mlo6 hmm6) ?_; intro nx z1 z2 z3)
              exact (Mine.mkE4 _ _ _ nx ⟨rfl, F6', z1, z2, z3⟩)
        · rw [if_neg (by simpa using hlc1)]
          (repeat' (walk_at "go"))
          rw [if_neg (by decide)]
          (repeat' (walk_at "go"))
          have hm : hitC (keysOf kv2) l c = false := by unfold hitC; rw [decide_eq_false hlc1]; rfl
          (refine Mine.exE1A1 (Fr.gen F6) ?_; intro m6 hm6 F6')
          have md6 : m6 (Str.ofString "due") = some (.ref Dd') := by rw [hm6]; exact md'
          have mlo6 : m6 (Str.ofString "lost") = some (.ref Dl') := by rw [hm6]; exact mlo'
          have hmm6 : ∀ y, [Str.ofString "due", Str.ofString "lost", Str.ofString "clause"].contains y = false → m6 y = m3 y := by rw [hm6]; exact ovr_set ovr_ovr rfl
          (refine Mine.exE1A2 (TakJ.next (cs := cs) (T := keysOf kv2) (l := l) (i := i) (m3 := m3) (ex := ex) (ex' := [(D2, W.listOf ys4.toArray nD4)] ++ ex) hnI hex jx1 jx2 jx3 jxd jxt (news_pull [_] [_, _, _, _, _, _, _] ex N6) d6 d5 (fun r hr => .tail _ hr) (List.forall_mem_cons.mpr ⟨.inr hb2, fun r hr => .inl hr⟩) (.tail _ hdm) (by rw [(hmiss hm).1]; exact hps.more (fun r hr => .tail _ hr)) (.tail _ hlm) (by rw [(hmiss hm).2]; exact hli) md6 mlo6 hmm6) ?_; intro nx z1 z2 z3)
          exact (Mine.mkE4 _ _ _ nx ⟨rfl, F6', z1, z2, z3⟩)
    case done =>
      intro m9 nx9 h9 tk9 hjo4 F9 N9
      walk_at "hideG"
      obtain ⟨ex, o2', o3', v2, v3, as', vl, Dd', Dl', nd', nl, rfl, e2, e3, hex, jx1, jx2, jx3, jxd, jxt, hdm, hps, hlm, hli, md', mlo', hmm⟩ := hjo4
      walk_at "showG"
      have ht : cs.take (as.map Value.ref).toArray.size = cs := List.take_of_length_le (by simp; omega)
      rw [ht] at hps hli
      rw [ovr_eq hmm] at F9
      have zdd : (List.map Value.ref as').length ≤ 100000 := by rw [List.length_map, hps.1]; have := @dueL_len (keysOf kv2) l cs; omega
      have zll : vl.length ≤ 100000 := by rw [hli.length]; have := @lostL_len (keysOf kv2) l cs; omega
      have iqe := hex _ iqm
      have ibe := hex _ ibm
      have room := Mine.Cx.room C'
      have room0 := Nat.lt_of_le_of_lt (Nat.le_add_right _ 64) room
      have room1 := Nat.lt_of_le_of_lt (Nat.add_le_add_left (show 1 ≤ 64 by decide) _) room
      walk_at "behind"
      (try dsimp only)
      iterate 9 (walk_at "go")
      rename News _ _ _ _ => N10
      rename Fr _ _ _ _ => F10
      rename _ ∧ _ => l10
      rename_i Dn h10
      have hexN : ∀ r ∈ SN2, r ∈ (Dn, W.listOf (List.map Value.ref aq ++ List.map Value.ref as').toArray 0) :: (L' + 1 + 1 + 1, o3') :: (L' + 1 + 1, o2') :: (L' + 1, o1) :: (a.dx, dictOf (stEs hs2 ts2 a (.int (emptyOf cs) tte2) (.ref kc2)) nd2) :: (td, ot2) :: ex := fun r hr => .tail _ (.tail _ (.tail _ (.tail _ (.tail _ (.tail _ (hex r hr))))))
      have hk10 := hkeep2 _ _ F10 (fun r hr => N10 r (hexN r hr))
      have pa : ∀ (i : Nat) x p, aq2[i]? = some x → (qs ++ dueL (keysOf kv2) l cs)[i]? = some p → PairAt h10 x p := fun i x p h1 h2 => by
        rw [dueL_eq, hT] at h2
        have hp := fq2 i x p h1 h2
        exact hp.kp hk10 (by (refine Mine.exE3 hp ?_; (try clear hp); intro t u n e); exact hnt2.off e)
      have pb : ∀ (i : Nat) x p, (aq ++ as')[i]? = some x → (qs ++ dueL (keysOf kv2) l cs)[i]? = some p → PairAt h10 x p := fun i x p h1 h2 => by
        by_cases hi : i < aq.length
        · rw [List.getElem?_append_left hi] at h1
          rw [List.getElem?_append_left (lq ▸ hi)] at h2
          (refine Mine.exE3 (fq i x p h1 h2) ?_; intro t u n e)
          exact (Mine.mkE3 t u n (F10.keep _ _ (gk _ _ (hnt0.off e) e)))
        · rw [List.getElem?_append_right (by omega)] at h1
          rw [List.getElem?_append_right (by omega), ← lq] at h2
          exact (hps.2 _ x p h1 h2).at F10 N10 (fun r hr => .tail _ (.tail _ (.tail _ (.tail _ (.tail _ (.tail _ hr))))))
      have la2 : aq2.length = (qs ++ dueL (keysOf kv2) l cs).length := by rw [dueL_eq, hT]; exact lq2
      have lab : (aq ++ as').length = (qs ++ dueL (keysOf kv2) l cs).length := by rw [List.length_append, List.length_append, lq, hps.1]
      have hb10 := (N10 _ (.head _)).1
      rw [← List.map_append] at hb10
      refine ne_list_same (News.get N10 (.tail _ (.tail _ (.tail _ (.tail _ (.tail _ (.tail _ iqe))))))) hb10 (by simp; rw [← List.length_append]; omega) room0 (pairs_same la2 pa lab pb room1) ?_
      (repeat' (walk_at "go"))
      rw [if_neg (by decide)]
      (repeat' (walk_at "go"))
      rw [if_neg (by decide)]
      (repeat' (walk_at "go"))
      rw [if_neg (by decide)]
      (repeat' (walk_at "go"))
      (repeat' (walk_at "go")); (try dsimp only)
      (repeat' (walk_at "go"))
      have pkc2 : ∀ h m nx, Fr g L' h m → News g L' h nx → (∀ r ∈ ex, r ∈ nx) → PairAt h kc2 (clashOf (keysOf kv2) cs l ck (idxOf cs (-l))) := fun h m nx Fh Nh hsub => by
        have hk := hkeep2 _ _ Fh (fun r hr => Nh r (hsub r (hex r hr)))
        have hp := hck2
        rw [← hT] at hp
        exact hp.kp hk (by (refine Mine.exE3 hp ?_; (try clear hp); intro t u n e); exact hnt2.off e)
      refine wp_if_cut (P := fun b s₂ => ∃ h' tk x, b = .ref x ∧ s₂ = { s with heap := h', toks := tk } ∧ Fr g L' h' (ovr [Str.ofString "due", Str.ofString "lost", Str.ofString "clause"] m9 m3) ∧ News g L' h' ((L' + 1 + 1 + 1, o3') :: (L' + 1 + 1, o2') :: (L' + 1, o1) :: (a.dx, dictOf (stEs hs2 ts2 a (.int (emptyOf cs) tte2) (.ref kc2)) nd2) :: (td, ot2) :: ex) ∧ PairAt h' x (clashOf (keysOf kv2) cs l ck (idxOf cs (-l)))) ?sub ?cont
      case sub =>
        by_cases hlo : lostL (keysOf kv2) l cs = []
        · rw [if_neg (by rw [decide_eq_true hlo]; decide)]
          walk_at "go"
          rename News _ _ _ _ => N11
          rename Fr _ _ _ _ => F11
          refine (Mine.mkE3 _ _ _ ⟨rfl, rfl, F11, fun p hp => N11 p (.tail _ (.tail _ (.tail _ hp))), ?_⟩)
          rw [clash_nil hlo]
          exact gck.keeps F11.keep
        · rw [if_pos (by rw [decide_eq_false hlo]; rfl)]
          walk_at "hideG"
          (refine Mine.exE2 (show ∃ xs x, lostL (keysOf kv2) l cs = xs ++ [x] from by
            rcases List.eq_nil_or_concat (lostL (keysOf kv2) l cs) with h | ⟨xs, x, h⟩
            · exact absurd h hlo
            · exact (Mine.mkE2 xs x (by rw [h]; simp))) ?_; intro xs x hxs)
          have hvl := hli.length
          rw [hxs, List.length_append, List.length_singleton] at hvl
          (refine Mine.exE1 (hli.get xs.length x (by rw [hxs]; simp)) ?_; intro tx hvx)
          walk_at "showG"
          iterate 7 (walk_at "go")
          refine' list_itemN (v := .int x tx) ?i1 ?i2 ?i3 ?i4 ?i5 ?_ ?i6
          case i1 => walk_at "at"
          case i2 => decide
          case i3 => rw [List.size_toArray, hvl]; omega
          case i4 => decide
          case i5 =>
            rw [List.size_toArray, hvl, show (-1 + ((xs.length + 1 : Nat) : Int)).toNat = xs.length by omega]
            simpa using hvx
          case i6 => with_unfolding_all rfl
          (repeat' (walk_at "go"))
          rename News _ _ _ _ => N11
          rename Fr _ _ _ _ => F11
          refine (Mine.mkE3 _ _ _ ⟨rfl, rfl, F11, fun p hp => N11 p (.tail _ (.tail _ (.tail _ (.tail _ hp)))), ?_⟩)
          rw [clash_last hxs]
          exact (Mine.mkE3 _ _ _ ((N11 _ (.head _)).1))
      case cont =>
        intro _ _ hjo2
        walk_at "hideG"
        (refine Mine.exE3 hjo2 ?_; (try clear hjo2); intro h12 tk12 x hrun184; refine Mine.exA4 hrun184 ?_; clear hrun184; intro hsb182 hsb183 F12 N12 hpx; subst hsb182; subst hsb183)
        have hk12 := hkeep2 _ _ F12 (fun r hr => N12 r (.tail _ (.tail _ (.tail _ (.tail _ (.tail _ (hex r hr)))))))
        have hp2 := hck2
        rw [← hT] at hp2
        have hp2' : PairAt h12 kc2 (clashOf (keysOf kv2) cs l ck (idxOf cs (-l))) := hp2.kp hk12 (by (refine Mine.exE3 hp2 ?_; (try clear hp2); intro t u n e); exact hnt2.off e)
        (refine Mine.exE3 hp2' ?_; (try clear hp2'); intro t1 u1 n1 ek)
        (refine Mine.exE3 hpx ?_; (try clear hpx); intro t2 u2 n2 ek2)
        walk_at "showG"
        refine ne_tuple_same ek ek2 rfl room0 (fun j h1 h2 => by
          match j, h1, h2 with
          | 0, _, _ => exact same_int
          | 1, _, _ => exact same_int) ?_
        (repeat' (walk_at "go"))
        rw [if_neg (by decide)]
        (repeat' (walk_at "go"))
        rename News _ _ _ _ => N13
        rename Fr _ _ _ _ => F13
        rename_i h13
        refine' counts_spec (ca := ca) (ta := td) (cs := cs) (ot := ot2) (kvs := kv2) C' ?cF ?cc ?cl ?cll ?co hto3 lot ?_
        case cF => exact F13
        case cc => exact ClausesAt.keeps (Mine.mkE2A2 as na gca hal gaf) F13.keep
        case cl => omega
        case cll => exact fun c hc => by have := clause_len (hcok c hc); omega
        case co => exact News.get N13 (by walk_at "sim")
        intro ta d1 d2 h14 tk14 hta ea ed1 ed2 sd1 sd2 hk14 F14
        dsimp only at hta sd1 sd2 hk14
        have hLs : @LT.lt Nat _ L' h12.objs.size := F13.ns.lt
        have g14 : ∀ b, @LE.le Nat _ h12.objs.size b → b ≠ L' ∧ g.get? b = none := fun b hb => ⟨Nat.ne_of_gt (Nat.lt_of_lt_of_le hLs hb), Heap.get?_none_of_le (Nat.le_trans F14.above (Nat.le_of_lt (Nat.lt_of_lt_of_le hLs hb)))⟩
        have sd1' : @LE.le Nat _ h12.objs.size d1 := sd1
        have sd2' : @LE.le Nat _ h12.objs.size d2 := sd2
        (refine Mine.exE2A1 (id ed1) ?_; intro vh nh eh ih)
        (refine Mine.exE2A1 (id ed2) ?_; intro vo no' eo io)
        have N15 : News g L' h14 ((d1, W.listOf vh.toArray nh) :: (d2, W.listOf vo.toArray no') :: (L' + 1 + 1 + 1, o3') :: (L' + 1 + 1, o2') :: (L' + 1, o1) :: (a.dx, dictOf (stEs hs2 ts2 a (.int (emptyOf cs) tte2) (.ref kc2)) nd2) :: (td, ot2) :: ex) :=
          List.forall_mem_cons.mpr ⟨⟨eh, g14 _ sd1'⟩, List.forall_mem_cons.mpr ⟨⟨eo, g14 _ sd2'⟩, fun p hp => ⟨hk14 _ _ (fun h => nomatch h) (N13 p hp).1, (N13 p hp).2⟩⟩⟩
        refine' unpackN_ ?fu ?nu ?u1 hh ?u2 ?u3 ?_
        case fu => exact F14
        case nu => exact N15
        case u1 => exact (Mine.mkE1A2E1 _ ea rfl _ rfl)
        case u2 => exact rfl
        case u3 => exact rfl
        intro hU FU NU
        clear N15 F14
        (repeat' (walk_at "go"))
        rename News _ _ _ _ => N16
        rename Fr _ _ _ _ => F16
        rename_i h16
        have hk16 := hkeep2 _ _ F16 (fun r hr => N16 r (.tail _ (.tail _ (.tail _ (.tail _ (.tail _ (.tail _ (.tail _ (hex r hr)))))))))
        have hoffd2 : ∀ b ∈ (([a.x, a.cl, a.pl, a.he, a.op, a.be, a.ta, a.tr] : List Nat) ++ ps), b ∉ [L', a.dx, td, L' + 1 + 1 + 1, L' + 1 + 1, L' + 1] := fun b hb => by
          have h1 := nmo (hoffd b hb)
          exact nmc h1.1 (nmc h1.2.1 (nmc (fun e => htd (e ▸ sub8 hb)) (nmc h1.2.2.1 (nmc h1.2.2.2.1 (nmc h1.2.2.2.2.1 nm0)))))
        have hDx16 := (N16 _ (.tail _ (.tail _ (.tail _ (.tail _ (.tail _ (.head _))))))).1
        have S16 := S2.kpd hk16 hnt2 hoffd2 (Mine.mkE3 hs2 ts2 nd2 hDx16) (hp2.kp hk16 (by (refine Mine.exE3 hp2 ?_; (try clear hp2); intro t u n e); exact hnt2.off e))
        have P16 := P2.kp hk16 (by
          have h1 := nmo (hoffL q ⟨_, hqo⟩)
          exact nmc h1.1 (nmc hq0.2.1 (nmc hqt (nmc h1.2.1 (nmc h1.2.2.1 (nmc h1.2.2.2.1 nm0)))))) hnt2
        (refine Mine.exE1A1 (id S16.ta) ?_; intro ot16 hot16 hto16)
        have hkl : (keysOf kv2).length = kv2.length := List.length_map _
        refine' state_spec2 (a := a) (e := .int (emptyOf cs) tte2) (ck := .ref kc2) C' F16 S16.x (Mine.mkE3 hs2 ts2 nd2 hDx16) S16.he S16.op S16.tr hot16 hto16 O.lo2 ?z1 ?z2 ?z3 ?z4 ?_
        case z1 => rw [List.length_map]; omega
        case z2 => rw [List.length_map]; omega
        case z3 => omega
        case z4 => omega
        intro tt e1 e2 e3 e4 h17 tk17 htt ett l1 l2 l3 hod lod hge hk17 F17
        (refine Mine.exE1A1 hod ?_; (try clear hod); intro od eod hod)
        dsimp only at htt hge hk17
        have hLs16 : @LT.lt Nat _ L' h16.objs.size := F16.ns.lt
        have hnt16 := Mine.Fr.noTup F16
        have htd17 := hk17 _ _ (fun h => nomatch h) (N16 _ (.tail _ (.tail _ (.tail _ (.tail _ (.tail _ (.tail _ (.head _)))))))).1
        have hc17 := hk17 _ _ (fun h => nomatch h) (N16 _ (.tail _ (.tail _ (.tail _ (.tail _ (.head _)))))).1
        have gtd := (N16 _ (.tail _ (.tail _ (.tail _ (.tail _ (.tail _ (.tail _ (.head _)))))))).2
        have gc1 := (N16 _ (.tail _ (.tail _ (.tail _ (.tail _ (.head _)))))).2
        have hd17 := hk17 _ _ (fun h => nomatch h) (N16 _ (.head _)).1
        have hd17' := hk17 _ _ (fun h => nomatch h) (N16 _ (.tail _ (.head _))).1
        have gd1 := (N16 _ (.head _)).2
        have gd2 := (N16 _ (.tail _ (.head _))).2
        clear N16
        have jtd : (td, ot2) ∈ snap g L' h17 [] := mem_snap.mpr ⟨htd17, gtd.2, gtd.1, fun h => nomatch h⟩
        have jc1 : (L' + 1, o1) ∈ snap g L' h17 [] := mem_snap.mpr ⟨hc17, gc1.2, gc1.1, fun h => nomatch h⟩
        have N17 : News g L' h17 (snap g L' h17 []) := snap_news
        have hkeep17 : ∀ h m, Fr g L' h m → News g L' h (snap g L' h17 []) → Kp [L'] h17 h := fun h m Fh Nh => snap_keep F17.keep Fh Nh
        generalize hSN17 : snap g L' h17 [] = SN17 at jtd jc1 N17 hkeep17
        (repeat' (walk_at "go"))
        refine' dict_list hh ?xF ?xN lot ?xo hto3 ?xl ?_
        case xF => k_asm
        case xN => k_asm
        case xo => exact htd17
        case xl => omega
        intro D8 c8 h18 tk18 vs8 F18 N18 hD8 hi8
        (repeat' (walk_at "go"))
        rename News _ _ _ _ => N20
        rename Fr _ _ _ _ => F20
        rename_i D20 h20 _
        have hk20 := hkeep17 _ _ F20 (fun r hr => N20 r (.tail _ (.tail _ hr)))
        have hk1620 : Kp [L'] h16 h20 := (hk17.mono (fun _ h => nomatch h)).trans hk20
        have y1 := hge _ (.head _)
        have y2 := hge _ (.tail _ (.head _))
        have y3 := hge _ (.tail _ (.tail _ (.head _)))
        have y4 := hge _ (.tail _ (.tail _ (.tail _ (.head _))))
        clear hge
        have off : ∀ b : Nat, @LE.le Nat _ h16.objs.size b → b ∉ [L'] := fun b hb => nmc (Nat.ne_of_gt (Nat.lt_of_lt_of_le hLs16 hb)) nm0
        have b1 := l1.kp hk20 (off _ y1)
        have b2 := l2.kp hk20 (off _ y2)
        have b3 := l3.kp hk20 (off _ y3)
        have b4 := hk20 _ _ (off _ y4) eod
        have b5 := hk20 _ _ (off _ htt) ett
        have c1' : ListInts h20 d1 (cs.map (heldOf (keysOf kv2))) := (Mine.mkE2A1 vh nh (hk20 _ _ (Mine.nmc (gd1.1) Mine.nm0) hd17) ih)
        have c2' : ListInts h20 d2 (cs.map (openOf (keysOf kv2))) := (Mine.mkE2A1 vo no' (hk20 _ _ (Mine.nmc (gd2.1) Mine.nm0) hd17') io)
        have c3' : ListInts h20 D8 (keysOf kv2) := (Mine.mkE2A1 vs8 c8 ((N20 _ (.tail _ (.head _))).1) hi8)
        have c4' := hk20 _ _ (Mine.nmc (gtd.1) Mine.nm0) htd17
        refine eq_tuple_same b5 (N20 _ (.head _)).1 rfl room0 (fun j h1 h2 => by
          match j, h1, h2 with
          | 0, _, _ => exact same_ints b1 c1' room1
          | 1, _, _ => exact same_ints b2 c2' room1
          | 2, _, _ => exact same_ints b3 c3' room1
          | 3, _, _ => exact same_dict lod lot b4 hod c4' hto3 room1) ?_
        have hnL : ∀ b ∈ (([a.x, a.dx, a.cl, a.pl, a.he, a.op, a.be, a.ta, a.tr] : List Nat) ++ ps), b ∉ [L'] := fun b hb => nmc (nmo (hoffL b (S.live b hb))).1 nm0
        (repeat' (walk_at "behind")); (try dsimp only)
        exact retR F20 ⟨rfl, S16.kp hk1620 hnt16 hnL, P16.kp hk1620 (nmc (nmo (hoffL q ⟨_, hqo⟩)).1 nm0) hnt16, (Mine.mkE1A1 ot2 c4' hto3)⟩
end

/-! part H1 -/
set_option maxHeartbeats 4000000

/-- what a turn of a for ends in, where the heap is the invariant -/
def TurnEndH (h₀ : Heap) (L I : Addr) (oI : Obj) (Jn : (Str → Option Value) → Heap → Prop) (s : Shared) (Q : Flow → Shared → Prop) (f : Flow) (s₂ : Shared) : Prop :=
  match f with
  | .ret v => Q (.ret v) s₂
  | .brk => Q .next s₂
  | _ => ∃ h' tk m', s₂ = { s with heap := h', toks := tk } ∧ Fr h₀ L h' m' ∧ h'.get? I = some oI ∧ Jn m' h'
theorem turnH {h₀ : Heap} {L I : Addr} {oI : Obj} {Jn : (Str → Option Value) → Heap → Prop} {s : Shared} {Q : Flow → Shared → Prop} {h' : Heap} {tk : Nat} {m' : Str → Option Value} (F : Fr h₀ L h' m') (hI : h'.get? I = some oI) (hJ : Jn m' h') : TurnEndH h₀ L I oI Jn s Q .next { s with heap := h', toks := tk } := (Mine.mkE3 h' tk m' ⟨rfl, F, hI, hJ⟩)
theorem go_hret {h₀ : Heap} {L I : Addr} {oI : Obj} {Jn : (Str → Option Value) → Heap → Prop} {s s₂ : Shared} {Q Q' : Flow → Shared → Prop} {v : Value} (k : Under (TurnEndH h₀ L I oI Jn s Q) Q') (h : Q (.ret v) s₂) : Q' (.ret v) s₂ := k _ _ h
theorem go_hbrk {h₀ : Heap} {L I : Addr} {oI : Obj} {Jn : (Str → Option Value) → Heap → Prop} {s s₂ : Shared} {Q Q' : Flow → Shared → Prop} (k : Under (TurnEndH h₀ L I oI Jn s Q) Q') (h : Q .next s₂) : Q' .brk s₂ := k _ _ h
set_option hygiene false in
local macro_rules
| `(tactic| walk_at "behind") => `(tactic| (
  (fail_if_success (with_reducible show wpAny _ _ _ _ _ _));
  first
  | (refine Mine.go_hret (by with_reducible assumption) ?_; walk_at "drop")
  | (refine Mine.go_hbrk (by with_reducible assumption) ?_; walk_at "drop")
  | fail "behind"))

section
variable {prog : Program} {w : World} {A : Around} {E : Value → Shared → Prop} {s : Shared} {env : Env} {h₀ : Heap} {x : Str} {px : Pos} {body : List Stmt} {Q : Flow → Shared → Prop} {m : Str → Option Value}

theorem for_heap_code {R : Result → Shared → Prop} {I : Addr} {fp : List Addr} {n : Nat} {P : Nat → Value → Prop} {St : Nat → Heap → Prop}
    (W : Walks prog w A I fp [I] n P St) (hx : env.kindOf x = some .local)
    (hp : (env.scope.kind == .class || (env.scope.kind == .module && env.locals != env.globals)) = false)
    (hLf : env.locals ∉ fp) (hI0 : h₀.get? I = none) (hlive : ∀ i h, St i h → ∃ o, h.get? I = some o) (hnt : ∀ i h, St i h → NoTup h [I])
    (hst : St 0 s.heap) (F : Fr h₀ env.locals s.heap m)
    (J : Nat → (Str → Option Value) → Heap → Prop) (h0 : J 0 m s.heap)
    (hfp : ∀ b ∈ fp, b = I ∨ ∃ o, h₀.get? b = some o)
    (hk : ∀ i m h h', J i m h → Fr h₀ env.locals h m → NoTup h [I] → Kp [I, env.locals] h h' → J i m h')
    (turn : ∀ i v m₁ h tk oI, i < n → P i v → J i m₁ h → h.get? I = some oI → Fr h₀ env.locals h (fun y => if y = x then some v else m₁ y) →
      ∀ Q', Under (TurnEndH h₀ env.locals I oI (J (i + 1)) s Q) Q' → wpAny (model prog w) A (execs body env) Q' (fun _ _ => False) { s with heap := h, toks := tk })
    (hQ : ∀ f s', Q f s' → R (.ok f) s')
    (hR : ∀ h' tk m', Fr h₀ env.locals h' m' → J n m' h' → Q .next { s with heap := h', toks := tk }) :
    codeAny (model prog w) A (.forLoop (.Name x px) (.ref I) body [] env) R s := by
  have hIL : I ≠ env.locals := fun e => by
    have hfpI : I ∈ fp := W.sub _ (List.mem_singleton.mpr rfl)
    exact hLf (e ▸ hfpI)
  have old : ∀ b o, h₀.get? b = some o → b ∉ [I] := fun b o e hb => by rw [List.mem_singleton.mp hb, hI0] at e; cases e
  refine codeAny_forLoop
    (fun k s' => ∃ h' tk m' i, s' = { s with heap := h', toks := tk } ∧ St i h' ∧ Fr h₀ env.locals h' m' ∧ J i m' h' ∧ i ≤ n ∧ k = n + 1 - i) ?_ (n + 1)
    (Mine.mkE4 s.heap s.toks m 0 ⟨rfl, hst, F, h0, Nat.zero_le _, rfl⟩)
  intro k s' hjo2
  walk_at "hideG"
  (refine Mine.exE4 hjo2 ?_; (try clear hjo2); intro h' tk m' i hrun187; refine Mine.exA5 hrun187 ?_; clear hrun187; intro hsb185 hst' F' hJ hi hsb186; subst hsb185; subst hsb186)
  walk_at "showG"
  have next : ∀ h₁ : Heap, (∀ b o, b ∉ [I] → h'.get? b = some o → h₁.get? b = some o) → Fr h₀ env.locals h₁ m' ∧ J i m' h₁ := fun h₁ hk₁ =>
    ⟨⟨F'.ns.at' fun o e => hk₁ _ o (fun q => hIL (List.mem_singleton.mp q).symm) e, fun b o e => hk₁ b o (old b o e) (F'.keep b o e), F'.above⟩, hk _ _ _ _ hJ F' (hnt _ _ hst') fun b o hb e => hk₁ b o (fun q => hb (by rw [List.mem_singleton.mp q]; exact .head _)) e⟩
  by_cases hlt : i < n
  · refine W.item i _ _ _ hlt hst' fun v h₁ tk₁ hP hst₁ hk₁ => ?_
    (refine Mine.exA1 (next h₁ hk₁) ?_; intro F₁ J₁)
    refine wpAny_assign_Name (wpAny_storeName_local hx F₁.ns (fun h₂ hn₂ hs₂ => ?_) hp)
    have F₂ := F₁.set hn₂ hs₂
    have hst₂ : St (i + 1) h₂ := W.frame _ _ _ hst₁ fun b hb o e => (hs₂.2 b fun q => hLf (q ▸ hb)).trans e
    (refine Mine.exE1 (hlive _ _ hst₂) ?_; intro oI hoI)
    have J₂ : J i m' h₂ := hk _ _ _ _ J₁ F₁ (hnt _ _ hst₁) fun b o hb e => hs₂.extBut b o (fun q => hb (by rw [q]; exact .tail _ (.head _))) e
    have back : ∀ h₃ m₂, Fr h₀ env.locals h₃ m₂ → h₃.get? I = some oI → St (i + 1) h₃ := fun h₃ m₂ F₃ h3 => by
      refine W.frame _ _ _ hst₂ fun b hb o e => ?_
      rcases hfp b hb with rfl | ⟨o₀, e₀⟩
      · rw [hoI] at e; cases e; exact h3
      · have := F₂.keep b o₀ e₀; rw [e] at this; cases this; exact F₃.keep b _ e₀
    refine wpAny_mono (turn i v m' _ _ oI hlt hP J₂ hoI F₂ _ .refl) (fun f s₃ h₃ => ?_) fun _ _ e => e.elim
    cases f with
    | ret v => exact hQ _ _ h₃
    | brk => exact hQ _ _ h₃
    | cont =>
      walk_at "hideG"
      (refine Mine.exE3A3 h₃ ?_; (try clear h₃); intro h₃' tk₃ m₂ hsb188 F₃ h3 hJ₃; subst hsb188)
      walk_at "showG"
      exact ⟨n + 1 - (i + 1), ⟨by omega, (Mine.mkE4 h₃' tk₃ m₂ (i + 1) ⟨rfl, back _ _ F₃ h3, F₃, hJ₃, hlt, rfl⟩)⟩⟩
    | next =>
      walk_at "hideG"
      (refine Mine.exE3A3 h₃ ?_; (try clear h₃); intro h₃' tk₃ m₂ hsb189 F₃ h3 hJ₃; subst hsb189)
      walk_at "showG"
      exact ⟨n + 1 - (i + 1), ⟨by omega, (Mine.mkE4 h₃' tk₃ m₂ (i + 1) ⟨rfl, back _ _ F₃ h3, F₃, hJ₃, hlt, rfl⟩)⟩⟩
  · have hin : i = n := by omega
    subst hin
    refine W.done _ _ _ hst' fun h₁ tk₁ hk₁ => wpAny_execs_nil ?_
    (refine Mine.exA1 (next h₁ hk₁) ?_; intro F₁ J₁)
    exact hQ _ _ (hR h₁ tk₁ m' F₁ J₁)

theorem for_list_heap {l : Addr} {items : Array Value} {no : Nat} (hh : A.handled = none) (ho : h₀.get? l = some (W.listOf items no)) (F : Fr h₀ env.locals s.heap m)
    (J : Nat → (Str → Option Value) → Heap → Prop) (h0 : J 0 m s.heap)
    (hk : ∀ i m h h', J i m h → Fr h₀ env.locals h m → NoTup h [s.heap.objs.size] → Kp [s.heap.objs.size, env.locals] h h' → J i m h')
    (turn : ∀ i v m₁ h tk oI, items[i]? = some v → J i m₁ h → h.get? s.heap.objs.size = some oI → Fr h₀ env.locals h (fun y => if y = x then some v else m₁ y) →
      ∀ Q', Under (TurnEndH h₀ env.locals s.heap.objs.size oI (J (i + 1)) s Q) Q' → wpAny (model prog w) A (execs body env) Q' (fun _ _ => False) { s with heap := h, toks := tk })
    (done : ∀ h tk m', Fr h₀ env.locals h m' → J items.size m' h → Q .next { s with heap := h, toks := tk })
    (hx : env.kindOf x = some .local)
    (hp : (env.scope.kind == .class || (env.scope.kind == .module && env.locals != env.globals)) = false) :
    wpAny (model prog w) A (pyIter (.ref l)) (fun it s₂ => codeAny (model prog w) A (.forLoop (.Name x px) it body [] env) (fun r s' => match r with | .ok f => Q f s' | .error e => cameBackBy (model prog w) A env E e s') s₂) E s := by
  have hol := F.keep _ _ ho
  have hl : s.heap.IsList l items := (Mine.mkE1A2E1 _ hol rfl _ rfl)
  have hne : l ≠ s.heap.objs.size := Nat.ne_of_lt (Heap.lt_size hol)
  have hlL : l ≠ env.locals := Nat.ne_of_lt (Nat.lt_of_lt_of_le (Heap.lt_size ho) F.above)
  refine wpAny_pyIter_list hl ?_
  have W := Walks.list (prog := prog) (w := w) hh s.heap.objs.size l hne items
  have hnone : NoTup s.heap [s.heap.objs.size] := fun b hb vs n e => by
    rw [List.mem_singleton] at hb; subst hb; exact Nat.lt_irrefl _ (Heap.lt_size e)
  have hpush : Kp [s.heap.objs.size, env.locals] s.heap (s.heap.push { cls := .type "list_iterator", data := .fields #[.ref l, .int 0 0] }) := fun b o _ e => Heap.get?_push_of_some _ e
  refine for_heap_code (s := { s with heap := s.heap.push _ }) (m := m) W hx hp ?_ (next_is_new F) (fun i h st => ?_) (fun i h st b hb vs n e => ?_)
    ⟨(Mine.mkE1A2 _ (Heap.get?_push_size _ rfl) rfl rfl), hl.at fun o e => Heap.get?_push_of_some _ e⟩ (F.push _) J (hk _ _ _ _ h0 F hnone hpush) ?_ hk
    (fun i v m₁ h tk oI _ hP hJ hI F₁ => turn i v m₁ h tk oI hP hJ hI F₁) (fun f s' h => h) (fun h' tk m' F' hJ => done h' tk m' F' hJ)
  · intro hm
    rcases List.mem_cons.mp hm with e | hm
    · exact absurd F.ns.lt (e ▸ Nat.lt_irrefl _)
    · exact hlL (List.mem_singleton.mp hm).symm
  · (refine Mine.exA1 st ?_; (try clear st); intro hnst190 _; obtain ⟨o, ho, _⟩ := hnst190); exact ⟨o, ho⟩
  · rw [List.mem_singleton] at hb; subst hb
    walk_at "hideG"
    (refine Mine.exA1 st ?_; (try clear st); intro hnst191 _; obtain ⟨o, ho, hc, _⟩ := hnst191)
    walk_at "showG"
    rw [ho] at e
    have e' := congrArg Obj.cls (Option.some.inj e)
    rw [hc] at e'; simp at e'
  · intro b hb
    rcases List.mem_cons.mp hb with e | hb
    · exact .inl e
    · rw [List.mem_singleton.mp hb]; exact .inr ⟨_, ho⟩

theorem for_range_heap {r : Addr} {a₀ b₀ : Int} {t₀ u₀ v₀ : Tok} {n : Nat} (hh : A.handled = none) (hr : IsRange s.heap r a₀ b₀ 1 t₀ u₀ v₀) (hsmall : Builtin.Range.small a₀ b₀ 1 = true) (hsz : Builtin.Range.rangeSize a₀ b₀ 1 = (n : Int)) (F : Fr h₀ env.locals s.heap m)
    (J : Nat → (Str → Option Value) → Heap → Prop) (h0 : J 0 m s.heap)
    (hk : ∀ i m h h', J i m h → Fr h₀ env.locals h m → NoTup h [s.heap.objs.size] → Kp [s.heap.objs.size, env.locals] h h' → J i m h')
    (turn : ∀ i t m₁ h tk oI, i < n → J i m₁ h → h.get? s.heap.objs.size = some oI → Fr h₀ env.locals h (fun y => if y = x then some (.int (a₀ + (i : Int)) t) else m₁ y) →
      ∀ Q', Under (TurnEndH h₀ env.locals s.heap.objs.size oI (J (i + 1)) s Q) Q' → wpAny (model prog w) A (execs body env) Q' (fun _ _ => False) { s with heap := h, toks := tk })
    (done : ∀ h tk m', Fr h₀ env.locals h m' → J n m' h → Q .next { s with heap := h, toks := tk })
    (hx : env.kindOf x = some .local)
    (hp : (env.scope.kind == .class || (env.scope.kind == .module && env.locals != env.globals)) = false) :
    wpAny (model prog w) A (pyIter (.ref r)) (fun it s₂ => codeAny (model prog w) A (.forLoop (.Name x px) it body [] env) (fun r s' => match r with | .ok f => Q f s' | .error e => cameBackBy (model prog w) A env E e s') s₂) E s := by
  refine wpAny_pyIter_range hr hsmall ?_
  have W : Walks prog w A s.heap.objs.size [s.heap.objs.size] [s.heap.objs.size] n (fun i v => i < n ∧ ∃ t, v = .int (a₀ + i * 1) t)
      (fun i h => IsRangeIter h s.heap.objs.size (a₀ + (i : Nat) * 1) ((n : Int) - (i : Nat)) 1) := (Walks.range hh _ a₀ 1 n).bound
  refine for_heap_code (s := { s with heap := s.heap.push _ }) (m := m) W hx hp ?_ (next_is_new F) (fun i h st => ⟨_, st⟩) (fun i h st b hb vs n e => by
      rw [List.mem_singleton] at hb; subst hb
      have st' : h.get? _ = some _ := st
      rw [st'] at e
      have e' := congrArg Obj.cls (Option.some.inj e)
      simp at e')
    (by show IsRangeIter _ _ _ _ _; rw [hsz]; simpa using Heap.get?_push_size _ rfl) (F.push _) J (hk _ _ _ _ h0 F (fun b hb vs n e => by rw [List.mem_singleton] at hb; subst hb; exact Nat.lt_irrefl _ (Heap.lt_size e)) fun b o _ e => Heap.get?_push_of_some _ e) (fun b hb => .inl (List.mem_singleton.mp hb)) hk
    ?_ (fun f s' h => h) (fun h' tk m' F' hJ => done h' tk m' F' hJ)
  · intro hm
    exact absurd F.ns.lt ((List.mem_singleton.mp hm) ▸ Nat.lt_irrefl _)
  · rintro i v m₁ h tk oI _ ⟨hi, t, rfl⟩ hJ hI F₁
    have e1 : a₀ + (i : Int) * 1 = a₀ + (i : Int) := by omega
    rw [e1] at F₁
    exact turn i t m₁ h tk oI hi hJ hI F₁
end

/-! part M19 -/
set_option maxHeartbeats 4000000


section
variable {w : World} {mg mb : Str → Option Value} {n : Nat} {A : Around} {h₀ : Heap} {L : Addr} {m : Str → Option Value} {s : Shared}
  {name qual : Str} {params : Arguments} {body : List Stmt} {scope : Scope} {dV kV doc pm cdv ct oc : Value} {an od : Option Addr} {osl : Array (Option Value)} {f : Addr} {pos : List Value} {binds : List (Str × Value)}
  {E : Value → Shared → Prop} {prog : Program}

theorem codeR {R : Value → Heap → Prop} {RR : Result → Shared → Prop} (ch : List Addr) (C : Cx w mg mb (n + 1) A h₀ L) (F : Fr h₀ L s.heap m) (hch : ∀ a ∈ ch, h₀.get? a = none ∧ a ≠ L)
    (ho : (hd.heap_39 w.params).lookup f = some ⟨oc, od, .func (fnOf name qual params body scope dV kV doc pm an cdv ct), osl⟩) (hcd : codeIn (hd.heap_39 w.params) cdv qual = true)
    (hbind : BindsTo s (fnOf name qual params body scope dV kV doc pm an cdv ct) ⟨pos, []⟩ binds) (hloc : ∀ y ∈ binds, scope.names.lookup y.1 = some .local)
    (h : ∀ g L' h₁, g = hideAll s.heap ch → L' = s.heap.objs.size → Cx w mg mb n (A.deeper (envOf qual scope L' f cdv)) g L' → Fr g L' h₁ (fun y => binds.reverse.lookup y) → (∀ b o, s.heap.get? b = some o → h₁.get? b = some o) →
      wpAny (model prog w) (A.deeper (envOf qual scope L' f cdv)) (execs body (envOf qual scope L' f cdv))
        (fun fl s' => RetR s g L' R (match fl with | .ret v => v | _ => .none) s') (fun _ _ => False) { s with heap := h₁, toks := s.toks + binds.length })
    (hQ : ∀ v h' tk, R v h' → Kp ch s.heap h' → Fr h₀ L h' m → RR (.ok (.ret v)) { s with heap := h', toks := tk })
    (hcell : ∀ x ∈ scope.names, x.2 ≠ .cell) (hco : scope.isCoroutine = false) (hgen : scope.isGenerator = false) (hk : scope.kind = .function) : codeAny (model prog w) A (.call (.ref f) ⟨pos, []⟩) RR s := by
  walk_at "hideG"
  (refine Mine.exE4A3 C.st ?_; intro env outer base A₀ B hA hf hke)
  have nm : ∀ b o, h₀.get? b = some o → b ∉ ch := fun b o e q => by
    have := (hch b q).1
    rw [e] at this; cases this
  have st : h₀.StaysIn (hideAll s.heap ch) := fun b o e => hideAll_get _ (F.keep b o e) (nm b o e)
  (refine Mine.exE3A3 F.ns ?_; intro oL es ep hL hLd hLk hLf)
  walk_at "showG"
  have nL : L ∉ ch := fun q => (hch L q).2 rfl
  have hLg := hideAll_get ch hL nL
  have B₁ := pushX B F hf hke
  have BG : Below A base (env :: outer) (hideAll s.heap ch) := ⟨hA, fun b o e => st b o (B.stays b o e), funFrames_hideAll B₁.frames fun env' he b hb hf' => by
    cases he with
    | head => exact nL ((Option.some.inj (hf.symm.trans hf') : L = b) ▸ hb)
    | tail _ he =>
      (refine Mine.exE2A1 (funFrames_in B.frames env' he) ?_; intro L₁ o₁ hf₁ ho₁)
      rw [hf₁] at hf'
      exact nm L₁ o₁ ho₁ ((Option.some.inj hf' : L₁ = b) ▸ hb)⟩
  have hdp : A.depth < recursionLimit := by have := C.dp; show A.depth < 1000; omega
  refine codeAny_call_def (fd := fnOf name qual params body scope dV kV doc pm an cdv ct) (body := body) (binds := binds) hdp ((C.G.X.keeps F.keep) _ _ ho) rfl (C.G.T.nolimit.keeps F.keep) (codeRec_of (C.G.X.keeps F.keep) hcd) rfl hbind hcell hloc (fun h₁ hns hk₁ => ?_) hco hgen hk
  refine wpAny_mono (h _ s.heap.objs.size h₁ rfl rfl ⟨C.G.keeps st, (Mine.mkE4 _ _ _ _ ⟨BG, Around.frames_deeper hA, rfl, hk⟩), C.hh, ?_, ?_⟩ ⟨hns, fun b o e => hk₁ b o (of_hideAll _ e), Nat.le_of_eq (hideAll_size _ _)⟩ hk₁) (fun fl s' hl => ?_) fun _ _ y => y.elim
  · have := C.dp; show A.depth + 1 + n ≤ 900; omega
  · have := C.un; show A.units + 3 + 5 * n ≤ 5000; omega
  · (refine Mine.exE3A2 hl ?_; (try clear hl); intro h' tk m' hsb192 F' hR; subst hsb192)
    refine hQ _ _ _ hR (fun b o hb e => F'.keep b o (hideAll_get _ e hb)) ?_
    exact ⟨(Mine.mkE3 oL es ep ⟨F'.keep L oL hLg, hLd, hLk, hLf⟩), fun b o e => F'.keep b o (st b o e), F.above⟩
end

theorem dx_of {h : Heap} {a : StA} {e ck : Value} {k0 k1 k2 k3 k4 k5 k6 k7 k8 : Int} {t0 t1 t2 t3 t4 t5 t6 t7 t8 : Tok} {n : Nat}
    (H : h.get? a.dx = some (dictOf [⟨k0, .str (Str.ofString "clauses") t0, .ref a.cl⟩, ⟨k1, .str (Str.ofString "places") t1, .ref a.pl⟩, ⟨k2, .str (Str.ofString "held") t2, .ref a.he⟩, ⟨k3, .str (Str.ofString "open") t3, .ref a.op⟩,
      ⟨k4, .str (Str.ofString "begun") t4, .ref a.be⟩, ⟨k5, .str (Str.ofString "empty") t5, e⟩, ⟨k6, .str (Str.ofString "taken") t6, .ref a.ta⟩, ⟨k7, .str (Str.ofString "trail") t7, .ref a.tr⟩, ⟨k8, .str (Str.ofString "clash") t8, ck⟩] n)) : DxAt h a e ck :=
  (Mine.mkE3 (fun i => match i with | 0 => k0 | 1 => k1 | 2 => k2 | 3 => k3 | 4 => k4 | 5 => k5 | 6 => k6 | 7 => k7 | _ => k8) (fun i => match i with | 0 => t0 | 1 => t1 | 2 => t2 | 3 => t3 | 4 => t4 | 5 => t5 | 6 => t6 | 7 => t7 | _ => t8) n H)

theorem under_type {w : World} {mg mb : Str → Option Value} {n : Nat} {A : Around} {h₀ : Heap} {L : Addr} {C : Addr} {pos : List Value} (X : Cx w mg mb (n + 1) A h₀ L) : Cx w mg mb n (A.under (.builtin "type.__call__" ⟨.ref C :: pos, []⟩)) h₀ L := by
  refine ⟨X.G, ?_, X.hh, ?_, ?_⟩
  · (refine Mine.exE4A3 X.st ?_; intro env outer base A₀ B hA hf hke)
    exact (Mine.mkE4 env outer base A₀ ⟨B, hA, hf, hke⟩)
  · have h1 : Code.weight (.builtin "type.__call__" ⟨.ref C :: pos, []⟩) = 1 := by kernel_rfl
    have := X.dp
    show A.depth + Code.weight (.builtin "type.__call__" ⟨.ref C :: pos, []⟩) + n ≤ 900
    rw [h1]; omega
  · have h1 : Code.cUnits (.builtin "type.__call__" ⟨.ref C :: pos, []⟩) = 1 := by kernel_rfl
    have := X.un
    show A.units + Code.cUnits (.builtin "type.__call__" ⟨.ref C :: pos, []⟩) + 5 * n ≤ 5000
    rw [h1]; omega

section
variable {w : World} {mg mb : Str → Option Value} {n : Nat} {A : Around} {h₀ : Heap} {L : Addr} {m : Str → Option Value} {s : Shared} {E : Value → Shared → Prop} {Q : Value → Shared → Prop}
inductive MkJ (w : World) (a : StA) (cs : List (List Int)) (g h1 : Heap) (L' I : Addr) (m0 : Str → Option Value) (i : Nat) (m : Str → Option Value) (h : Heap) : Prop
  | mk (ps : List Addr) (S : StepsAt w h a ps (cs.take i) [] (-1, 0)) (O : StOk a ps) (hp : ∀ p ∈ ps, g.get? p = none ∧ p ≠ L' ∧ p ≠ I ∧ h1.get? p = none) (hm : ∀ y, [Str.ofString "clause"].contains y = false → m y = m0 y) : MkJ w a cs g h1 L' I m0 i m h

theorem make_spec {ca : Addr} {cs : List (List Int)} (C : Cx w mg mb (n + 3) A h₀ L) (F : Fr h₀ L s.heap m) (hcs : ClausesAt s.heap ca cs) (hcaL : ca ≠ L) (hcok : ∀ c ∈ cs, ClauseOk c) (hlc : cs.length ≤ 40)
    (hQ : ∀ a ps h' tk, StepsAt w h' a ps cs [] (-1, 0) → StOk a ps → (∀ b ∈ (([a.x, a.dx, a.cl, a.pl, a.he, a.op, a.be, a.ta, a.tr] : List Nat) ++ ps), s.heap.get? b = none) → Kp [L] s.heap h' → Fr h₀ L h' m → Q (.ref a.x) { s with heap := h', toks := tk }) :
    wpAny (model PP w) A (call (.ref 74) [.ref ca]) Q E s := by
  have X := C.G.X
  have T := C.G.T
  have hh := C.hh
  have N : News h₀ L s.heap (snap h₀ L s.heap []) := snap_news
  refine' call_cls F X N ?k4 ?k5 ?k6 ?_
  case k4 => k_is
  case k5 => k_is
  case k6 => k_is
  intro x dx h1 F1 N1 l1 l2
  have hkp1 : Kp [L] s.heap h1 := snap_keep F.keep F1 (fun r hr => N1 r (.tail _ (.tail _ hr)))
  have C1 := under_type (C := 74) (pos := [.ref ca]) C
  have hfresh : ∀ b : Nat, dx ≤ b → h₀.get? b = none → b ≠ L → s.heap.get? b = none := fun b hb h0 hL => by
    cases e : s.heap.get? b with
    | none => rfl
    | some o => exact absurd (Nat.lt_of_lt_of_le (l1 (b, o) (mem_snap.mpr ⟨e, h0, hL, fun h => nomatch h⟩)) hb) (Nat.lt_irrefl _)
  have hxn : s.heap.get? x = none := hfresh x (Nat.le_of_lt l2) (N1 _ (.head _)).2.2 (N1 _ (.head _)).2.1
  have hdn : s.heap.get? dx = none := hfresh dx (Nat.le_refl _) (N1 _ (.tail _ (.head _))).2.2 (N1 _ (.tail _ (.head _))).2.1
  have hold1 : ∀ b, h1.get? b = none → s.heap.get? b = none := fun b hb => by
    cases e : s.heap.get? b with
    | none => rfl
    | some o =>
      by_cases hL : b = L
      · (refine Mine.exE3A1 F1.ns ?_; intro oL _ _ hL0 _)
        rw [hL, hL0] at hb; cases hb
      · have := hkp1 b o (by simpa using hL) e
        rw [hb] at this; cases this
  have hdx1 := (N1 _ (.tail _ (.head _))).1
  have gd1 := (N1 _ (.tail _ (.head _))).2
  have gx1 := (N1 _ (.head _)).1
  have hcs1 : ClausesAt h1 ca cs := hcs.kp hkp1 (by simpa using hcaL) (Mine.Fr.noTup F)
  clear N1 N
  refine' codeR (s := { s with heap := h1 }) (binds := [(Str.ofString "self", .ref x), (Str.ofString "clauses", .ref ca)]) (R := fun v h' => v = .none ∧ ∃ a ps, a.x = x ∧ a.dx = dx ∧ StepsAt w h' a ps cs [] (-1, 0) ∧ StOk a ps ∧ (∀ b ∈ (([a.cl, a.pl, a.he, a.op, a.be, a.ta, a.tr] : List Nat) ++ ps), h1.get? b = none)) [dx] C1 F1 ?hmut ?ho ?hcd ?hb ?hl ?h ?hQ ?hcell ?c1 ?c2 ?c3
  case hmut => exact List.forall_mem_cons.mpr ⟨⟨gd1.2, gd1.1⟩, fun _ h => nomatch h⟩
  case ho => exact rfl
  case hcd => exact rfl
  case hb => exact BindsTo.of_eq rfl
  case hl => exact locs rfl
  case hcell => decide
  case c1 => rfl
  case c2 => rfl
  case c3 => rfl
  case hQ =>
    intro v h' tk hjo3 hk' F'
    walk_at "hideG"
    (refine Mine.exA1 hjo3 ?_; (try clear hjo3); intro hsb193 hrun196; refine Mine.exE2 hrun196 ?_; clear hrun196; intro a ps hrun197; refine Mine.exA4 hrun197 ?_; clear hrun197; intro hsb194 hsb195 hS hO hnew; subst hsb193; subst hsb194; subst hsb195)
    walk_at "showG"
    refine ⟨rfl, hQ _ _ _ _ hS hO ?_ (fun b o hb e => hk' _ _ (fun hm => ?_) (hkp1 _ _ hb e)) F'⟩
    · exact List.forall_mem_cons.mpr ⟨hxn, List.forall_mem_cons.mpr ⟨hdn, fun b hb => hold1 b (hnew b hb)⟩⟩
    · rw [List.mem_singleton] at hm
      rw [hm, hdn] at e; cases e
  case h =>
    intro g L' h₁ hg hL' C' F' hk₁
    have X := C'.G.X
    have T := C'.G.T
    have hh := C'.hh
    have hdx := hk₁ _ _ hdx1
    have gx : g.get? x = some (instObj 74 dx) := by rw [hg]; exact hideAll_get _ gx1 (Mine.nmc (Nat.ne_of_gt l2) Mine.nm0)
    have N2 : News g L' h₁ [(dx, dictOf [] 0)] := List.forall_mem_cons.mpr ⟨by rw [hg, hL']; exact news_of hdx1 (by simp) hk₁, fun _ h => nomatch h⟩
    have hgk : ∀ b o, b ≠ dx → h1.get? b = some o → g.get? b = some o := fun b o hb e => by rw [hg]; exact hideAll_get _ e (by simpa using hb)
    clear hdx hk₁
    have hL1 : @LT.lt Nat _ L' h₁.objs.size := F'.ns.lt
    (repeat' (walk_at "go"))
    rename News _ _ _ _ => N9
    rename Fr _ _ _ _ => F9
    rename_i tk8 cl h16 l17 h15 tk7 pl h14 opl lopl hspl fspl hipl fipl l16 h13 tk6 he h12 l15 h11 tk5 op h10 l14 h9a tk4 be h8 l13 h7 tk3 h6 tk2 ta h5 ota lota hsta fsta hita fita l12 h4 tk1 tr h3 l11 h2 tk0 kc hz1 Fz Nz l10 h9
    walk_at "hideG"
    (refine Mine.exE1 (show ∃ a : StA, a = ⟨x, dx, cl, pl, he, op, be, ta, tr⟩ from ⟨_, rfl⟩) ?_; intro a ha)
    have hxlt : @LT.lt Nat _ x L' := by rw [hL']; exact Heap.lt_size gx1
    have hdlt : @LT.lt Nat _ dx L' := by rw [hL']; exact Heap.lt_size hdx1
    have gdx := N9 _ (.tail _ (.tail _ (.tail _ (.tail _ (.tail _ (.tail _ (.tail _ (.tail _ (.head _)))))))))
    have gcl := N9 _ (.tail _ (.tail _ (.tail _ (.tail _ (.tail _ (.tail _ (.tail _ (.head _))))))))
    have gpl := N9 _ (.tail _ (.tail _ (.tail _ (.tail _ (.tail _ (.tail _ (.head _)))))))
    have ghe := N9 _ (.tail _ (.tail _ (.tail _ (.tail _ (.tail _ (.head _))))))
    have gop := N9 _ (.tail _ (.tail _ (.tail _ (.tail _ (.head _)))))
    have gbe := N9 _ (.tail _ (.tail _ (.tail _ (.head _))))
    have gta := N9 _ (.tail _ (.tail _ (.head _)))
    have gtr := N9 _ (.tail _ (.head _))
    have gkc := N9 _ (.head _)
    have hdisj : ∀ b, g.get? b = none → b ≠ dx → h1.get? b = none := fun b hb hd => by
      cases e : h1.get? b with
      | none => rfl
      | some o => have := hgk b o hd e; rw [hb] at this; cases this
    have S0 : StepsAt w h9 a [] [] [] (-1, 0) := by
      subst ha
      exact ⟨F9.keep _ _ gx, (Mine.mkE2A1 _ kc (dx_of gdx.1) (Mine.mkE3 _ _ _ gkc.1)), (Mine.mkE2A2 ([]) 0 gcl.1 rfl (fun i x c h => nomatch h)), (Mine.mkE2 opl ([]) ⟨gpl.1, hipl, (fun k v h => nomatch h), (fun k _ => rfl), (fun k k' v h => nomatch h), Nat.le_refl _, fun p hp => nomatch hp⟩),
        (Mine.mkE2A1 ([]) 0 ghe.1 (.nil)), (Mine.mkE2A1 ([]) 0 gop.1 (.nil)), (Mine.mkE2A2 ([]) 0 gbe.1 rfl (fun i x c h => nomatch h)), (Mine.mkE1A1 ota gta.1 hita), (fun q hq => nomatch hq), (Mine.mkE2A1 ([]) 0 gtr.1 (.nil))⟩
    have hxb : ∀ b : Nat, g.get? b = none → x ≠ b := fun b hb e => by rw [e, hb] at gx; cases gx
    have O0 : StOk a [] := by
      subst ha
      refine ⟨?_, lopl, lota⟩
      have hp : ([dx, cl, pl, he, op, be, ta, tr] : List Nat).Pairwise (· < ·) := (.cons (fac l17 (fac l16.2 (fac l15.2.2 (fac l14.2.2.2 (fac l13.2.2.2.2 (fac l12.2.2.2.2.2 (fac l11.2.2.2.2.2.2 fa0))))))) (.cons (fac l16.1 (fac l15.2.1 (fac l14.2.2.1 (fac l13.2.2.2.1 (fac l12.2.2.2.2.1 (fac l11.2.2.2.2.2.1 fa0)))))) (.cons (fac l15.1 (fac l14.2.1 (fac l13.2.2.1 (fac l12.2.2.2.1 (fac l11.2.2.2.2.1 fa0))))) (.cons (fac l14.1 (fac l13.2.1 (fac l12.2.2.1 (fac l11.2.2.2.1 fa0)))) (.cons (fac l13.1 (fac l12.2.1 (fac l11.2.2.1 fa0))) (.cons (fac l12.1 (fac l11.2.1 fa0)) (.cons (fac l11.1 fa0) (.cons fa0 .nil))))))))
      rw [List.append_nil]
      exact List.nodup_cons.mpr ⟨(nmc (Nat.ne_of_gt l2) (nmc (hxb _ gcl.2.2) (nmc (hxb _ gpl.2.2) (nmc (hxb _ ghe.2.2) (nmc (hxb _ gop.2.2) (nmc (hxb _ gbe.2.2) (nmc (hxb _ gta.2.2) (nmc (hxb _ gtr.2.2) nm0)))))))), hp.imp fun h e => Nat.ne_of_lt h e⟩
    have hmutA : ∀ b ∈ ([a.dx, a.cl, a.pl, a.he, a.op, a.be, a.ta, a.tr] : List Nat), g.get? b = none ∧ b ≠ L' := by
      subst ha
      exact (Mine.fac (⟨gdx.2.2, gdx.2.1⟩) (Mine.fac (⟨gcl.2.2, gcl.2.1⟩) (Mine.fac (⟨gpl.2.2, gpl.2.1⟩) (Mine.fac (⟨ghe.2.2, ghe.2.1⟩) (Mine.fac (⟨gop.2.2, gop.2.1⟩) (Mine.fac (⟨gbe.2.2, gbe.2.1⟩) (Mine.fac (⟨gta.2.2, gta.2.1⟩) (Mine.fac (⟨gtr.2.2, gtr.2.1⟩) Mine.fa0))))))))
    have hnewA : ∀ b ∈ ([a.cl, a.pl, a.he, a.op, a.be, a.ta, a.tr] : List Nat), h1.get? b = none := by
      subst ha
      exact (fac (hdisj _ gcl.2.2 (Nat.ne_of_gt (l17))) (fac (hdisj _ gpl.2.2 (Nat.ne_of_gt (l16.2))) (fac (hdisj _ ghe.2.2 (Nat.ne_of_gt (l15.2.2))) (fac (hdisj _ gop.2.2 (Nat.ne_of_gt (l14.2.2.2))) (fac (hdisj _ gbe.2.2 (Nat.ne_of_gt (l13.2.2.2.2))) (fac (hdisj _ gta.2.2 (Nat.ne_of_gt (l12.2.2.2.2.2))) (fac (hdisj _ gtr.2.2 (Nat.ne_of_gt (l11.2.2.2.2.2.2))) fa0)))))))
    have hax : a.x = x := by rw [ha]
    have hadx : a.dx = dx := by rw [ha]
    have hlive : ∀ b ∈ ([a.x, a.dx, a.cl, a.pl, a.he, a.op, a.be, a.ta, a.tr] : List Nat), ∃ o, h9.get? b = some o := fun b hb => S0.live b (List.mem_append_left _ hb)
    have hxL : a.x ≠ L' := by rw [hax]; exact Nat.ne_of_lt hxlt
    (refine Mine.exE2A2 (id hcs1) ?_; intro as na hca1 hal haf)
    have gca : g.get? ca = some (W.listOf (as.map Value.ref).toArray na) := hgk _ _ (fun e => by rw [e, hdx1] at hca1; have := congrArg Obj.cls (Option.some.inj hca1); simp at this) hca1
    have gaf : ∀ (i : Nat) x c, as[i]? = some x → cs[i]? = some c → TupInts g x c := fun i x c h1 h2 => by
      (refine Mine.exE2A1 (haf i x c h1 h2) ?_; intro vs n e hi)
      exact (Mine.mkE2A1 vs n (hgk _ _ (fun q => by rw [q, hdx1] at e; have := congrArg Obj.cls (Option.some.inj e); simp at this) e) hi)
    clear gdx gcl gpl ghe gop gbe gta gtr gkc N9 Nz Fz l17 l16 l15 l14 l13 l12 l11 l10 hspl fspl hipl fipl hsta fsta hita fita
    (refine Mine.exE1A1 (Fr.gen F9) ?_; intro m0 hm0 F10)
    walk_at "showG"
    have ms : m0 (Str.ofString "self") = some (.ref a.x) := by rw [hm0, hax]; rfl
    clear F9 hm0
    refine' for_list_heap hh gca F10 (MkJ w a cs g h1 L' h9.objs.size m0) ?j0 ?hk ?turn ?done ?e1 ?e2
    case e1 => rfl
    case e2 => rfl
    case j0 => exact ⟨[], by rw [List.take_zero]; exact S0, O0, (fun p hp => nomatch hp), fun _ _ => rfl⟩
    case hk =>
      intro i m h h' hjo4 Fh hnt hkp
      walk_at "hideG"
      obtain ⟨ps, S, O, hps, hmm⟩ := hjo4
      walk_at "showG"
      refine ⟨ps, S.kp hkp ?_ (fun b hb hm => ?_), O, hps, hmm⟩
      · intro b hb vs n e
        rcases List.mem_cons.mp hb with h | h
        · exact hnt b (by rw [h]; exact .head _) vs n e
        · exact Mine.Fr.noTup Fh b h vs n e
      · rcases List.mem_append.mp hb with hb | hb
        · (refine Mine.exE1 (hlive b hb) ?_; intro o ho)
          rcases List.mem_cons.mp hm with h | h
          · exact Nat.lt_irrefl _ (h ▸ Heap.lt_size ho)
          · rw [List.mem_singleton] at h
            rcases List.mem_cons.mp hb with e | hb
            · exact hxL (e ▸ h)
            · exact (hmutA b hb).2 h
        · rcases List.mem_cons.mp hm with h | h
          · exact (hps b hb).2.2.1 h
          · exact (hps b hb).2.1 (List.mem_singleton.mp h)
    case turn =>
      intro i v m₁ h tk' oI hv hjo7 hI F3
      walk_at "hideG"
      obtain ⟨ps, S, O, hps, hmm⟩ := hjo7
      rw [ovr_eq hmm] at F3
      (refine Mine.exE2 (clauseItem hal gaf hv) ?_; intro xc c hrun199; refine Mine.exA3 hrun199 ?_; clear hrun199; intro hsb198 hci hcm hxc; subst hsb198)
      (refine Mine.exE2A1 (id S.dx) ?_; intro tte kc' hnst200 hck; obtain ⟨hs, ts, nd, hdx⟩ := hnst200)
      walk_at "showG"
      have N3 : News g L' h ((a.dx, dictOf (stEs hs ts a (.int (emptyOf (cs.take i)) tte) (.ref kc')) nd) :: snap g L' h [a.dx]) := List.forall_mem_cons.mpr ⟨⟨hdx, (hmutA _ (by simp)).2, (hmutA _ (by simp)).1⟩, snap_news⟩
      have hxd : ∀ r ∈ snap g L' h [a.dx], r.1 ≠ a.dx := snap_off (by simp)
      have gax : g.get? a.x = some (instObj 74 a.dx) := by rw [hax, hadx]; exact gx
      generalize hSN : snap g L' h [a.dx] = SN at N3 hxd
      (repeat' (walk_at "go"))
      rename Fr _ _ _ _ => F4
      refine' add_spec (a := a) (ps := ps) (cs := cs.take i) (c := c) (ck := (-1, 0)) C' ?aF S O ?ax (hcok c hcm) ?am ?al ?_
      case aF => exact F4
      case ax => exact hxc.keeps F4.keep
      case am =>
        intro b hb
        rcases List.mem_append.mp hb with hb | hb
        · exact hmutA b (by simp only [List.mem_cons, List.not_mem_nil, or_false] at hb ⊢; rcases hb with h | h | h | h | h | h <;> simp [h])
        · exact ⟨(hps b hb).1, (hps b hb).2.1⟩
      case al => rw [List.length_take]; have := Nat.min_le_right i cs.length; omega
      intro ps' h5 tk5 S5 O5 hps5 hk5 F5
      have hIn : h9.objs.size ∉ ([a.dx, a.cl, a.pl, a.he, a.op, a.be] ++ ps : List Nat) := fun hm => by
        rcases List.mem_append.mp hm with hm | hm
        · (refine Mine.exE1 (hlive (h9.objs.size) (by simp only [List.mem_cons, List.not_mem_nil, or_false] at hm ⊢; rcases hm with h | h | h | h | h | h <;> simp [h])) ?_; intro o ho)
          exact Nat.lt_irrefl _ (Heap.lt_size ho)
        · exact (hps _ hm).2.2.1 rfl
      (repeat' (walk_at "go"))
      rename Fr _ _ _ _ => F6
      refine turnH F6 (hk5 _ _ hIn hI) ⟨ps', ?_, O5, fun p hp => ?_, ovr_set ovr_ovr rfl⟩
      · rw [List.take_add_one, hci]; exact S5
      · rcases hps5 p hp with h' | h'
        · exact hps p h'
        · dsimp only at h'
          refine ⟨?_, fun e => ?_, fun e => ?_, ?_⟩
          · cases e : g.get? p with
            | none => rfl
            | some o => have := F4.keep _ _ e; rw [h'] at this; cases this
          · (refine Mine.exE3A1 F4.ns ?_; intro oL _ _ hL0 _)
            rw [e] at h'; exact nomatch (h'.symm.trans hL0)
          · rw [e] at h'; exact nomatch (h'.symm.trans hI)
          · refine hdisj p ?_ (fun e => ?_)
            · cases e : g.get? p with
              | none => rfl
              | some o => have := F4.keep _ _ e; rw [h'] at this; cases this
            · rw [e, ← hadx] at h'; exact nomatch (h'.symm.trans hdx)
    case done =>
      intro h tk' m' F3 hjo4
      walk_at "hideG"
      obtain ⟨ps, S, O, hps, hmm⟩ := hjo4
      walk_at "showG"
      have ht : cs.take (as.map Value.ref).toArray.size = cs := List.take_of_length_le (by simp; omega)
      rw [ht] at S
      (repeat' (walk_at "go")); (try dsimp only)
      (repeat' (walk_at "go"))
      rename Fr _ _ _ _ => F6
      refine retR F6 ⟨rfl, (Mine.mkE2 a ps ⟨hax, hadx, S, O, fun b hb => ?_⟩)⟩
      rcases List.mem_append.mp (show b ∈ ([a.cl, a.pl, a.he, a.op, a.be, a.ta, a.tr] : List Nat) ++ ps from hb) with hb | hb
      · exact hnewA b hb
      · exact (hps b hb).2.2.2
end

/-! part J1 -/
set_option maxHeartbeats 4000000

theorem News.turn {g h h' : Heap} {L : Addr} {pre post : List (Addr × Obj)} {b : Addr} {o o' : Obj} (N : News g L h (pre ++ (b, o) :: post)) (k : Kp [b] h h') (ho : h'.get? b = some o') (off : ∀ q ∈ pre ++ post, q.1 ≠ b) : News g L h' (pre ++ (b, o') :: post) := fun q hq => by
  rcases List.mem_append.mp hq with h1 | h1
  · have := N q (List.mem_append_left _ h1)
    exact ⟨k _ _ (by simpa using off q (List.mem_append_left _ h1)) this.1, this.2⟩
  · rcases List.mem_cons.mp h1 with rfl | h1
    · exact ⟨ho, (N (b, o) (List.mem_append_right _ (.head _))).2⟩
    · have := N q (List.mem_append_right _ (.tail _ h1))
      exact ⟨k _ _ (by simpa using off q (List.mem_append_right _ h1)) this.1, this.2⟩
theorem News.off {g h h' : Heap} {L : Addr} {news : List (Addr × Obj)} {ch : List Addr} (N : News g L h news) (k : Kp ch h h') (off : ∀ q ∈ news, q.1 ∉ ch) : News g L h' news := fun q hq => ⟨k _ _ (off q hq) (N q hq).1, (N q hq).2⟩

/-- tuples of ints in a ledger -/
def TupsIn (ex : List (Addr × Obj)) (as : List Addr) (cs : List (List Int)) : Prop := as.length = cs.length ∧ ∀ (i : Nat) x c, as[i]? = some x → cs[i]? = some c → ∃ vs n, (x, ({ cls := .type "tuple", data := .seq (List.toArray vs) n } : Obj)) ∈ ex ∧ IntsAre vs c
theorem TupsIn.more {ex : List (Addr × Obj)} {as : List Addr} {cs : List (List Int)} (T : TupsIn ex as cs) {a : Addr} {c : List Int} {vs : List Value} {n : Nat} (hi : IntsAre vs c) : TupsIn ((a, { cls := .type "tuple", data := .seq (List.toArray vs) n }) :: ex) (as ++ [a]) (cs ++ [c]) := by
  refine ⟨by simp [T.1], fun i x d h1 h2 => ?_⟩
  by_cases hi' : i < as.length
  · rw [List.getElem?_append_left hi'] at h1
    rw [List.getElem?_append_left (T.1 ▸ hi')] at h2
    (refine Mine.exE2A1 (T.2 i x d h1 h2) ?_; intro vs n hm hv)
    exact (Mine.mkE2A1 vs n (.tail _ hm) hv)
  · rw [List.getElem?_append_right (by omega)] at h1
    rw [List.getElem?_append_right (by have := T.1; omega)] at h2
    have e : i - as.length = 0 := by
      rcases Nat.eq_zero_or_pos (i - as.length) with h | h
      · exact h
      · rw [List.getElem?_eq_none (by simp; omega)] at h1; cases h1
    rw [e] at h1
    rw [← T.1, e] at h2
    cases h1; cases h2
    exact (Mine.mkE2A1 vs n (.head _) hi)
theorem CoinAt.keeps {w : World} {h h' : Heap} {c cl : Addr} {k : Int} (K : CoinAt w h c cl k) (kp : ∀ b o, h.get? b = some o → h'.get? b = some o) : CoinAt w h' c cl k := by
  walk_at "hideG"
  obtain ⟨⟨o, t, h1, h2⟩, ⟨vs, ns, n, h3, h4⟩, h5⟩ := K
  walk_at "showG"
  exact ⟨(Mine.mkE2A1 o t (kp _ _ h1) h2), (Mine.mkE3 vs ns n ⟨kp _ _ h3, h4⟩), h5⟩
theorem CoinAt.kp {w : World} {h h' : Heap} {c cl : Addr} {k : Int} {ch : List Addr} (K : CoinAt w h c cl k) (kp : Kp ch h h') (h1 : c ∉ ch) (h2 : cl ∉ ch) : CoinAt w h' c cl k := by
  walk_at "hideG"
  obtain ⟨⟨o, t, e1, e2⟩, ⟨vs, ns, n, h3, h4⟩, h5⟩ := K
  walk_at "showG"
  exact ⟨(Mine.mkE2A1 o t (kp _ _ h1 e1) e2), (Mine.mkE3 vs ns n ⟨kp _ _ h2 h3, h4⟩), h5⟩
theorem CoinAt.obj {w : World} {h : Heap} {c cl : Addr} {k : Int} (K : CoinAt w h c cl k) : ∃ (o : Obj) (t : Tok), h.get? c = some o ∧ o.IsDictOf (strKind PP w) [(Str.ofString "cells", .ref cl), (Str.ofString "flips", .int k t)] := K.dict


/-- one list alone holds given ints in strict order -/
theorem sorted_one : ∀ {xs ys : List Int}, xs.Pairwise (fun a b => a.natAbs < b.natAbs) → ys.Pairwise (fun a b => a.natAbs < b.natAbs) → (∀ l, l ∈ xs ↔ l ∈ ys) → xs = ys
  | [], ys, _, _, h => (List.eq_nil_iff_forall_not_mem.mpr fun l hl => nomatch (h l).mpr hl).symm
  | x :: xs, [], _, _, h => nomatch (h x).mp (.head _)
  | x :: xs, y :: ys, hx, hy, h => by
    rw [List.pairwise_cons] at hx hy
    have e : x = y := by
      rcases List.mem_cons.mp ((h x).mp (.head _)) with e | h1
      · exact e
      · rcases List.mem_cons.mp ((h y).mpr (.head _)) with e | h2
        · exact e.symm
        · have := hy.1 x h1
          have := hx.1 y h2
          omega
    subst e
    rw [sorted_one hx.2 hy.2 fun l => ?_]
    constructor
    · intro hl
      rcases List.mem_cons.mp ((h l).mp (.tail _ hl)) with e | h1
      · have := hx.1 l hl; rw [e] at this; exact absurd this (Nat.lt_irrefl _)
      · exact h1
    · intro hl
      rcases List.mem_cons.mp ((h l).mpr (.tail _ hl)) with e | h1
      · have := hy.1 l hl; rw [e] at this; exact absurd this (Nat.lt_irrefl _)
      · exact h1
theorem strict_of {xs : List Int} (h1 : xs.Nodup) (h2 : ∀ l ∈ xs, -l ∉ xs) (h3 : xs.Pairwise fun a b => a.natAbs ≤ b.natAbs) : xs.Pairwise fun a b => a.natAbs < b.natAbs := by
  induction xs with
  | nil => exact .nil
  | cons x xs ih =>
    rw [List.pairwise_cons] at h3 ⊢
    rw [List.nodup_cons] at h1
    refine ⟨fun y hy => ?_, ih h1.2 (fun l hl hn => h2 l (.tail _ hl) (.tail _ hn)) h3.2⟩
    have a := h3.1 y hy
    rcases Nat.lt_or_ge x.natAbs y.natAbs with h | h
    · exact h
    · exfalso
      have e : x.natAbs = y.natAbs := Nat.le_antisymm a h
      rcases Int.natAbs_eq_natAbs_iff.mp e with e | e
      · exact h1.1 (e ▸ hy)
      · exact h2 x (.head _) (.tail _ (by rw [e, Int.neg_neg]; exact hy))
theorem found_one {cs : List (List Int)} {asked xs ys : List Int} (a1 : ∀ l, l ∈ xs ↔ Der cs asked l) (a2 : xs.Nodup) (a3 : ∀ l ∈ xs, -l ∉ xs) (a4 : xs.Pairwise fun a b => a.natAbs ≤ b.natAbs)
    (b1 : ∀ l, l ∈ ys ↔ Der cs asked l) (b2 : ys.Nodup) (b3 : ∀ l ∈ ys, -l ∉ ys) (b4 : ys.Pairwise fun a b => a.natAbs ≤ b.natAbs) : xs = ys :=
  sorted_one (strict_of a2 a3 a4) (strict_of b2 b3 b4) fun l => (a1 l).trans (b1 l).symm

/-- literals that may be taken, one behind the other -/
structure LitsOk (ls : List Int) : Prop where
  nz : ∀ l ∈ ls, l ≠ 0
  nd : (ls.map Int.natAbs).Nodup
theorem LitsOk.of {c : List Int} (h : ClauseOk c) : LitsOk c := ⟨fun l hl => (h.1 l hl).1, List.pairwise_map.mpr (h.2.imp fun h => Nat.ne_of_lt h)⟩
theorem LitsOk.perm {xs ys : List Int} (h : LitsOk xs) (p : xs.Perm ys) : LitsOk ys := ⟨fun l hl => h.nz l (p.mem_iff.mpr hl), (p.map _).nodup_iff.mp h.nd⟩
theorem LitsOk.off {xs ys : List Int} {l : Int} (h : LitsOk (xs ++ ys)) (hl : l ∈ xs) : l ∉ ys ∧ -l ∉ ys := by
  have h2 := h.nd
  rw [List.map_append, List.nodup_append] at h2
  exact ⟨fun hm => h2.2.2 _ (List.mem_map.mpr (Mine.mkE1A1 l hl rfl)) _ (List.mem_map.mpr (Mine.mkE1A1 l hm rfl)) rfl, fun hm => h2.2.2 _ (List.mem_map.mpr (Mine.mkE1A1 l hl rfl)) _ (List.mem_map.mpr (Mine.mkE1A1 (-l) hm rfl)) (Int.natAbs_neg l).symm⟩

/-- the places of all that the law holds -/
noncomputable def stp (a : StA) (ps : List Addr) : List Nat := ([a.x, a.dx, a.cl, a.pl, a.he, a.op, a.be, a.ta, a.tr] : List Nat) ++ ps
noncomputable def adr (L dd D9 ca : Nat) (a : StA) (ps : List Addr) : List Nat := ([L + 1, D9, ca, dd] : List Nat) ++ stp a ps
theorem adr_ne1 {ks : List Nat} {L dd D9 ca b : Nat} {a : StA} {ps : List Addr} (h : b ∉ ks ++ adr L dd D9 ca a ps) : @Ne Nat b (L + 1) := nem h (List.mem_append_right _ (List.mem_append_left _ (by walk_at "mem")))
theorem adr_nec {ks : List Nat} {L dd D9 ca b : Nat} {a : StA} {ps : List Addr} (h : b ∉ ks ++ adr L dd D9 ca a ps) : @Ne Nat b ca := nem h (List.mem_append_right _ (List.mem_append_left _ (by walk_at "mem")))
theorem adr_ned {ks : List Nat} {L dd D9 ca b : Nat} {a : StA} {ps : List Addr} (h : b ∉ ks ++ adr L dd D9 ca a ps) : @Ne Nat b dd := nem h (List.mem_append_right _ (List.mem_append_left _ (by walk_at "mem")))
theorem adr_stp {ks : List Nat} {L dd D9 ca b : Nat} {a : StA} {ps : List Addr} (h : b ∉ ks ++ adr L dd D9 ca a ps) : b ∉ stp a ps := fun m => h (List.mem_append_right _ (List.mem_append_right _ m))

structure LawW (w : World) (h₀ : Heap) (L dd D9 : Nat) (kept : List (Addr × Obj)) (ca : Nat) (a : StA) (ps : List Addr) (cs : List (List Int)) (kvs : List (Int × Value)) (ck : Int × Int) (k : Int) (h : Heap) : Prop where
  coin : CoinAt w h dd D9 k
  cell : ∃ oc, h.get? (L + 1) = some oc ∧ oc.data = .cell (some (.ref dd))
  cl : ClausesAt h ca cs
  st : StepsAt w h a ps cs kvs ck
  keep : ∀ q ∈ kept, h.get? q.1 = some q.2
  nd : ((kept.map (·.1) : List Nat) ++ adr L dd D9 ca a ps).Nodup
  new : ∀ b ∈ ((kept.map (·.1) : List Nat) ++ adr L dd D9 ca a ps), h₀.get? b = none ∧ b ≠ L
  lo1 : (a.pl == sysModules) = false
  lo2 : (a.ta == sysModules) = false
  cok : ∀ c ∈ cs, ClauseOk c

/-- all that stands there, as a ledger -/
inductive SnapF (h₀ : Heap) (L dd : Nat) (h : Heap) (front : List (Addr × Obj)) : Prop
  | mk (oc : Obj) (SN : List (Addr × Obj)) (dc : oc.data = .cell (some (.ref dd))) (N : News h₀ L h (front ++ (L + 1, oc) :: SN)) (hx : ∀ r ∈ SN, @Ne Nat r.1 (L + 1)) (hf : ∀ r ∈ SN, r.1 ∉ front.map (·.1)) (kk : ∀ h' m', Fr h₀ L h' m' → News h₀ L h' ((L + 1, oc) :: SN) → Kp (L :: front.map (·.1)) h h')
      (km : ∀ (q : Nat) o, h.get? q = some o → h₀.get? q = none → q ≠ L → q ≠ L + 1 → q ∉ front.map (·.1) → (q, o) ∈ SN) : SnapF h₀ L dd h front
inductive Snap0 (h₀ : Heap) (L dd : Nat) (h : Heap) : Prop
  | mk (oc : Obj) (SN : List (Addr × Obj)) (dc : oc.data = .cell (some (.ref dd))) (N : News h₀ L h ((L + 1, oc) :: SN)) (hx : ∀ r ∈ SN, @Ne Nat r.1 (L + 1)) (kk : ∀ h' m', Fr h₀ L h' m' → News h₀ L h' ((L + 1, oc) :: SN) → Kp [L] h h')
      (km : ∀ (q : Nat) o, h.get? q = some o → h₀.get? q = none → q ≠ L → q ≠ L + 1 → (q, o) ∈ SN) : Snap0 h₀ L dd h

section
variable {w : World} {h₀ h h' : Heap} {L dd D9 ca : Nat} {kept : List (Addr × Obj)} {a : StA} {ps : List Addr} {cs : List (List Int)} {kvs : List (Int × Value)} {ck : Int × Int} {k : Int}

theorem LawW.ok (W : LawW w h₀ L dd D9 kept ca a ps cs kvs ck k h) : StOk a ps := ⟨(List.nodup_append.mp (List.nodup_append.mp W.nd).2.1).2.1, W.lo1, W.lo2⟩
theorem LawW.live (W : LawW w h₀ L dd D9 kept ca a ps cs kvs ck k h) : ∀ b ∈ ((kept.map (·.1) : List Nat) ++ adr L dd D9 ca a ps), ∃ o, h.get? b = some o := fun b hb => by
  rcases List.mem_append.mp hb with hb | hb
  · (refine Mine.exE1A1 (List.mem_map.mp hb) ?_; intro q hq hsb201; subst hsb201)
    exact ⟨_, W.keep q hq⟩
  · rcases List.mem_append.mp hb with hb | hb
    · simp only [List.mem_cons, List.not_mem_nil, or_false] at hb
      rcases hb with rfl | rfl | rfl | rfl
      · (refine Mine.exE1A1 W.cell ?_; intro o e _); exact ⟨o, e⟩
      · (refine Mine.exE3A1 W.coin.cells ?_; intro _ _ _ e _); exact ⟨_, e⟩
      · (refine Mine.exE2A1 W.cl ?_; intro _ _ e _); exact ⟨_, e⟩
      · (refine Mine.exE2A1 W.coin.dict ?_; intro _ _ e _); exact ⟨_, e⟩
    · exact W.st.live b hb
theorem LawW.fresh (W : LawW w h₀ L dd D9 kept ca a ps cs kvs ck k h) {b : Nat} (hb : h.objs.size ≤ b) : b ∉ ((kept.map (·.1) : List Nat) ++ adr L dd D9 ca a ps) := fun hm => by
  (refine Mine.exE1 (W.live b hm) ?_; intro o e)
  exact Nat.lt_irrefl _ (Nat.lt_of_lt_of_le (Heap.lt_size e) hb)
/-- two of the groups are apart -/
theorem LawW.apart (W : LawW w h₀ L dd D9 kept ca a ps cs kvs ck k h) : (∀ b ∈ (kept.map (·.1) : List Nat), b ∉ adr L dd D9 ca a ps) ∧ (∀ b ∈ ([L + 1, D9, ca, dd] : List Nat), b ∉ stp a ps) ∧ dd ∉ ([L + 1, D9, ca] : List Nat) := by
  have h1 := List.nodup_append.mp W.nd
  have h2 := List.nodup_append.mp h1.2.1
  refine ⟨fun b hb hm => h1.2.2 b hb b hm rfl, fun b hb hm => h2.2.2 b hb b hm rfl, ?_⟩
  have h3 := h2.1
  simp only [List.nodup_cons, List.mem_cons, List.not_mem_nil, or_false, not_or] at h3 ⊢
  exact ⟨fun e => h3.1.2.2 e.symm, fun e => h3.2.1.2 e.symm, fun e => h3.2.2.1 e.symm⟩

theorem LawW.step {kvs' : List (Int × Value)} {ck' : Int × Int} {k' : Int} {ch : List Addr} (W : LawW w h₀ L dd D9 kept ca a ps cs kvs ck k h) (kp : Kp ch h h') (H : NoTup h ch) (hc : CoinAt w h' dd D9 k') (hs : StepsAt w h' a ps cs kvs' ck') (off : ∀ b ∈ ((kept.map (·.1) : List Nat) ++ [L + 1, ca]), b ∉ ch) : LawW w h₀ L dd D9 kept ca a ps cs kvs' ck' k' h' := by
  refine ⟨hc, ?_, W.cl.kp kp (off _ (by walk_at "sim")) H, hs, fun q hq => kp _ _ (off _ (List.mem_append_left _ (List.mem_map.mpr (Mine.mkE1A1 q hq rfl)))) (W.keep q hq), W.nd, W.new, W.lo1, W.lo2, W.cok⟩
  (refine Mine.exE1A1 W.cell ?_; intro o e d)
  exact (Mine.mkE1A1 o (kp _ _ (off _ (by walk_at "sim")) e) d)
theorem CoinAt.noTup {cl : Addr} {c : Addr} (K : CoinAt w h c cl k) : NoTup h [c] := fun b hb vs n e => by
  (refine Mine.exE2A1 K.dict ?_; intro o _ e1 d)
  (refine Mine.exE2A1 d ?_; (try clear d); intro _ _ x _)
  rw [List.mem_singleton.mp hb, e1] at e
  have := congrArg Obj.cls (Option.some.inj e)
  rw [x.1] at this; simp at this
theorem LawW.flip {k' : Int} (W : LawW w h₀ L dd D9 kept ca a ps cs kvs ck k h) (K : CoinAt w h' dd D9 k') (kp : Kp [dd] h h') : LawW w h₀ L dd D9 kept ca a ps cs kvs ck k' h' := by
  (refine Mine.exA2 W.apart ?_; intro h1 h2 h3)
  refine W.step kp W.coin.noTup K (W.st.kp kp W.coin.noTup fun b hb hm => ?_) fun b hb hm => ?_
  · rw [List.mem_singleton] at hm
    exact h2 dd (by walk_at "sim") (hm ▸ hb)
  · rw [List.mem_singleton] at hm
    rcases List.mem_append.mp hb with hb | hb
    · exact h1 b hb (by rw [hm]; simp [adr])
    · refine h3 (hm ▸ ?_)
      exact (by walk_at "sub" : ∀ p ∈ _, p ∈ _) _ hb
theorem LawW.kp {ch : List Addr} (W : LawW w h₀ L dd D9 kept ca a ps cs kvs ck k h) (kp : Kp ch h h') (H : NoTup h ch) (off : ∀ b ∈ ((kept.map (·.1) : List Nat) ++ adr L dd D9 ca a ps), b ∉ ch) : LawW w h₀ L dd D9 kept ca a ps cs kvs ck k h' :=
  W.step kp H (W.coin.kp kp (off _ (List.mem_append_right _ (List.mem_append_left _ (by walk_at "mem")))) (off _ (List.mem_append_right _ (List.mem_append_left _ (by walk_at "mem"))))) (W.st.kp kp H fun b hb => off b (List.mem_append_right _ (List.mem_append_right _ hb))) fun b hb => off b (by
    rcases List.mem_append.mp hb with h | h
    · exact List.mem_append_left _ h
    · refine List.mem_append_right _ (List.mem_append_left _ ?_)
      exact (by walk_at "sub" : ∀ p ∈ _, p ∈ _) _ h)
theorem LawW.keeps (W : LawW w h₀ L dd D9 kept ca a ps cs kvs ck k h) (kp : Kp [] h h') : LawW w h₀ L dd D9 kept ca a ps cs kvs ck k h' := W.kp kp (fun _ h => nomatch h) fun _ _ h => nomatch h
theorem LawW.steps {ch : List Addr} {kvs' : List (Int × Value)} {ck' : Int × Int} (W : LawW w h₀ L dd D9 kept ca a ps cs kvs ck k h) (kp : Kp ch h h') (H : NoTup h ch) (hs : StepsAt w h' a ps cs kvs' ck') (off : ∀ b ∈ ch, b ∈ stp a ps ∨ b ∉ ((kept.map (·.1) : List Nat) ++ adr L dd D9 ca a ps)) : LawW w h₀ L dd D9 kept ca a ps cs kvs' ck' k h' := by
  (refine Mine.exA2 W.apart ?_; intro h1 h2 h3)
  have o1 : ∀ b ∈ ([L + 1, D9, ca, dd] : List Nat), b ∉ ch := fun b hb hm => by
    rcases off b hm with h | h
    · exact h2 b hb h
    · exact h (List.mem_append_right _ (List.mem_append_left _ hb))
  refine W.step kp H (W.coin.kp kp (o1 _ (by walk_at "sim")) (o1 _ (by walk_at "sim"))) hs fun b hb hm => ?_
  rcases List.mem_append.mp hb with hb | hb
  · rcases off b hm with h | h
    · exact h1 b hb (List.mem_append_right _ h)
    · exact h (List.mem_append_left _ hb)
  · exact o1 b ((by walk_at "sub" : ∀ p ∈ _, p ∈ _) _ hb) hm
theorem LawW.more (W : LawW w h₀ L dd D9 kept ca a ps cs kvs ck k h) {q : Addr × Obj} (hq : h.get? q.1 = some q.2) (ho : q.1 ∉ ((kept.map (·.1) : List Nat) ++ adr L dd D9 ca a ps)) (hn : h₀.get? q.1 = none ∧ q.1 ≠ L) : LawW w h₀ L dd D9 (q :: kept) ca a ps cs kvs ck k h :=
  ⟨W.coin, W.cell, W.cl, W.st, List.forall_mem_cons.mpr ⟨hq, W.keep⟩, List.nodup_cons.mpr ⟨ho, W.nd⟩, List.forall_mem_cons.mpr ⟨hn, W.new⟩, W.lo1, W.lo2, W.cok⟩
theorem LawW.less {q : Addr × Obj} (W : LawW w h₀ L dd D9 (q :: kept) ca a ps cs kvs ck k h) : LawW w h₀ L dd D9 kept ca a ps cs kvs ck k h :=
  ⟨W.coin, W.cell, W.cl, W.st, fun p hp => W.keep p (.tail _ hp), (List.nodup_cons.mp W.nd).2, fun b hb => W.new b (.tail _ hb), W.lo1, W.lo2, W.cok⟩
theorem LawW.snapf {m : Str → Option Value} (W : LawW w h₀ L dd D9 kept ca a ps cs kvs ck k h) (F : Fr h₀ L h m) (front : List (Addr × Obj)) (hf : ∀ q ∈ front, h.get? q.1 = some q.2 ∧ q.1 ≠ L ∧ h₀.get? q.1 = none) : SnapF h₀ L dd h front := by
  (refine Mine.exE1A1 W.cell ?_; intro oc hoc doc)
  have hc := W.new (L + 1) (List.mem_append_right _ (.head _))
  refine ⟨oc, snap h₀ L h ((L + 1) :: front.map (·.1)), doc, fun q hq => ?_, snap_off (.head _), fun r hr hm => (mem_snap.mp hr).2.2.2 (.tail _ hm), fun h' m' F' N' b o hb e => ?_, fun q o e1 e2 e3 e4 e5 => mem_snap.mpr ⟨e1, e2, e3, ?_⟩⟩
  · rcases List.mem_append.mp hq with h1 | h1
    · exact hf q h1
    · rcases List.mem_cons.mp h1 with rfl | h1
      · exact ⟨hoc, hc.2, hc.1⟩
      · exact snap_news q h1
  · by_cases e1 : b = L + 1
    · subst e1
      rw [hoc] at e; cases e
      exact (N' _ (.head _)).1
    · exact snap_keep F.keep F' (fun r hr => N' r (.tail _ hr)) b o (by
        simp only [List.mem_cons, not_or] at hb ⊢
        exact ⟨hb.1, e1, hb.2⟩) e
  · simp only [List.mem_cons, not_or]; exact ⟨e4, e5⟩
theorem LawW.snap0 {m : Str → Option Value} (W : LawW w h₀ L dd D9 kept ca a ps cs kvs ck k h) (F : Fr h₀ L h m) : Snap0 h₀ L dd h :=
  let ⟨oc, SN, dc, N, hx, _, kk, km⟩ := W.snapf F [] (fun _ h => nomatch h)
  ⟨oc, SN, dc, N, hx, kk, fun q o e1 e2 e3 e4 => km q o e1 e2 e3 e4 (fun h => nomatch h)⟩
theorem LawW.plain (W : LawW w h₀ L dd D9 kept ca a ps cs kvs ck k h) (nt : NoTup h [L]) (kp : Kp [L] h h') : LawW w h₀ L dd D9 kept ca a ps cs kvs ck k h' :=
  W.kp kp nt fun b hb hm => (W.new b hb).2 (List.mem_singleton.mp hm)
end
theorem ints_cut : ∀ {vs : List Value} {ns : List Int}, IntsAre vs ns → ∀ i, i < ns.length → ∃ pv l t qv rp rq, vs = pv ++ Value.int l t :: qv ∧ ns = rp ++ l :: rq ∧ pv.length = i ∧ IntsAre pv rp ∧ IntsAre qv rq
  | _, _, .nil, i, h => absurd h (Nat.not_lt_zero _)
  | _, _, .cons n t hr, 0, _ => (Mine.mkE6 ([]) n t _ ([]) _ ⟨rfl, rfl, rfl, .nil, hr⟩)
  | _, _, .cons n t hr, i + 1, h => by
    (refine Mine.exE6 (ints_cut hr i (Nat.lt_of_succ_lt_succ h)) ?_; intro pv l u qv rp rq hrun203; refine Mine.exA4 hrun203 ?_; clear hrun203; intro e1 e2 e3 h1 h2)
    exact (Mine.mkE6 (.int n t :: pv) l u qv (n :: rp) rq ⟨by rw [e1]; rfl, by rw [e2]; rfl, by rw [List.length_cons, e3], .cons n t h1, h2⟩)
theorem cut_at : ∀ (p q : List Value) (y : Value), kl_cut (p ++ y :: q) p.length = some (p, y, q)
  | [], _, _ => rfl
  | x :: p, q, y => by
    show kl_cut (x :: (p ++ y :: q)) (p.length + 1) = _
    unfold kl_cut
    rw [cut_at p q y]
theorem pop_intAt {prog : Program} {w : World} {A : Around} {E : Value → Shared → Prop} {s : Shared} {h₀ : Heap} {L D : Addr} {m : Str → Option Value} {post : List (Addr × Obj)} {vr : List Value} {rest : List Int} {n : Nat} {x : Int} {u : Tok} {Q : Value → Shared → Prop}
    (F : Fr h₀ L s.heap m) (N : News h₀ L s.heap ((D, W.listOf (List.toArray vr) n) :: post)) (off : ∀ r ∈ post, r.1 ≠ D) (hi : IntsAre vr rest) (h0 : 0 ≤ x) (h1 : x < (rest.length : Int)) (h2 : rest.length ≤ 1000)
    (h : ∀ pv qv l tl rp rq h', rest = rp ++ l :: rq → IntsAre (pv ++ qv) (rp ++ rq) → Fr h₀ L h' m → News h₀ L h' ((D, W.listOf (pv ++ qv).toArray (n + 1)) :: post) → Q (.int l tl) { s with heap := h' }) :
    wpAny (model prog w) A (call (.builtin "list.pop") [.ref D, .int x u]) Q E s := by
  walk_at "hideG"
  (refine Mine.exE6 (ints_cut hi x.toNat (by omega)) ?_; intro pv l t qv rp rq hrun206; refine Mine.exA4 hrun206 ?_; clear hrun206; intro hsb204 hsb205 e3 i1 i2; subst hsb204; subst hsb205)
  walk_at "showG"
  have hl := hi.length
  refine kl_popAt (k := pv.length) (p := pv) (q := qv) (y := .int l t) F N ?_ ?_ (cut_at _ _ _) (.head off) ?_ fun h' F' N' => h pv qv l t rp rq h' rfl (i1.append i2) F' N'
  · unfold Builtin.List.listFitsIndex
    simp only [Bool.and_eq_true, decide_eq_true_eq]
    omega
  · unfold seqIndex?
    rw [List.size_toArray, hl]
    have e : ¬ x < 0 := by omega
    simp only [e, if_false]
    rw [if_pos (by simp only [Bool.and_eq_true, decide_eq_true_eq]; exact ⟨h0, h1⟩), e3]
  · show (pv ++ Value.int l t :: qv).length ≤ _
    rw [hl, sizeLine_eq]; omega
theorem idx_len {cs : List (List Int)} {k : Int} : (idxOf cs k).length ≤ cs.length := by
  unfold idxOf
  rw [List.length_map]
  exact Nat.le_trans (List.length_filter_le _ _) (by walk_at "sim")
theorem due_one {T : List Int} {cs : List (List Int)} {n : Int} : (dueAt T cs n).length ≤ 1 := by
  unfold dueAt
  split
  · split <;> simp
  · simp
theorem dues_len {T : List Int} {cs : List (List Int)} : ∀ ns : List Int, (ns.flatMap (dueAt T cs)).length ≤ ns.length
  | [] => Nat.le_refl _
  | n :: ns => by
    have h1 := dues_len (T := T) (cs := cs) ns
    have h2 := due_one (T := T) (cs := cs) (n := n)
    rw [List.flatMap_cons, List.length_append, List.length_cons]
    omega
theorem LitsOk.take {rp rq : List Int} {l : Int} {kvs : List (Int × Value)} {v : Value} (h : LitsOk ((rp ++ l :: rq) ++ keysOf kvs)) : LitsOk ((rp ++ rq) ++ keysOf (kvs ++ [(l, v)])) := by
  refine h.perm ?_
  have e : keysOf (kvs ++ [(l, v)]) = keysOf kvs ++ [l] := by simp [keysOf]
  rw [e]
  have h1 : (rp ++ l :: rq).Perm (rp ++ rq ++ [l]) := by
    rw [List.append_assoc]
    exact (List.perm_append_comm (l₁ := [l]) (l₂ := rq)).append_left rp
  refine (h1.append_right _).trans ?_
  rw [List.append_assoc (rp ++ rq)]
  exact (List.perm_append_comm).append_left (rp ++ rq)
theorem ar_k {k4 k2 : Int} {n : Nat} (h : k4 ≤ k2 + 2 * (n : Int)) : k4 + 1 + 1 ≤ k2 + 2 * ((n + 1 : Nat) : Int) := by omega
theorem ar_r {a b c d : Nat} (h : a + b ≤ 5) (e : a = c + (d + 1)) : c + d + (b + 1) ≤ 5 := by omega
theorem ar_q {a b c d e : Nat} (h : a ≤ 50 * b) (h2 : c ≤ d) (h3 : d ≤ 6 + e) (h4 : e < 4) : a + c ≤ 50 * (b + 1) := by omega
theorem ar_u {d e : Nat} (h3 : d ≤ 6 + e) (h4 : e < 4) : d ≤ 900 := by omega
theorem ar_w {d e : Nat} (h3 : d ≤ 6 + e) (h4 : e < 4) : d ≤ 50 := by omega
theorem ar_v {a b : Nat} (h : a + b ≤ 5) : b ≤ 900 := by omega
theorem ar_1 {k4 k2 k x1 : Int} {i a b : Nat} (h1 : k4 ≤ k2 + 2 * (b : Int)) (h2 : k2 ≤ k + 1 + 2 * x1) (h3 : x1 < 6) (h4 : k ≤ 100 + 40 * (i : Int)) (h5 : i < 4) (h6 : a + b ≤ 5) : k4 ≤ 10000 := by omega
theorem ar_2 {k4 k2 k x1 : Int} {i a b : Nat} (h1 : k4 ≤ k2 + 2 * (b : Int)) (h2 : k2 ≤ k + 1 + 2 * x1) (h3 : x1 < 6) (h4 : k ≤ 100 + 40 * (i : Int)) (h5 : i < 4) (h6 : a + b ≤ 5) : k4 + 1 ≤ 9000 := by omega
theorem ar_3 {x : Int} (h : x < 3) : x ≤ 5 := by omega
theorem ar_4 {x : Int} {n : Nat} (h1 : (n : Int) ≤ x) (h : x < 3) : n ≤ 100000 := by omega
theorem ar_5 {x : Int} {n : Nat} (h1 : (n : Int) ≤ x) (h : x < 3) : n ≤ 50 := by omega
theorem ar_6 {k5 k4 k2 k x1 x : Int} {i a b : Nat} (h0 : k5 ≤ k4 + 1 + 2 * x) (h01 : x < 3) (h1 : k4 ≤ k2 + 2 * (b : Int)) (h2 : k2 ≤ k + 1 + 2 * x1) (h3 : x1 < 6) (h4 : k ≤ 100 + 40 * (i : Int)) (h5 : i < 4) (h6 : a + b ≤ 5) : k5 + 1 ≤ 9000 := by omega
theorem ar_7 {k6 k5 k4 k2 k x1 x y : Int} {i a b : Nat} (g0 : k6 ≤ k5 + 1 + 2 * y) (g1 : y < 4) (h0 : k5 ≤ k4 + 1 + 2 * x) (h01 : x < 3) (h1 : k4 ≤ k2 + 2 * (b : Int)) (h2 : k2 ≤ k + 1 + 2 * x1) (h3 : x1 < 6) (h4 : k ≤ 100 + 40 * (i : Int)) (h6 : a + b ≤ 5) : k6 ≤ 100 + 40 * ((i + 1 : Nat) : Int) := by omega
theorem ar_8 {x : Int} (h : x < 4) : x ≤ 5 := by omega
theorem ar_9 {x : Int} {n : Nat} (h1 : (n : Int) ≤ x) (h : x < 4) : n ≤ 100000 := by omega
theorem ar_10 {d i : Nat} (h : d ≤ 6 + i) : d + 1 ≤ 6 + (i + 1) := by omega
theorem ar_l {a c d : Nat} (e : a = c + (d + 1)) : c + d < a := by omega
theorem LawW.above {w : World} {h₀ h : Heap} {L dd D9 ca : Nat} {kept : List (Addr × Obj)} {a : StA} {ps : List Addr} {cs : List (List Int)} {kvs : List (Int × Value)} {ck : Int × Int} {k : Int} {m : Str → Option Value} (W : LawW w h₀ L dd D9 kept ca a ps cs kvs ck k h) (F : Fr h₀ L h m) {b : Nat} (hb : @LE.le Nat _ h.objs.size b) : h₀.get? b = none ∧ b ≠ L ∧ b ≠ L + 1 := by
  refine ⟨?_, fun e => ?_, fun e => W.fresh hb (by rw [e]; simp [adr])⟩
  · cases e : h₀.get? b with
    | none => rfl
    | some o => exact absurd (Nat.lt_of_lt_of_le (Heap.lt_size (F.keep _ _ e)) hb) (Nat.lt_irrefl _)
  · rw [e] at hb; exact Nat.lt_irrefl _ (Nat.lt_of_lt_of_le F.ns.lt hb)
theorem ClauseOk.con {c : List Int} (h : ClauseOk c) : ∀ l ∈ c, -l ∉ c := fun l hl hn => by
  walk_at "hideG"
  obtain ⟨i, hi, e1⟩ := List.getElem_of_mem hl
  obtain ⟨j, hj, e2⟩ := List.getElem_of_mem hn
  walk_at "showG"
  have hp := List.pairwise_iff_getElem.mp h.2
  have h0 := (h.1 l hl).1
  rcases Nat.lt_trichotomy i j with h1 | h1 | h1
  · have := hp i j hi hj h1; rw [e1, e2, Int.natAbs_neg] at this; exact Nat.lt_irrefl _ this
  · subst h1; rw [e1] at e2; omega
  · have := hp j i hj hi h1; rw [e1, e2, Int.natAbs_neg] at this; exact Nat.lt_irrefl _ this
/-- two answers for the same question are not unlike -/
theorem forced_same {w : World} {A : Around} {E : Value → Shared → Prop} {s : Shared} {cs : List (List Int)} {asked : List Int} {v u : Value} (h1 : ForcedR cs asked v s.heap) (h2 : ForcedR cs asked u s.heap) (r0 : A.units < cLine)
    (hn : ∀ Q : Value → Shared → Prop, Q (.bool false) s → wpAny (model PP w) A (compareOp .NotEq .none .none) Q E s) (Q : Value → Shared → Prop) (hQ : Q (.bool false) s) : wpAny (model PP w) A (compareOp .NotEq v u) Q E s := by
  rcases h1 with ⟨rfl, c1⟩ | ⟨D, f, rfl, l1, c1, a1, a2, a3, a4⟩
  · rcases h2 with ⟨rfl, c2⟩ | ⟨D', f', rfl, l2, c2, _⟩
    · exact hn Q hQ
    · exact absurd c1 c2
  · rcases h2 with ⟨rfl, c2⟩ | ⟨D', f', rfl, l2, c2, b1, b2, b3, b4⟩
    · exact absurd c2 c1
    · have e := found_one a1 a2 a3 a4 b1 b2 b3 b4
      subst e
      (refine Mine.exE2A1 l1 ?_; (try clear l1); intro vs n e1 i1)
      (refine Mine.exE2A1 l2 ?_; (try clear l2); intro us n' e2 i2)
      refine ne_list_same e1 e2 (by rw [List.size_toArray, List.size_toArray, i1.length, i2.length]) r0 (fun j h1 h2 => ?_) hQ
      (refine Mine.exE2A1 (i1.at j (vs.toArray[j]) (by simp at h1; simp [h1])) ?_; intro x t hx hx')
      (refine Mine.exE2A1 (i2.at j (us.toArray[j]) (by simp at h2; simp [h2])) ?_; intro y t' hy hy')
      rw [hx'] at hy'
      cases hy'
      rw [hx, hy]; exact same_int
theorem ForcedR.kp {cs : List (List Int)} {asked : List Int} {v : Value} {h h' : Heap} {ch : List Addr} (r : ForcedR cs asked v h) (k : Kp ch h h') (off : ∀ D, v = .ref D → D ∉ ch) : ForcedR cs asked v h' := by
  rcases r with r | ⟨D, f, e, l, r⟩
  · exact .inl r
  · exact .inr (Mine.mkE2A2 D f e (l.kp k (off D e)) r)
theorem LawW.grow {w : World} {h₀ h h' : Heap} {L dd D9 ca ca' : Nat} {kept : List (Addr × Obj)} {a : StA} {ps ps' : List Addr} {cs : List (List Int)} {c : List Int} {ck : Int × Int} {k : Int} {m : Str → Option Value}
    (W : LawW w h₀ L dd D9 kept ca a ps cs [] ck k h) (F : Fr h₀ L h m) (hk : Kp (([a.dx, a.cl, a.pl, a.he, a.op, a.be] : List Nat) ++ ps) h h') (S : StepsAt w h' a ps' (cs ++ [c]) [] ck) (O : StOk a ps') (hps : ∀ p ∈ ps', p ∈ ps ∨ h.get? p = none)
    (hcl : ClausesAt h ca' (cs ++ [c])) (hca : ca' ∉ ((kept.map (·.1) : List Nat) ++ adr L dd D9 ca a ps)) (hcn : h₀.get? ca' = none ∧ ca' ≠ L) (hc : ClauseOk c) : LawW w h₀ L dd D9 kept ca' a ps' (cs ++ [c]) [] ck k h' := by
  (refine Mine.exA2 W.apart ?_; intro p1 p2 p3)
  have chs : ∀ b ∈ (([a.dx, a.cl, a.pl, a.he, a.op, a.be] : List Nat) ++ ps), b ∈ stp a ps := fun b hb => by
    rcases List.mem_append.mp hb with h | h
    · refine List.mem_append_left _ ?_
      exact (by walk_at "sub" : ∀ p ∈ _, p ∈ _) _ h
    · exact List.mem_append_right _ h
  have o4 : ∀ b ∈ ([L + 1, D9, ca, dd] : List Nat), b ∉ (([a.dx, a.cl, a.pl, a.he, a.op, a.be] : List Nat) ++ ps) := fun b hb hm => p2 b hb (chs b hm)
  have oK : ∀ b ∈ (kept.map (·.1) : List Nat), b ∉ (([a.dx, a.cl, a.pl, a.he, a.op, a.be] : List Nat) ++ ps) := fun b hb hm => p1 b hb (List.mem_append_right _ (chs b hm))
  have oca : ca' ∉ (([a.dx, a.cl, a.pl, a.he, a.op, a.be] : List Nat) ++ ps) := fun hm => hca (List.mem_append_right _ (List.mem_append_right _ (chs _ hm)))
  have nt : NoTup h (([a.dx, a.cl, a.pl, a.he, a.op, a.be] : List Nat) ++ ps) := W.st.noTup.sub fun b hb => by
    rcases List.mem_append.mp hb with h | h
    · refine List.mem_append_left _ ?_
      exact (by walk_at "sub" : ∀ p ∈ _, p ∈ _) _ h
    · exact List.mem_append_right _ h
  have live := W.live
  have liveca : ∃ o, h.get? ca' = some o := by (refine Mine.exE2A1 hcl ?_; (try clear hcl); intro _ _ e _); exact ⟨_, e⟩
  -- a live place that is none of the parts is none of the new parts
  have offnew : ∀ b : Nat, (∃ o, h.get? b = some o) → b ∉ stp a ps → b ∉ stp a ps' := fun b ⟨o, ho⟩ hb hm => by
    rcases List.mem_append.mp hm with h | h
    · exact hb (List.mem_append_left _ h)
    · rcases hps b h with h | h
      · exact hb (List.mem_append_right _ h)
      · rw [ho] at h; cases h
  have hcas : ca' ∉ stp a ps := fun hm => hca (List.mem_append_right _ (List.mem_append_right _ hm))
  have nd4 := (List.nodup_append.mp (List.nodup_append.mp W.nd).2.1).1
  refine ⟨W.coin.kp hk (o4 _ (by walk_at "sim")) (o4 _ (by walk_at "sim")), ?_, hcl.kp hk oca nt, S, fun q hq => hk _ _ (oK _ (List.mem_map.mpr (Mine.mkE1A1 q hq rfl))) (W.keep q hq), ?_, ?_, O.lo1, O.lo2, fun d hd => ?_⟩
  · (refine Mine.exE1A1 W.cell ?_; intro oc e d)
    exact (Mine.mkE1A1 oc (hk _ _ (o4 _ (by walk_at "sim")) e) d)
  · refine List.nodup_append.mpr ⟨(List.nodup_append.mp W.nd).1, ?_, ?_⟩
    · show (([L + 1, D9, ca', dd] : List Nat) ++ stp a ps').Nodup
      refine List.nodup_append.mpr ⟨?_, O.nd, ?_⟩
      · simp only [List.nodup_cons, List.mem_cons, List.not_mem_nil, or_false, not_or, List.nodup_nil, not_false_eq_true, and_true] at nd4 ⊢
        walk_at "hideG"
        (refine Mine.exA2 nd4 ?_; (try clear nd4); intro hnst207 hnst208 c1; obtain ⟨a1, a2, a3⟩ := hnst207; obtain ⟨b1, b2⟩ := hnst208)
        walk_at "showG"
        exact ⟨⟨a1, fun e => hca (by rw [← e]; simp [adr]), a3⟩, ⟨fun e => hca (by rw [← e]; simp [adr]), b2⟩, fun e => hca (by rw [e]; simp [adr])⟩
      · intro b hb d hd e
        subst e
        by_cases e : b = ca'
        · rw [e] at hd; exact offnew ca' liveca hcas hd
        · have hb' : b ∈ ([L + 1, D9, ca, dd] : List Nat) := by
            simp only [List.mem_cons, List.not_mem_nil, or_false] at hb ⊢
            rcases hb with h | h | h | h
            · exact .inl h
            · exact .inr (.inl h)
            · exact absurd h e
            · exact .inr (.inr (.inr h))
          exact offnew b (live b (List.mem_append_right _ (List.mem_append_left _ hb'))) (p2 b hb') hd
    · intro b hb d hd e
      subst e
      rcases List.mem_append.mp (show b ∈ ([L + 1, D9, ca', dd] : List Nat) ++ stp a ps' from hd) with h | h
      · have hn := p1 b hb
        simp only [List.mem_cons, List.not_mem_nil, or_false] at h
        rcases h with h | h | h | h
        · exact hn (by rw [h]; simp [adr])
        · exact hn (by rw [h]; simp [adr])
        · exact hca (h ▸ List.mem_append_left _ hb)
        · exact hn (by rw [h]; simp [adr])
      · exact offnew b (live b (List.mem_append_left _ hb)) (fun hm => p1 b hb (List.mem_append_right _ hm)) h
  · intro b hb
    have hW := W.new
    rcases List.mem_append.mp hb with hb | hb
    · exact hW b (List.mem_append_left _ hb)
    · rcases List.mem_append.mp (show b ∈ ([L + 1, D9, ca', dd] : List Nat) ++ stp a ps' from hb) with h | h
      · simp only [List.mem_cons, List.not_mem_nil, or_false] at h
        rcases h with h | h | h | h
        · exact hW b (by rw [h]; simp [adr])
        · exact hW b (by rw [h]; simp [adr])
        · rw [h]; exact hcn
        · exact hW b (by rw [h]; simp [adr])
      · rcases List.mem_append.mp h with h | h
        · exact hW b (List.mem_append_right _ (List.mem_append_right _ (List.mem_append_left _ h)))
        · rcases hps b h with h | h
          · exact hW b (List.mem_append_right _ (List.mem_append_right _ (List.mem_append_right _ h)))
          · refine ⟨?_, fun e => ?_⟩
            · cases e : h₀.get? b with
              | none => rfl
              | some o => have := F.keep _ _ e; rw [h] at this; cases this
            · (refine Mine.exE3A1 F.ns ?_; intro oL _ _ hL0 _)
              rw [e, hL0] at h; cases h
  · rcases List.mem_append.mp hd with h | h
    · exact W.cok d h
    · rw [List.mem_singleton.mp h]; exact hc
theorem ClausesAt.snoc {h : Heap} {as : List Addr} {cs : List (List Int)} {c : List Int} {x D : Addr} {n : Nat} (hl : as.length = cs.length) (hf : ∀ (i : Nat) y d, as[i]? = some y → cs[i]? = some d → TupInts h y d) (hx : TupInts h x c) (hD : h.get? D = some (W.listOf ((as.map Value.ref) ++ [Value.ref x]).toArray n)) : ClausesAt h D (cs ++ [c]) := by
  refine (Mine.mkE2A2 (as ++ [x]) n (by rw [hD, List.map_append]; rfl) (by simp [hl]) (fun i y d h1 h2 => ?_))
  by_cases hi : i < as.length
  · rw [List.getElem?_append_left hi] at h1
    rw [List.getElem?_append_left (hl ▸ hi)] at h2
    exact hf i y d h1 h2
  · rw [List.getElem?_append_right (by omega)] at h1
    rw [List.getElem?_append_right (by omega)] at h2
    have e : i - as.length = 0 := by
      rcases Nat.eq_zero_or_pos (i - as.length) with h | h
      · exact h
      · rw [List.getElem?_eq_none (by simp; omega)] at h1; cases h1
    rw [e] at h1
    rw [← hl, e] at h2
    cases h1; cases h2
    exact hx
theorem LawW.meth {w : World} {mg mb : Str → Option Value} {n : Nat} {A A' : Around} {h₀ : Heap} {L dd D9 ca : Nat} {kept : List (Addr × Obj)} {a : StA} {ps : List Addr} {cs : List (List Int)} {kvs : List (Int × Value)} {ck : Int × Int} {k : Int} {m : Str → Option Value} {s : Shared} {E : Value → Shared → Prop} {name : Str} {f : Addr} {pl : Sem Bool} {Q : Value × List Value → Shared → Prop}
    (W : LawW w h₀ L dd D9 kept ca a ps cs kvs ck k s.heap) (F : Fr h₀ L s.heap m) (C : Cx w mg mb n A h₀ L) (hg : plainGet (hd.heap_39 w.params) 74 name = true) (hf : findIn (hd.heap_39 w.params) (.ref 74) name = some (some (.ref f))) (ht : isFn (hd.heap_39 w.params) (.ref f) = true)
    (hl : ∀ hs ts te kc, getL name (stEs hs ts a (.int (emptyOf cs) te) (.ref kc)) = some none) (h : Q (.ref f, [.ref a.x]) s) : wpAny (model PP w) A' (getMethod (.ref a.x) name pl) Q E s := by
  walk_at "hideG"
  (refine Mine.exE2A1 W.st.dx ?_; intro te kc hnst209 _; obtain ⟨hs, ts, nd, hdx⟩ := hnst209)
  walk_at "showG"
  exact method_inst (ox := instObj 74 a.dx) (es := stEs hs ts a (.int (emptyOf cs) te) (.ref kc)) (n := nd) F C.G.X ⟨W.st.x, rfl, rfl, hdx⟩ hg hf ht (hl _ _ _ _) h
/-- ahead of a round -/
inductive RoundJ (w : World) (h₀ : Heap) (L dd D9 I : Nat) (i : Nat) (m : Str → Option Value) (h : Heap) : Prop
  | mk (ca : Addr) (a : StA) (ps : List Addr) (cs : List (List Int)) (k : Int) (ck : Int × Int) (W : LawW w h₀ L dd D9 [] ca a ps cs [] ck k h) (lcs : cs.length ≤ 6 + i) (lk : k ≤ 100 + 40 * (i : Int)) (mc : m (Str.ofString "clauses") = some (.ref ca)) (ms : m (Str.ofString "steps") = some (.ref a.x)) (hI : I ∉ adr L dd D9 ca a ps) : RoundJ w h₀ L dd D9 I i m h
/-- ahead of a lap -/
inductive LapJ (w : World) (h₀ : Heap) (L dd D9 I : Nat) (oI : Obj) (ca : Addr) (a : StA) (ps : List Addr) (cs : List (List Int)) (Ds q td : Addr) (k2 : Int) (m3 : Str → Option Value) (n : Nat) (m : Str → Option Value) (h : Heap) : Prop
  | mk (vr : List Value) (nr : Nat) (rest : List Int) (kvs : List (Int × Value)) (ot : Obj) (qs : List (Int × Int)) (ck : Int × Int) (k : Int) (Wl : LawW w h₀ L dd D9 [(I, oI)] ca a ps cs kvs ck k h) (hDs : h.get? Ds = some (W.listOf (List.toArray vr) nr)) (hir : IntsAre vr rest) (hP : PairsAt h q qs) (hot : h.get? td = some ot) (hto : ot.IsDictOf (intKind PP w) kvs)
      (hn : n = rest.length) (hk : k ≤ k2 + 2 * (kvs.length : Int)) (hl : rest.length + kvs.length ≤ 5) (hq : qs.length ≤ 50 * kvs.length) (hL : LitsOk (rest ++ keysOf kvs)) (hmm : ∀ y, [Str.ofString "literal"].contains y = false → m y = m3 y) : LapJ w h₀ L dd D9 I oI ca a ps cs Ds q td k2 m3 n m h
set_option hygiene false in
local macro_rules
| `(tactic| walk_at "getMethod ref") => `(tactic| (k_dflt (refine Mine.LawW.meth (by with_reducible assumption) (by k_asm) (by with_reducible assumption) (by k_is) (by k_is) (by k_is) (by (intro _ _ _ _; k_get)) ?_)))

/-! part M20 -/
set_option maxHeartbeats 4000000
theorem law_cx {w : World} {mg mb : Str → Option Value} {base h : Heap} {env : Env} {L : Addr} (G : Gr w mg mb h) (K0 : Below callerA base [] h) (hf : env.frame = some L) (hk : env.scope.kind = .function) : Cx w mg mb 20 (callerA.deeper env) h L :=
  ⟨G, (Mine.mkE4 env ([]) base callerA ⟨K0, Around.frames_deeper K0.stack, hf, hk⟩), rfl, by show callerA.depth + 1 + 20 ≤ 900; decide, by show callerA.units + 3 + 5 * 20 ≤ 5000; decide⟩
theorem with_cx {w : World} {mg mb : Str → Option Value} {base h : Heap} {env : Env} {L : Addr} {M : Model} {α : Type} {t : Sem α} {Q : α → Shared → Prop} {E : Value → Shared → Prop} {s : Shared} (G : Gr w mg mb h) (K0 : Below callerA base [] h) (hf : env.frame = some L) (hk : env.scope.kind = .function)
    (k : Cx w mg mb 20 (callerA.deeper env) h L → wpAny M (callerA.deeper env) t Q E s) : wpAny M (callerA.deeper env) t Q E s := k (law_cx G K0 hf hk)

theorem law_holds : PySem.Challenge.rw_rr0077_01.Holds := by
  refine hd ?_
  k_go0
  rename_i w s₀ s₁ mg mb G Y fa o pm doc ho hg KX X V GL T B TE TW w10 w9 M w8 w7 hcd script hs hlay0 hL1 hr1 hl2 w5 w4 la vla w1b hL ra w1' r0 hI hr hc1 hc2 K0 hD h₁ tk₁ F oc dc N0 X0
  have hCg : Gr w mg mb s₁.heap := ⟨KX, topRead_of T⟩
  have TR := topRead_of T
  clear Y X V GL B TE TW M hcd hs hlay0 hL1 hr1 hl2 ra w1' r0 hr hD X0
  (repeat' (walk_at "go"))
  refine with_cx hCg K0 rfl rfl fun C => ?_
  have hh := C.hh
  have room := C.room
  have room0 := Nat.lt_of_le_of_lt (Nat.le_add_right _ 64) room
  have room1 := Nat.lt_of_le_of_lt (Nat.add_le_add_left (show 1 ≤ 64 by decide) _) room
  clear room
  rename News _ _ _ _ => N1
  rename Fr _ _ _ _ => F1
  rename Obj.IsDictOf _ _ _ => hd1
  rename_i dd h2 od lod ld
  refine' comp_ (cl := []) ?a1 ?a2 ?a3 ?_ ?a4
  case a1 => rfl
  case a2 => rfl
  case a3 => decide
  case a4 => intro _; rfl
  (repeat' (walk_at "go"))
  rename News _ _ _ _ => N2
  rename Fr _ _ _ _ => F2
  rename IntsAre _ (List.take 60 script) => i2
  rename @LE.le Nat _ (List.length (List.take 60 script)) _ => l60
  rename @Eq Nat (List.length (List.take 60 script)) _ => e60
  rename_i Dw ws h3 lw
  refine' comp_seq (T := "list") (.inl rfl) (N2 _ (.head _)).1 rfl rfl (fun _ => true) (fun vs ys nx => nx = [(Dw, W.listOf (List.toArray ws) 0), (dd, od), (s₁.heap.objs.size + 1, oc)] ∧ ∃ ns', IntsAre ys ns' ∧ ns'.length = vs.length) rfl ?b1 ?b2 ?b3 ?bF ?bN ?bj ?bsz ?bwh ?btests ?bskip ?belt ?bfin
  case b1 => decide
  case b2 => rfl
  case b3 => rfl
  case bF => exact F2
  case bN => exact N2
  case bj => exact ⟨rfl, (Mine.mkE1A1 ([]) (.nil) rfl)⟩
  case bsz => have := i2.length; rw [sizeLine_eq, List.size_toArray]; omega
  case bwh => exact .inr (Mine.mkA1E1 ((N2 _ (.head _)).2.1) _ (by rintro vs ys nx ⟨rfl, _⟩; exact .head _))
  case btests =>
    intro I3 D3 C3 oI oD oC vs v ys nx s₃ m₃ hv hJ F3 N3 hC hx
    exact ctests_nil (Mine.mkA1E1 rfl _ rfl)
  case bskip => intro vs v ys nx _ h; cases h
  case belt =>
    intro I3 D3 C3 oI oD oC vs v ys nx s₃ m₃ hv hjd13 hjo14 hoff hne3 F3 N3 hC hx
    clear hjd13
    walk_at "hideG"
    (refine Mine.exA1E1A1 hjo14 ?_; (try clear hjo14); intro hsb210 ns' hys hnl; subst hsb210)
    have hn := hC _ (N3 _ (.tail _ (.tail _ (.head _)))).1
    (refine Mine.exE2A1 (i2.at _ _ (by simpa using hv)) ?_; intro y ty hsb211 hy; subst hsb211)
    walk_at "showG"
    (repeat' (walk_at "go"))
    exact (Mine.mkE3 _ _ _ ⟨rfl, F3, N3, hoff, rfl, (Mine.mkE1A1 (ns' ++ [_]) (hys.append (.cons _ _ .nil)) (by simp [hnl]))⟩)
  case bfin =>
    intro D9 C9 h' tk' m' ys nx nD9 hjo8 F9 N9 hD9 hsz9 hC9
    walk_at "hideG"
    (refine Mine.exA1E1A1 hjo8 ?_; (try clear hjo8); intro hsb212 ns' hys hnl; subst hsb212)
    walk_at "showG"
    refine fin_none F9 N9 hC9 (fun h8 F8 N8 => ?_)
    have e9 : @Ne Nat dd D9 := hD9 (dd, od) (by walk_at "sim")
    have hne2 : @Ne Nat dd Dw := Nat.ne_of_lt lw.1
    have hne3 : @Ne Nat dd (s₁.heap.objs.size + 1) := Nat.ne_of_gt ld
    clear N9 F9 hC9
    (repeat' (walk_at "go"))
    refine' kdn_made_str F8 N8 ?kU hd1 ?kk ?kn ?_
    case kU => k_updF
    case kk => rfl
    case kn => exact of_decide_eq_true (by first | rfl | kernel_rfl!)
    intro h11 o11 F11 N11 hd11
    have hK : ∃ t, o11.IsDictOf (strKind PP w) [(Str.ofString "cells", .ref D9), (Str.ofString "flips", .int 0 t)] := ⟨_, hd11⟩
    (refine Mine.exE1 hK ?_; (try clear hK); intro t11 hK)
    clear hd11
    have hcD9 : @Ne Nat (s₁.heap.objs.size + 1) D9 := hD9 (s₁.heap.objs.size + 1, oc) (by walk_at "sim")
    have hcDw : @Ne Nat (s₁.heap.objs.size + 1) Dw := Nat.ne_of_lt lw.2
    have l9 := hys.length
    have l9w := i2.length
    (repeat' (walk_at "go")); (try dsimp only)
    (repeat' (walk_at "go"))
    rename_i h12 oc2 F12 N12 d12
    have N13 : News s₁.heap s₁.heap.objs.size h12 [(s₁.heap.objs.size + 1, oc2)] := fun q hq => N12 q (.tail _ (.tail _ (.tail _ hq)))
    have g9 := N12 _ (.head _)
    have gd := N12 _ (.tail _ (.tail _ (.head _)))
    have K12 : CoinAt w h12 dd D9 0 := ⟨(Mine.mkE2A1 o11 t11 gd.1 hK), (Mine.mkE3A2 ys ns' nD9 g9.1 hys (by rw [hnl]; simp; omega)), Int.le_refl _⟩
    clear N12
    refine' compA_ (cl := [(Str.ofString "coin", s₁.heap.objs.size + 1)]) ?d0 ?d1 ?d2 ?d3 ?_ ?d4
    case d0 => rfl
    case d1 => rfl
    case d2 => rfl
    case d3 => decide
    case d4 => intro _; rfl
    (repeat' (walk_at "go"))
    (refine Mine.exE1A1 (Fr.gen F12) ?_; intro m0 hclr213 F13; clear hclr213)
    have hddg : s₁.heap.get? dd = none ∧ dd ≠ s₁.heap.objs.size := ⟨gd.2.2, gd.2.1⟩
    have hD9g : s₁.heap.get? D9 = none ∧ D9 ≠ s₁.heap.objs.size := ⟨g9.2.2, g9.2.1⟩
    have hd1b : @LT.lt Nat _ (s₁.heap.objs.size + 1) dd := ld
    clear F12 g9 gd hK
    refine' flip_spec (n := 19) C F13 hddg K12 ?k1 ?k2 ?k3 ?_
    case k1 => omega
    case k2 => omega
    case k3 => omega
    intro x tx h14 tk14 hx0 hx1 K14 hk14 F14
    have N14 : News s₁.heap s₁.heap.objs.size h14 [(s₁.heap.objs.size + 1, oc2)] := fun q hq => ⟨hk14 _ _ (by rw [List.mem_singleton.mp hq]; simpa using hne3.symm) (N13 q hq).1, (N13 q hq).2⟩
    clear N13 F13
    (repeat' (walk_at "go"))
    rename News _ _ _ _ => N15
    rename Fr _ _ _ _ => F15
    rename IsRange _ _ _ _ _ _ _ _ => hR
    rename_i h15 _ _ _ _ k15
    have K15 := K14.keeps k15
    clear K14 K12 hk14 k15
    (refine Mine.exE3A2 (id K15.cells) ?_; intro vs9 ns9 n9 hl9 hi9 hs9)
    (refine Mine.exE2A1 (id K15.dict) ?_; intro od5 t5 ho5 hd5)
    (refine Mine.exE1A1 (show ∃ nn : Nat, 2 + x = (nn : Int) ∧ nn ≤ 6 from (Mine.mkE1A1 ((2 + x).toNat) (by omega) (by omega))) ?_; intro nn hnn hnn6)
    rw [hnn] at hR
    have N16 : News s₁.heap s₁.heap.objs.size h15 ((s₁.heap.objs.size + 1, oc2) :: (D9, W.listOf vs9.toArray n9) :: (dd, od5) :: []) := List.forall_mem_cons.mpr ⟨N15 _ (.head _), List.forall_mem_cons.mpr ⟨⟨hl9, hD9g.2, hD9g.1⟩, List.forall_mem_cons.mpr ⟨⟨ho5, hddg.2, hddg.1⟩, fun _ h => nomatch h⟩⟩⟩
    clear N15
    refine' comp_range (n := nn) hR ?w1 ?w2 (fun _ => true) (fun vs ys nx => ∃ od' k' t' as cs ex, nx = (s₁.heap.objs.size + 1, oc2) :: (D9, W.listOf vs9.toArray n9) :: (dd, od') :: ex ∧ od'.IsDictOf (strKind PP w) [(Str.ofString "cells", .ref D9), (Str.ofString "flips", .int k' t')] ∧ 0 ≤ k' ∧ k' ≤ 1 + 11 * (vs.length : Int) ∧ ys = as.map Value.ref ∧ cs.length = vs.length ∧ TupsIn ex as cs ∧ (∀ c ∈ cs, ClauseOk c) ∧ ∀ r ∈ ex, r.1 ≠ dd) hh ?w3 ?w4 ?w5 ?F ?N ?j ?sz ?tests ?skip ?elt ?fin
    case w1 => exact small_one (by omega) (by omega) (by omega) (by omega)
    case w2 => rw [rangeSize_nat]; simp
    case w3 => decide
    case w4 => rfl
    case w5 => rfl
    case F => exact F15
    case N => exact N16
    case j => exact (Mine.mkE6 _ _ _ ([]) ([]) ([]) ⟨rfl, hd5, by omega, by simp, rfl, rfl, ⟨rfl, fun i x c h => nomatch h⟩, (fun c h => nomatch h), fun r h => nomatch h⟩)
    case sz => rw [sizeLine_eq]; omega
    case tests =>
      intro I3 D3 C3 oI oD oC vs v ys nx s₃ m₃ hv hJ F3 N3 hC hx
      exact ctests_nil (Mine.mkA1E1 rfl _ rfl)
    case skip => intro vs v ys nx h; cases h
    case elt =>
      intro I3 D3 C3 oI oD oC vs v ys nx s₃ m₃ hv hjd13 hjo14 hoff hnI3 F3 N3 hC hx
      clear hjd13
      walk_at "hideG"
      (refine Mine.exE6 hjo14 ?_; (try clear hjo14); intro od' k' t' as cs ex hrun216; refine Mine.exA8 hrun216 ?_; clear hrun216; intro hsb214 hd' hk0 hk1 hsb215 hcl hT hok hne; subst hsb214; subst hsb215)
      have hn := hC _ (N3 _ (.tail _ (.tail _ (.head _)))).1
      have hvn := hv.1
      (refine Mine.exA1 hv ?_; (try clear hv); intro _ hrun218; refine Mine.exE1 hrun218 ?_; clear hrun218; intro tv hsb217; subst hsb217)
      walk_at "showG"
      (repeat' (walk_at "go"))
      have gdd := N3 _ (.tail _ (.tail _ (.tail _ (.tail _ (.tail _ (.head _))))))
      have g9 := N3 _ (.tail _ (.tail _ (.tail _ (.tail _ (.head _)))))
      have K3 : CoinAt w s₃.heap dd D9 k' := ⟨(Mine.mkE2A1 od' t' gdd.1 hd'), (Mine.mkE3A2 vs9 ns9 n9 g9.1 hi9 hs9), hk0⟩
      have hI3 : @Ne Nat I3 dd ∧ @Ne Nat D3 dd ∧ @Ne Nat C3 dd := ⟨((hoff (dd, od') (by walk_at "sim")).1).symm, ((hoff (dd, od') (by walk_at "sim")).2.1).symm, ((hoff (dd, od') (by walk_at "sim")).2.2).symm⟩
      have hpre : ∀ q ∈ ([(I3, oI), (D3, oD), (C3, oC), (s₁.heap.objs.size + 1, oc2), (D9, W.listOf vs9.toArray n9)] : List (Addr × Obj)) ++ ex, q.1 ≠ dd := List.forall_mem_cons.mpr ⟨hI3.1, List.forall_mem_cons.mpr ⟨hI3.2.1, List.forall_mem_cons.mpr ⟨hI3.2.2, List.forall_mem_cons.mpr ⟨hne3.symm, List.forall_mem_cons.mpr ⟨e9.symm, hne⟩⟩⟩⟩⟩
      refine' flip_spec (n := 19) C F3 hddg K3 ?k1 ?k2 ?k3 ?_
      case k1 => omega
      case k2 => omega
      case k3 => omega
      intro x3 tx3 h4 tk4 hx0 hx1 K4 hk4 F4
      (refine Mine.exE2A1 K4.obj ?_; intro od4 t4 ho4 hd4)
      have N4 : News s₁.heap s₁.heap.objs.size h4 (cled I3 D3 C3 oI oD oC ((s₁.heap.objs.size + 1, oc2) :: (D9, W.listOf vs9.toArray n9) :: (dd, od4) :: ex)) := News.turn (pre := [(I3, oI), (D3, oD), (C3, oC), (s₁.heap.objs.size + 1, oc2), (D9, W.listOf vs9.toArray n9)]) N3 hk4 ho4 hpre
      clear N3 F3 hn
      (repeat' (walk_at "go"))
      refine' lits_spec (n := 18) C F4 hddg K4 ?l1 ?l2 ?l3 ?_
      case l1 => omega
      case l2 => omega
      case l3 => omega
      intro a5 c5 k5 h5 tk5 ha5 hT5 hok5 hl5 hk5a hk5b K5 hk5 F5
      (refine Mine.exE2A1 K5.obj ?_; intro od5' t5' ho5' hd5')
      (refine Mine.exE2A1 hT5 ?_; (try clear hT5); intro vs5 n5 hv5 hi5)
      have N5 := News.turn (pre := [(I3, oI), (D3, oD), (C3, oC), (s₁.heap.objs.size + 1, oc2), (D9, W.listOf vs9.toArray n9)]) N4 hk5 ho5' hpre
      have ha5n : ∀ b : Nat, (∃ o, h4.get? b = some o) → @Ne Nat b a5 := fun b ⟨o, ho⟩ => Nat.ne_of_lt (Nat.lt_of_lt_of_le (Heap.lt_size ho) ha5)
      have a5L := ha5n _ (let ⟨oL, _, _, h, _⟩ := F4.ns; ⟨oL, h⟩)
      have a5g : s₁.heap.get? a5 = none := by
        cases e : s₁.heap.get? a5 with
        | none => rfl
        | some o => exact absurd rfl (ha5n a5 ⟨o, F4.keep _ _ e⟩)
      refine (Mine.mkE3 h5 tk5 ((s₁.heap.objs.size + 1, oc2) :: (D9, W.listOf vs9.toArray n9) :: (dd, od5') :: (a5, { cls := .type "tuple", data := .seq vs5.toArray n5 }) :: ex) ⟨rfl, F5, ?_, ?_, (Mine.mkE6 od5' k5 t5' (as ++ [a5]) (cs ++ [c5]) _ ⟨rfl, hd5', K5.pos, ?_, ?_, ?_, hT.more hi5, ?_, ?_⟩)⟩)
      · exact fac (N5 _ (by walk_at "mem")) (fac (N5 _ (by walk_at "mem")) (fac (N5 _ (by walk_at "mem")) (fac (N5 _ (by walk_at "mem")) (fac (N5 _ (by walk_at "mem")) (fac (N5 _ (by walk_at "mem")) (fac ⟨hv5, a5L.symm, a5g⟩ fun q hq => N5 q (.tail _ (.tail _ (.tail _ (.tail _ (.tail _ (.tail _ hq))))))))))))
      · exact fac (hoff _ (by walk_at "mem")) (fac (hoff _ (by walk_at "mem")) (fac (hoff (dd, od') (by walk_at "mem")) (fac ⟨(ha5n _ ⟨_, (N4 (I3, oI) (by walk_at "sim")).1⟩).symm, (ha5n _ ⟨_, (N4 (D3, oD) (by walk_at "sim")).1⟩).symm, (ha5n _ ⟨_, (N4 (C3, oC) (by walk_at "sim")).1⟩).symm⟩ fun q hq => hoff q (.tail _ (.tail _ (.tail _ hq))))))
      · rw [List.length_append, List.length_singleton]; omega
      · rw [List.map_append]; rfl
      · rw [List.length_append, List.length_append, List.length_singleton, List.length_singleton, hcl]
      · intro c hc
        rcases List.mem_append.mp hc with h | h
        · exact hok c h
        · rw [List.mem_singleton.mp h]; exact hok5
      · exact List.forall_mem_cons.mpr ⟨(ha5n dd ⟨_, ho4⟩).symm, hne⟩
    case fin =>
      intro D15 C15 h15 tk15 m15 vs15 ys15 nx nD15 hvl hjo10 F15 N15 hD15 hsz15 hC15
      walk_at "hideG"
      (refine Mine.exE6 hjo10 ?_; (try clear hjo10); intro od' k' t' as cs ex hrun221; refine Mine.exA8 hrun221 ?_; clear hrun221; intro hsb219 hd' hk0 hk1 hsb220 hcl hT hok hne; subst hsb219; subst hsb220)
      walk_at "showG"
      refine fin_local F15 N15 hC15 (fun h16 F16 N16 => ?_) rfl rfl
      have lcs : cs.length ≤ 6 := by omega
      replace F16 : Fr s₁.heap s₁.heap.objs.size h16 (fun z => if z = Str.ofString "clauses" then some (Value.ref D15) else m0 z) := F16
      replace N16 : News s₁.heap s₁.heap.objs.size h16 ((D15, W.listOf (List.map Value.ref as).toArray nD15) :: (s₁.heap.objs.size + 1, oc2) :: (D9, W.listOf vs9.toArray n9) :: (dd, od') :: ex) := N16
      have K16 : CoinAt w h16 dd D9 k' := ⟨(Mine.mkE2A1 od' t' ((N16 _ (.tail _ (.tail _ (.tail _ (.head _))))).1) hd'), (Mine.mkE3A2 vs9 ns9 n9 ((N16 _ (.tail _ (.tail _ (.head _)))).1) hi9 hs9), hk0⟩
      have hcs16 : ClausesAt h16 D15 cs := (Mine.mkE2A2 as nD15 ((N16 _ (.head _)).1) hT.1 (fun i x c h1 h2 => by
        (refine Mine.exE2A1 (hT.2 i x c h1 h2) ?_; intro vs n hm hv)
        exact (Mine.mkE2A1 vs n ((N16 _ (.tail _ (.tail _ (.tail _ (.tail _ hm))))).1) hv)))
      have hcell16 := (N16 _ (.tail _ (.head _))).1
      have hnew4 : ∀ b ∈ ([s₁.heap.objs.size + 1, D9, D15, dd] : List Nat), s₁.heap.get? b = none ∧ b ≠ s₁.heap.objs.size :=
        List.forall_mem_cons.mpr ⟨(N16 _ (.tail _ (.head _))).2.symm, List.forall_mem_cons.mpr ⟨hD9g, List.forall_mem_cons.mpr ⟨(N16 _ (.head _)).2.symm, List.forall_mem_cons.mpr ⟨hddg, fun _ h => nomatch h⟩⟩⟩⟩
      have hnd4 : ([s₁.heap.objs.size + 1, D9, D15, dd] : List Nat).Nodup := by
        have q1 : s₁.heap.objs.size + 1 ≠ D15 := hD15 (s₁.heap.objs.size + 1, oc2) (by walk_at "sim")
        have q2 : D9 ≠ D15 := hD15 (D9, W.listOf vs9.toArray n9) (by walk_at "sim")
        have q3 : dd ≠ D15 := hD15 (dd, od') (by walk_at "sim")
        exact List.nodup_cons.mpr ⟨nmc hcD9 (nmc q1 (nmc hne3.symm nm0)), List.nodup_cons.mpr ⟨nmc q2 (nmc e9.symm nm0), List.nodup_cons.mpr ⟨nmc q3.symm nm0, List.nodup_cons.mpr ⟨nm0, List.nodup_nil⟩⟩⟩⟩
      have hlow4 : ∀ b ∈ ([s₁.heap.objs.size + 1, D9, D15, dd] : List Nat), ∃ o, h16.get? b = some o :=
        List.forall_mem_cons.mpr ⟨⟨_, hcell16⟩, List.forall_mem_cons.mpr ⟨⟨_, (N16 _ (.tail _ (.tail _ (.head _)))).1⟩, List.forall_mem_cons.mpr ⟨⟨_, (N16 _ (.head _)).1⟩, List.forall_mem_cons.mpr ⟨⟨_, (N16 _ (.tail _ (.tail _ (.tail _ (.head _))))).1⟩, fun _ h => nomatch h⟩⟩⟩⟩
      have NC : News s₁.heap s₁.heap.objs.size h16 [(s₁.heap.objs.size + 1, oc2)] := fun q hq => by rw [List.mem_singleton.mp hq]; exact N16 _ (.tail _ (.head _))
      clear N16 F15 N15 hC15 hD15 hsz15 hT hd'
      (repeat' (walk_at "go"))
      rename Fr _ _ _ _ => F16
      refine' make_spec (n := 17) C F16 hcs16 ?k1 hok ?k2 ?_
      case k1 => exact (hnew4 D15 (by walk_at "sim")).2
      case k2 => omega
      intro a ps h17 tk17 S17 O17 hnew17 hk17 F17
      have W17 : LawW w s₁.heap s₁.heap.objs.size dd D9 [] D15 a ps cs [] (-1, 0) k' h17 := by
        have hL16 : NoTup h16 [s₁.heap.objs.size] := Mine.Fr.noTup F16
        have off : ∀ b ∈ ([s₁.heap.objs.size + 1, D9, D15, dd] : List Nat), b ∉ ([s₁.heap.objs.size] : List Nat) := fun b hb hm => (hnew4 b hb).2 (List.mem_singleton.mp hm)
        refine ⟨K16.kp hk17 (off _ (by walk_at "sim")) (off _ (by walk_at "sim")), (Mine.mkE1A1 oc2 (hk17 _ _ (off _ (by walk_at "sim")) hcell16) d12), hcs16.kp hk17 (off _ (by walk_at "sim")) hL16, S17, (fun q hq => nomatch hq), ?_, ?_, O17.lo1, O17.lo2, hok⟩
        · show (([s₁.heap.objs.size + 1, D9, D15, dd] : List Nat) ++ stp a ps).Nodup
          refine List.nodup_append.mpr ⟨hnd4, O17.nd, fun b hb c hc e => ?_⟩
          (refine Mine.exE1 (hlow4 b hb) ?_; intro o ho)
          have := hnew17 c hc
          rw [← e, ho] at this; cases this
        · intro b hb
          rcases List.mem_append.mp (show b ∈ ([s₁.heap.objs.size + 1, D9, D15, dd] : List Nat) ++ stp a ps from hb) with hb | hb
          · exact hnew4 b hb
          · have hn := hnew17 b hb
            refine ⟨?_, fun e => ?_⟩
            · cases e : s₁.heap.get? b with
              | none => rfl
              | some o => have := F16.keep _ _ e; rw [hn] at this; cases this
            · (refine Mine.exE3A1 F16.ns ?_; intro oL _ _ hL0 _)
              rw [e, hL0] at hn; cases hn
      have hk160 : k' ≤ 100 := by omega
      clear hnew17 hk17 S17 O17 hcs16 K16 NC hlow4 hnd4 hcell16 hk1 hcl hvl hsz9 e60 l60 l9 l9w
      have nt17 := Mine.Fr.noTup F17
      walk_at "hideG"
      obtain ⟨oc17, SN17, dc17, N17, hx17, kk17, -⟩ := W17.snap0 F17
      walk_at "showG"
      (repeat' (walk_at "go"))
      rename News _ _ _ _ => N19
      rename Fr _ _ _ _ => F19
      rename IsRange _ _ _ _ _ _ _ _ => hR
      rename_i h19 _ _ _ _ _
      have W19 := W17.plain nt17 (kk17 _ _ F19 N19)
      clear kk17 hx17 N19 W17 nt17
      have hIL : @Ne Nat h19.objs.size s₁.heap.objs.size := Nat.ne_of_gt F19.ns.lt
      have hI0 : s₁.heap.get? h19.objs.size = none := next_is_new F19
      refine' for_range_heap (n := 4) hh hR ?w1 ?w2 F19 (RoundJ w s₁.heap s₁.heap.objs.size dd D9 h19.objs.size) ?j0 ?hk ?turn ?done ?e1 ?e2
      case w1 => exact small_one (by omega) (by omega) (by omega) (by omega)
      case w2 => rfl
      case e1 => rfl
      case e2 => rfl
      case j0 => exact ⟨_, _, _, _, _, _, W19, lcs, by simpa using hk160, rfl, rfl, W19.fresh (Nat.le_refl _)⟩
      case hk =>
        intro i m h h' hjo4 Fh hnt hkp
        walk_at "hideG"
        obtain ⟨ca, a, ps, cs, k, ck, Wd, j1, j2, j3, j4, j5⟩ := hjo4
        walk_at "showG"
        refine ⟨ca, a, ps, cs, k, ck, Wd.kp hkp ?_ (fun b hb hm => ?_), j1, j2, j3, j4, j5⟩
        · intro b hb vs n e
          rcases List.mem_cons.mp hb with h | h
          · exact hnt b (by rw [h]; exact .head _) vs n e
          · exact Mine.Fr.noTup Fh b h vs n e
        · rcases List.mem_cons.mp hm with h | h
          · exact j5 (h ▸ hb)
          · exact (Wd.new b hb).2 (List.mem_singleton.mp h)
      case turn =>
        clear W19 lcs hk160 hok hR F19
        intro i tt m₁ h tk' oI hi4 hjo7 hI F0
        walk_at "hideG"
        obtain ⟨ca, a, ps, cs, k, ck, W0, lcs, lk, mc, ms, hIo⟩ := hjo7
        dsimp only at hI
        have W1 := W0.more (q := (h19.objs.size, oI)) hI hIo ⟨hI0, hIL⟩
        clear W0 hIo
        obtain ⟨oc1, SN1, dc1, N1, hx1, -, -⟩ := W1.snap0 F0
        walk_at "showG"
        (repeat' (walk_at "go"))
        rename Fr _ _ _ _ => F1
        refine' flip_spec (n := 19) C F1 hddg W1.coin ?k1 ?k2 ?k3 ?_
        case k1 => omega
        case k2 => omega
        case k3 => omega
        intro x1 tx1 h1 tk1 hx10 hx11 K1 hk1 F1
        replace W1 := W1.flip K1 hk1
        clear N1 hx1 dc1 hk1 K1
        walk_at "hideG"
        obtain ⟨oc1, SN1, dc1, N1, hx1, -, -⟩ := W1.snap0 F1
        walk_at "showG"
        (repeat' (walk_at "go"))
        rename Fr _ _ _ _ => F1
        refine' lits_spec (n := 18) C F1 hddg W1.coin ?k4 ?k5 ?k6 ?_
        case k4 => omega
        case k5 => omega
        case k6 => omega
        rename Fr _ _ _ _ => F1
        intro a2 c2 k2 h2 tk2 ha2 hT2 hok2 hl2 hk2a hk2b K2 hk2 F2
        have W2 := W1.flip K2 hk2
        walk_at "hideG"
        (refine Mine.exE2A1 (id hT2) ?_; intro vs2 n2 hv2 hi2)
        have a2g := W1.above F1 ha2
        clear N1 hx1 dc1 hk2 K2 W1
        obtain ⟨oc2', SN2, dc2, N2, hx2, kk2, km2⟩ := W2.snap0 F2
        walk_at "showG"
        have hm2 := km2 a2 _ hv2 a2g.1 a2g.2.1 a2g.2.2
        have nt2 := Mine.Fr.noTup F2
        clear km2
        have z2 : vs2.length ≤ 100000 := by rw [hi2.length]; omega
        (repeat' (walk_at "go"))
        rename News _ _ _ _ => N3
        rename Fr _ _ _ _ => F3
        rename_i Ds cDs hA lA lDs q hB lq td hC ot lot hsd fsd hid fid ltd Dt hD lDt hE hF hG h3
        have W3 := W2.plain nt2 (kk2 _ _ F3 (fun r hr => N3 r (.tail _ (.tail _ (.tail _ (.tail _ hr))))))
        have gDs := N3 _ (.tail _ (.tail _ (.tail _ (.head _))))
        have gq := N3 _ (.tail _ (.tail _ (.head _)))
        have gtd := N3 _ (.tail _ (.head _))
        have oDs := W2.fresh lA
        have lq' : @LE.le Nat _ h2.objs.size q := Nat.le_of_lt (Nat.lt_of_le_of_lt lA lq.1)
        have ltd' : @LE.le Nat _ h2.objs.size td := Nat.le_of_lt (Nat.lt_of_le_of_lt lq' ltd.1)
        have oq := W2.fresh lq'
        have otd := W2.fresh ltd'
        have hDq : @Ne Nat Ds q := Nat.ne_of_lt lq.1
        have hDt : @Ne Nat Ds td := Nat.ne_of_lt ltd.2.1
        have hqt : @Ne Nat q td := Nat.ne_of_lt ltd.1
        have hDc : @Ne Nat Ds (s₁.heap.objs.size + 1) := adr_ne1 oDs
        have hDsd : @Ne Nat Ds dd := adr_ned oDs
        have hqd : @Ne Nat q dd := adr_ned oq
        have htdd : @Ne Nat td dd := adr_ned otd
        clear kk2 hx2 hm2 z2 lA lDs lq ltd lDt hsd fsd fid nt2 W2 lq' ltd'
        (refine Mine.exE1A1 (Fr.gen F3) ?_; intro m3 hm3 F3')
        have mc3 : m3 (Str.ofString "clauses") = some (.ref ca) := by rw [hm3]; exact mc
        have ms3 : m3 (Str.ofString "steps") = some (.ref a.x) := by rw [hm3]; exact ms
        have mo3 : m3 (Str.ofString "some") = some (.ref Ds) := by rw [hm3]; rfl
        have mq3 : m3 (Str.ofString "queue") = some (.ref q) := by rw [hm3]; rfl
        have mt3 : m3 (Str.ofString "taken") = some (.ref td) := by rw [hm3]; rfl
        clear F3 hm3 mc ms
        refine' while_heap (n₀ := c2.length) (LapJ w s₁.heap s₁.heap.objs.size dd D9 h19.objs.size oI ca a ps cs Ds q td k2 m3) ?wF ?wJ ?turn ?wE
        case wF => exact F3'
        case wE => passes_own
        case wJ => exact ⟨_, _, _, _, _, [], _, _, W3, gDs.1, hi2, (Mine.mkE2A2 ([]) 0 gq.1 rfl (fun i x c h => nomatch h)), gtd.1, hid, rfl, by simp, by simp; omega, by simp, by simpa [keysOf] using LitsOk.of hok2, ovr_refl⟩
        case turn =>
          clear W3 N3 hid F3'
          intro n m4 h4 tk4 F4 hjo5
          walk_at "hideG"
          obtain ⟨vr, nr, rest, kvs, ot4, qs, ck4, k4, W4, hDs4, hir, hP4, hot4, hto4, rfl, hk4, hl4, hq4, hLit, hmm⟩ := hjo5
          rw [ovr_eq hmm] at F4
          obtain ⟨oc4, SN4, dc4, N4, hx4, hf4, kk4, km4⟩ := W4.snapf F4 [(Ds, W.listOf (List.toArray vr) nr)] (List.forall_mem_cons.mpr ⟨⟨hDs4, gDs.2⟩, fun _ h => nomatch h⟩)
          walk_at "showG"
          have nt4 := Mine.Fr.noTup F4
          dsimp only [List.cons_append, List.nil_append] at N4
          (repeat' (walk_at "go"))
          rename News _ _ _ _ => N5
          rename Fr _ _ _ _ => F5
          rename_i Dn h5 lDn
          have kp5 := kk4 _ _ F5 (fun r hr => N5 r (.tail _ (.tail _ hr)))
          have nt45 : NoTup h4 [s₁.heap.objs.size, Ds] := fac (nt4 _ (.head _)) (NoTup.nil.lst hDs4)
          have offN : ∀ b : Nat, b ∉ ([s₁.heap.objs.size, Ds] : List Nat) ↔ b ≠ s₁.heap.objs.size ∧ b ≠ Ds := fun b => by simp
          have W5 := W4.kp kp5 nt45 (fun b hb => (offN b).mpr ⟨(W4.new b hb).2, fun e => oDs (e ▸ hb)⟩)
          have hDs5 := (N5 _ (.tail _ (.head _))).1
          have hP5 := hP4.kp kp5 ((offN q).mpr ⟨gq.2.1, hDq.symm⟩) nt45
          have hot5 := kp5 _ _ ((offN td).mpr ⟨gtd.2.1, hDt.symm⟩) hot4
          clear kk4 km4 hx4 hf4 N5 kp5 nt45 W4 hP4 hot4 dc4 hDs4 nt4
          by_cases hr : rest = []
          · rw [if_neg (by simp [hr])]
            (repeat' (walk_at "behind"))
            (try dsimp only)
            clear hto4 hot5 hP5 hir hDs5 hLit hq4 offN lDn
            walk_at "hideG"
            obtain ⟨oc6, SN6, dc6, N6, hx6, -, -⟩ := W5.snap0 F5
            walk_at "showG"
            (iterate 5 (walk_at "go"))
            (try dsimp only)
            rename Fr _ _ _ _ => F6
            refine' callWith_K0 (K := hd.heap_39 w.params) ?k1 ?k2 ?_
            case k1 => exact C.G.X.keeps F6.keep
            case k2 => k_is
            refine' undo_spec (n := 19) C F6 W5.st W5.ok ?u1 W5.cok ?u2 ?u3 ?_
            case u1 =>
              have hn : ∀ b ∈ stp a ps, s₁.heap.get? b = none ∧ b ≠ s₁.heap.objs.size := fun b hb => W5.new b (List.mem_append_right _ (List.mem_append_right _ hb))
              exact (Mine.fac (hn _ (by walk_at "sim")) (Mine.fac (hn _ (by walk_at "sim")) (Mine.fac (hn _ (by walk_at "sim")) (Mine.fac (hn _ (by walk_at "sim")) Mine.fa0))))
            case u2 => exact ar_u lcs hi4
            case u3 => exact ar_v hl4
            intro h7 tk7 S7 hk7 F7
            have W7 := W5.steps hk7 (W5.st.noTup.sub (fun b hb => by
              exact (by walk_at "sub" : ∀ p ∈ _, p ∈ _) _ hb)) S7 (by
              exact (Mine.fac (.inl (by walk_at "sim")) (Mine.fac (.inl (by walk_at "sim")) (Mine.fac (.inl (by walk_at "sim")) (Mine.fac (.inl (by walk_at "sim")) Mine.fa0)))))
            clear S7 W5 hk7 N6 hx6 dc6 F6
            walk_at "hideG"
            (refine Mine.exE1A1 (Fr.gen F7) ?_; intro m7 hm7 F7')
            have mc7 : m7 (Str.ofString "clauses") = some (.ref ca) := by rw [hm7]; exact mc3
            have ms7 : m7 (Str.ofString "steps") = some (.ref a.x) := by rw [hm7]; exact ms3
            clear hm7 F7
            have nt7 := Mine.Fr.noTup F7'
            obtain ⟨oc7, SN7, dc7, N7, hx7, kk7, -⟩ := W7.snap0 F7'
            walk_at "showG"
            (repeat' (walk_at "go"))
            rename News _ _ _ _ => N8
            rename Fr _ _ _ _ => F8
            rename_i dN h8 oN loN hsN fsN hiN fiN lN
            have W8 := W7.plain nt7 (kk7 _ _ F8 (fun r hr => N8 r (.tail _ hr)))
            have gN := (N8 _ (.head _)).1
            have lcs9 := ar_u lcs hi4
            have lcs5 := ar_w lcs hi4
            refine' counts_spec (n := 19) (kvs := []) C F8 W8.cl ?u4 ?u5 gN hiN loN ?_
            case u4 => exact Nat.le_trans lcs9 (by decide)
            case u5 => exact fun c hc => Nat.le_trans (clause_len (W8.cok c hc)) (by decide)
            intro aT d1 d2 h9 tk9 haT hT9 hl1 hl2 hd1g hd2g hk9 F9
            have W9 := W8.keeps hk9
            have aTg := W8.above F8 haT
            have d1g := W8.above F8 hd1g
            have d2g := W8.above F8 hd2g
            have d1d : @Ne Nat d1 dd := adr_ned (W8.fresh hd1g)
            have d2d : @Ne Nat d2 dd := adr_ned (W8.fresh hd2g)
            have d1o := W8.fresh hd1g
            have d2o := W8.fresh hd2g
            dsimp only at haT hd1g hd2g
            clear N8 gN hsN fsN hiN fiN lN kk7 nt7 hx7 dc7 W7 hk9
            walk_at "hideG"
            obtain ⟨oc9, SN9, dc9, N9, hx9, kk9, km9⟩ := W9.snap0 F9
            walk_at "showG"
            have hmT := km9 aT _ hT9 aTg.1 aTg.2.1 aTg.2.2
            have nt9 := Mine.Fr.noTup F9
            clear km9
            (repeat' (walk_at "go"))
            rename News _ _ _ _ => N10
            rename Fr _ _ _ _ => F10
            rename_i h10
            have kp10 := kk9 _ _ F10 N10
            have W10 := W9.plain nt9 kp10
            have hl1' := hl1.kp kp10 (fun hm => d1g.2.1 (List.mem_singleton.mp hm))
            have hl2' := hl2.kp kp10 (fun hm => d2g.2.1 (List.mem_singleton.mp hm))
            (refine Mine.exE1A1 (Fr.gen F10) ?_; intro m11 hm11 F10')
            have mc11 : m11 (Str.ofString "clauses") = some (.ref ca) := by rw [hm11]; exact mc7
            have ms11 : m11 (Str.ofString "steps") = some (.ref a.x) := by rw [hm11]; exact ms7
            have mh11 : m11 (Str.ofString "held") = some (.ref d1) := by rw [hm11]; rfl
            have mo11 : m11 (Str.ofString "still") = some (.ref d2) := by rw [hm11]; rfl
            clear hm11 F10 N10 kk9 hmT hx9 dc9 nt9 W9 hl1 hl2 hT9 kp10 mc7 ms7
            (refine Mine.exE2A1 (id W10.st.dx) ?_; intro tte10 kc10 hdx10 hck10)
            (refine Mine.exE1A1 (id W10.st.ta) ?_; intro ot10 hot10 hto10)
            refine' state_spec2 (n := 19) (a := a) (e := .int (emptyOf cs) tte10) (ck := .ref kc10) C F10' W10.st.x hdx10 W10.st.he W10.st.op W10.st.tr hot10 hto10 W10.lo2 ?z1 ?z2 ?z3 ?z4 ?_
            case z1 => rw [List.length_map]; exact Nat.le_trans lcs9 (by decide)
            case z2 => rw [List.length_map]; exact Nat.le_trans lcs9 (by decide)
            case z3 => exact Nat.zero_le _
            case z4 => exact Nat.zero_le _
            intro tt11 e1 e2 e3 e4 h11 tk11 htt ett l1 l2 l3 hod lod hge hk11 F11
            walk_at "hideG"
            (refine Mine.exE1A1 hod ?_; (try clear hod); intro od eod hod)
            dsimp only at htt hge hk11
            have W11 := W10.keeps hk11
            have hl11 := hl1'.kp hk11 (fun hm => nomatch hm)
            have hl12 := hl2'.kp hk11 (fun hm => nomatch hm)
            have y1 := hge _ (.head _)
            have y2 := hge _ (.tail _ (.head _))
            have y3 := hge _ (.tail _ (.tail _ (.head _)))
            have y4 := hge _ (.tail _ (.tail _ (.tail _ (.head _))))
            clear hge
            have yt := (W10.above F10' htt).2.1
            have z1' := (W10.above F10' y1).2.1
            have z2' := (W10.above F10' y2).2.1
            have z3' := (W10.above F10' y3).2.1
            have z4' := (W10.above F10' y4).2.1
            clear hto10 hot10 hck10 hdx10 hl1' hl2' hk11 W10 htt y1 y2 y3 y4
            obtain ⟨oc11, SN11, dc11, N11, hx11, kk11, -⟩ := W11.snap0 F11
            walk_at "showG"
            have nt11 := Mine.Fr.noTup F11
            (iterate 13 (walk_at "go"))
            rename News _ _ _ _ => N12
            rename Fr _ _ _ _ => F12
            rename_i lQ h12a lQl dQ h12b oQ loQ hsQ fsQ hiQ fiQ ldQ DQ h12 lDQ
            have kp12 : Kp [s₁.heap.objs.size] h11 h12 := kk11 _ _ F12 (fun r hr => N12 r (.tail _ (.tail _ (.tail _ hr))))
            have offL : ∀ b : Nat, b ≠ s₁.heap.objs.size → b ∉ ([s₁.heap.objs.size] : List Nat) := fun b hb hm => hb (List.mem_singleton.mp hm)
            have W12 := W11.plain nt11 kp12
            have hl21 := hl11.kp kp12 (offL _ d1g.2.1)
            have hl22 := hl12.kp kp12 (offL _ d2g.2.1)
            have b1 := l1.kp kp12 (offL _ z1')
            have b2 := l2.kp kp12 (offL _ z2')
            have b3 := l3.kp kp12 (offL _ z3')
            have b4 := kp12 _ _ (offL _ z4') eod
            have b5 := kp12 _ _ (offL _ yt) ett
            refine ne_tuple_same b5 (N12 _ (.head _)).1 rfl (room0) (fun j h1 h2 => by
              match j, h1, h2 with
              | 0, _, _ => exact same_ints b1 hl21 room1
              | 1, _, _ => exact same_ints b2 hl22 room1
              | 2, _, _ => exact same_ints b3 (Mine.mkE2A1 ([]) 0 ((N12 _ (.tail _ (.tail _ (.head _)))).1) (.nil)) room1
              | 3, _, _ => exact same_dict lod loQ b4 hod (N12 _ (.tail _ (.head _))).1 hiQ room1) ?_
            clear N12 b1 b2 b3 b4 b5 hsQ fsQ hiQ fiQ hod kk11 kp12 W11 hl11 hl12 l1 l2 l3 eod ett hx11 dc11 nt11 lQl ldQ lDQ
            walk_at "hideG"
            obtain ⟨oc12, SN12, dc12, N12, hx12, -, -⟩ := W12.snap0 F12
            walk_at "showG"
            (repeat' (walk_at "go"))
            rw [if_neg (by walk_at "sim")]
            (repeat' (walk_at "go")); (try dsimp only)
            (repeat' (walk_at "go"))
            rename Fr _ _ _ _ => F12
            refine' flip_spec (n := 19) C F12 hddg W12.coin ?v1 ?v2 ?v3 ?_
            case v1 => exact ar_1 hk4 hk2b hx11 lk hi4 hl4
            case v2 => decide
            case v3 => decide
            intro x13 tx13 h13 tk13 hx130 hx131 K13 hk13 F13
            have W13 := W12.flip K13 hk13
            have hl31 := hl21.kp hk13 (fun hm => d1d (List.mem_singleton.mp hm))
            have hl32 := hl22.kp hk13 (fun hm => d2d (List.mem_singleton.mp hm))
            clear N12 F12 K13 hk13 W12 hl21 hl22 hx12 dc12
            walk_at "hideG"
            obtain ⟨oc13, SN13, dc13, N13, hx13, -, -⟩ := W13.snap0 F13
            walk_at "showG"
            (repeat' (walk_at "go"))
            rename Fr _ _ _ _ => F13
            refine' lits_spec (n := 18) C F13 hddg W13.coin ?v4 ?v5 ?v6 ?_
            case v4 => exact ar_2 hk4 hk2b hx11 lk hi4 hl4
            case v5 => exact hx130
            case v6 => exact ar_3 hx131
            intro a14 c14 k14 h14 tk14 ha14 hT14 hok14 hlc14 hk14a hk14b K14 hk14 F14
            have W14 := W13.flip K14 hk14
            have a14g := W13.above F13 ha14
            have a14o := W13.fresh ha14
            have hl41 := hl31.kp hk14 (fun hm => d1d (List.mem_singleton.mp hm))
            have hl42 := hl32.kp hk14 (fun hm => d2d (List.mem_singleton.mp hm))
            clear N13 K14 hk14 W13 hl31 hl32 hx13 dc13 ha14 F13
            walk_at "hideG"
            (refine Mine.exE2A1 (id hT14) ?_; intro vs14 n14 hv14 hi14)
            (refine Mine.exE2A1 (id W14.st.dx) ?_; intro tte14 kc14 hnst222 hclr223; obtain ⟨hs14, ts14, nd14, hdx14⟩ := hnst222; clear hclr223)
            have gst : ∀ b ∈ stp a ps, s₁.heap.get? b = none ∧ b ≠ s₁.heap.objs.size := fun b hb => W14.new b (List.mem_append_right _ (List.mem_append_right _ hb))
            have gsc : ∀ b ∈ stp a ps, b ≠ s₁.heap.objs.size + 1 := fun b hb e => W14.apart.2.1 (s₁.heap.objs.size + 1) (by walk_at "sim") (e ▸ hb)
            obtain ⟨oc14, SN14, dc14, N14, hx14, kk14, km14⟩ := W14.snap0 F14
            walk_at "showG"
            have hmA := km14 a14 _ hv14 a14g.1 a14g.2.1 a14g.2.2
            have hmx := km14 a.x _ W14.st.x (gst _ (by walk_at "sim")).1 (gst _ (by walk_at "sim")).2 (gsc _ (by walk_at "sim"))
            have hmd := km14 a.dx _ hdx14 (gst _ (by walk_at "sim")).1 (gst _ (by walk_at "sim")).2 (gsc _ (by walk_at "sim"))
            have zA : vs14.length ≤ 100000 := by rw [hi14.length]; exact ar_4 hlc14 hx131
            have nt14 := Mine.Fr.noTup F14
            clear km14 hdx14
            (repeat' (walk_at "go"))
            rename_i h15a F15a N15a Dl cDl h15 F15 N15 l15 lA15
            have W15a := W14.plain nt14 (kk14 _ _ F15a N15a)
            have hDlo := W15a.fresh l15
            have kp15 : Kp [s₁.heap.objs.size] h14 h15 := kk14 _ _ F15 (fun r hr => N15 r (.tail _ hr))
            have W15 := W14.plain nt14 kp15
            have hA15 : ListInts h15 Dl c14 := (Mine.mkE2A1 vs14 cDl ((N15 _ (.head _)).1) hi14)
            have hT15 := hT14.kp kp15 (offL _ a14g.2.1)
            have hl51 := hl41.kp kp15 (offL _ d1g.2.1)
            have hl52 := hl42.kp kp15 (offL _ d2g.2.1)
            (refine Mine.exE1A1 (Fr.gen F15) ?_; intro m15 hm15 F15')
            have mc15 : m15 (Str.ofString "clauses") = some (.ref ca) := by rw [hm15]; exact mc11
            have ms15 : m15 (Str.ofString "steps") = some (.ref a.x) := by rw [hm15]; exact ms11
            have mh15 : m15 (Str.ofString "held") = some (.ref d1) := by rw [hm15]; exact mh11
            have mo15 : m15 (Str.ofString "still") = some (.ref d2) := by rw [hm15]; exact mo11
            have ma15 : m15 (Str.ofString "asked") = some (.ref a14) := by rw [hm15]; rfl
            clear hm15 F15 N15 kk14 hmA hmx hmd kp15 W14 hl41 hl42 hT14 hv14 hx14 dc14 nt14 W15a F15a N15a lA15 l15 mc11 ms11 mh11 mo11
            refine' forced_spec (n := 16) (asked := c14) C F15' W15.st W15.ok hA15 ?w1 ?w2 W15.cok lcs5 ?w4 ?w5 ?_
            case w1 => exact fun hm => hDlo (List.mem_append_right _ (List.mem_append_right _ hm))
            case w2 =>
              exact (Mine.fac (gst _ (by walk_at "sim")) (Mine.fac (gst _ (by walk_at "sim")) (Mine.fac (gst _ (by walk_at "sim")) (Mine.fac (gst _ (by walk_at "sim")) (Mine.fac (gst _ (by walk_at "sim")) Mine.fa0)))))
            case w4 => exact hok14.1
            case w5 => exact ar_5 hlc14 hx131
            intro v16 ck16 h16 tk16 S16 hR16 hk16 F16
            have hR16' : ForcedR cs c14 v16 h16 := hR16
            have nt15 : NoTup h15 [a.dx, a.he, a.op, a.ta, a.tr] := W15.st.noTup.sub (fun b hb => by
              exact (by walk_at "sub" : ∀ p ∈ _, p ∈ _) _ hb)
            have W16 := W15.steps hk16 nt15 S16 (by
              exact (Mine.fac (.inl (by walk_at "sim")) (Mine.fac (.inl (by walk_at "sim")) (Mine.fac (.inl (by walk_at "sim")) (Mine.fac (.inl (by walk_at "sim")) (Mine.fac (.inl (by walk_at "sim")) Mine.fa0))))))
            have off5 : ∀ b : Nat, b ∉ stp a ps → b ∉ ([a.dx, a.he, a.op, a.ta, a.tr] : List Nat) := fun b hb => nmc (nem hb (by walk_at "mem")) (nmc (nem hb (by walk_at "mem")) (nmc (nem hb (by walk_at "mem")) (nmc (nem hb (by walk_at "mem")) (nmc (nem hb (by walk_at "mem")) nm0))))
            have offS : ∀ b : Nat, b ∉ ((([(h19.objs.size, oI)] : List (Addr × Obj)).map (·.1) : List Nat) ++ adr s₁.heap.objs.size dd D9 ca a ps) → b ∉ stp a ps := fun b hb hm => hb (List.mem_append_right _ (List.mem_append_right _ hm))
            have hT16 := hT15.kp hk16 (off5 _ (offS _ a14o))
            have hl61 := hl51.kp hk16 (off5 _ (offS _ d1o))
            have hl62 := hl52.kp hk16 (off5 _ (offS _ d2o))
            clear S16 hR16 hk16 nt15 W15 hT15 hl51 hl52 hA15 hDlo F15'
            walk_at "hideG"
            obtain ⟨oc16, SN16, dc16, N16, hx16, -, -⟩ := W16.snap0 F16
            walk_at "showG"
            (repeat' (walk_at "go"))
            rename Fr _ _ _ _ => F16
            refine' law_forced_spec (n := 19) (asked := c14) C F16 W16.cl hT16 W16.cok lcs5 ?w6 hok14.con ?w7 ?_
            case w6 => exact fun l hl => (hok14.1 l hl).2
            case w7 => exact ar_5 hlc14 hx131
            intro v17 h17 tk17 hR17 hk17 F17
            have W17 := W16.keeps hk17
            have hR16'' := hR16'.kp hk17 (fun _ _ h => nomatch h)
            have hl71 := hl61.kp hk17 (fun h => nomatch h)
            have hl72 := hl62.kp hk17 (fun h => nomatch h)
            refine forced_same hR16'' hR17 room0 ?wn _ ?_
            case wn =>
              intro Q hQ
              (repeat' (walk_at "go"))
              exact hQ
            clear N16 F16 hx16 dc16 W16 hR16' hR16'' hR17 hl61 hl62 hk17 hT16
            walk_at "hideG"
            obtain ⟨oc17, SN17, dc17, N17, hx17, kk17, -⟩ := W17.snap0 F17
            walk_at "showG"
            (iterate 1 (walk_at "go"))
            rw [if_neg (by walk_at "sim")]
            (repeat' (walk_at "go"))
            rename Fr _ _ _ _ => F17
            clear N17 kk17 hx17 dc17
            (refine Mine.exE2A1 (id W17.st.dx) ?_; intro tte18 kc18 hdx18 hck18)
            (refine Mine.exE1A1 (id W17.st.ta) ?_; intro ot18 hot18 hto18)
            refine' state_spec2 (n := 19) (a := a) (e := .int (emptyOf cs) tte18) (ck := .ref kc18) C F17 W17.st.x hdx18 W17.st.he W17.st.op W17.st.tr hot18 hto18 W17.lo2 ?z1 ?z2 ?z3 ?z4 ?_
            case z1 => rw [List.length_map]; exact Nat.le_trans lcs9 (by decide)
            case z2 => rw [List.length_map]; exact Nat.le_trans lcs9 (by decide)
            case z3 => exact Nat.zero_le _
            case z4 => exact Nat.zero_le _
            intro tt18 e1 e2 e3 e4 h18 tk18 htt ett l1 l2 l3 hod lod hge hk18 F18
            walk_at "hideG"
            (refine Mine.exE1A1 hod ?_; (try clear hod); intro od eod hod)
            dsimp only at htt hge hk18
            have W18 := W17.keeps hk18
            have hl81 := hl71.kp hk18 (fun hm => nomatch hm)
            have hl82 := hl72.kp hk18 (fun hm => nomatch hm)
            have y1 := hge _ (.head _)
            have y2 := hge _ (.tail _ (.head _))
            have y3 := hge _ (.tail _ (.tail _ (.head _)))
            have y4 := hge _ (.tail _ (.tail _ (.tail _ (.head _))))
            clear hge
            have yt := (W17.above F17 htt).2.1
            have z1' := (W17.above F17 y1).2.1
            have z2' := (W17.above F17 y2).2.1
            have z3' := (W17.above F17 y3).2.1
            have z4' := (W17.above F17 y4).2.1
            clear hto18 hot18 hck18 hdx18 hl71 hl72 hk18 W17 htt y1 y2 y3 y4 F17
            obtain ⟨oc18, SN18, dc18, N18, hx18, kk18, -⟩ := W18.snap0 F18
            walk_at "showG"
            have nt18 := Mine.Fr.noTup F18
            (iterate 13 (walk_at "go"))
            rename News _ _ _ _ => N19
            rename Fr _ _ _ _ => F19
            rename_i lQ2 h19a lQl dQ2 h19b oQ2 loQ2 hsQ fsQ hiQ2 fiQ ldQ DQ2 h20 lDQ
            have kp20 : Kp [s₁.heap.objs.size] h18 h20 := kk18 _ _ F19 (fun r hr => N19 r (.tail _ (.tail _ (.tail _ hr))))
            have W20 := W18.plain nt18 kp20
            have hl91 := hl81.kp kp20 (offL _ d1g.2.1)
            have hl92 := hl82.kp kp20 (offL _ d2g.2.1)
            have b1 := l1.kp kp20 (offL _ z1')
            have b2 := l2.kp kp20 (offL _ z2')
            have b3 := l3.kp kp20 (offL _ z3')
            have b4 := kp20 _ _ (offL _ z4') eod
            have b5 := kp20 _ _ (offL _ yt) ett
            refine ne_tuple_same b5 (N19 _ (.head _)).1 rfl room0 (fun j h1 h2 => by
              match j, h1, h2 with
              | 0, _, _ => exact same_ints b1 hl91 room1
              | 1, _, _ => exact same_ints b2 hl92 room1
              | 2, _, _ => exact same_ints b3 (Mine.mkE2A1 ([]) 0 ((N19 _ (.tail _ (.tail _ (.head _)))).1) (.nil)) room1
              | 3, _, _ => exact same_dict lod loQ2 b4 hod (N19 _ (.tail _ (.head _))).1 hiQ2 room1) ?_
            clear N19 b1 b2 b3 b4 b5 hsQ fsQ hiQ2 fiQ hod kk18 kp20 W18 hl81 hl82 l1 l2 l3 eod ett hx18 dc18 nt18 lQl ldQ lDQ hl91 hl92
            walk_at "hideG"
            obtain ⟨oc20, SN20, dc20, N20, hx20, -, -⟩ := W20.snap0 F19
            walk_at "showG"
            (iterate 1 (walk_at "go"))
            rw [if_neg (by walk_at "sim")]
            (try dsimp only)
            (repeat' (walk_at "go"))
            rw [if_neg (by walk_at "sim")]
            (try dsimp only)
            (repeat' (walk_at "go"))
            rename Fr _ _ _ _ => F20
            refine' flip_spec (n := 19) C F20 hddg W20.coin ?x1 ?x2 ?x3 ?_
            case x1 => exact Int.le_trans (Int.le_of_lt (Int.lt_add_one_of_le (Int.le_refl _))) (Int.le_trans (ar_6 hk14b hx131 hk4 hk2b hx11 lk hi4 hl4) (by decide))
            case x2 => decide
            case x3 => decide
            intro x21 tx21 h21 tk21 hx210 hx211 K21 hk21 F21
            have W21 := W20.flip K21 hk21
            clear N20 F20 K21 hk21 W20 hx20 dc20
            walk_at "hideG"
            obtain ⟨oc21, SN21, dc21, N21, hx21, -, -⟩ := W21.snap0 F21
            walk_at "showG"
            (repeat' (walk_at "go"))
            rename Fr _ _ _ _ => F21
            refine' lits_spec (n := 18) C F21 hddg W21.coin ?x4 ?x5 ?x6 ?_
            case x4 => exact ar_6 hk14b hx131 hk4 hk2b hx11 lk hi4 hl4
            case x5 => exact hx210
            case x6 => exact ar_8 hx211
            intro a22 c22 k22 h22 tk22 ha22 hT22 hok22 hlc22 hk22a hk22b K22 hk22 F22
            have W22 := W21.flip K22 hk22
            have a22g := W21.above F21 ha22
            clear N21 K22 hk22 W21 hx21 dc21 ha22 F21
            walk_at "hideG"
            (refine Mine.exE2A2 (id W22.cl) ?_; intro as22 na22 hca22 hal22 haf22)
            (refine Mine.exE2A1 (id W22.st.dx) ?_; intro tte22 kc22 hnst224 hclr225; obtain ⟨hs22, ts22, nd22, hdx22⟩ := hnst224; clear hclr225)
            have cag := W22.new ca (by walk_at "sim")
            have cagc : ca ≠ s₁.heap.objs.size + 1 := fun e => by
              have := (List.nodup_append.mp (List.nodup_append.mp W22.nd).2.1).1
              rw [e] at this
              simp at this
            obtain ⟨oc22, SN22, dc22, N22, hx22, kk22, km22⟩ := W22.snap0 F22
            walk_at "showG"
            have hmC := km22 ca _ hca22 cag.1 cag.2 cagc
            have hmx := km22 a.x _ W22.st.x (gst _ (by walk_at "sim")).1 (gst _ (by walk_at "sim")).2 (gsc _ (by walk_at "sim"))
            have hmd := km22 a.dx _ hdx22 (gst _ (by walk_at "sim")).1 (gst _ (by walk_at "sim")).2 (gsc _ (by walk_at "sim"))
            have zC : (as22.map Value.ref).length ≤ 100000 := by rw [List.length_map, hal22]; exact Nat.le_trans lcs9 (by decide)
            have nt22 := Mine.Fr.noTup F22
            clear hdx22
            (repeat' (walk_at "go"))
            rename News _ _ _ _ => N23
            rename Fr _ _ _ _ => F23
            rename_i lL h23 lLl
            have hallD : ∀ D : Nat, (∀ q ∈ ((lL, W.listOf #[Value.ref a22] 0) :: (s₁.heap.objs.size + 1, oc22) :: SN22 : List (Addr × Obj)), q.1 < D) → D ∉ ((([(h19.objs.size, oI)] : List (Addr × Obj)).map (·.1) : List Nat) ++ adr s₁.heap.objs.size dd D9 ca a ps) := fun D hD hm => by
              (refine Mine.exE1 (W22.live D hm) ?_; intro o ho)
              have hn := W22.new D hm
              by_cases e : D = s₁.heap.objs.size + 1
              · have := hD (s₁.heap.objs.size + 1, oc22) (by walk_at "sim")
                rw [e] at this; exact Nat.lt_irrefl _ this
              · have := hD (D, o) (.tail _ (.tail _ (km22 D o ho hn.1 hn.2 e)))
                exact Nat.lt_irrefl _ this
            refine' add_two (vs := as22.map Value.ref) (ws := [Value.ref a22]) F23 N23 (N23 _ (.tail _ (.tail _ hmC))).1 (N23 _ (.head _)).1 zC ?za ?_
            case za => simp
            intro Dc h24 F24 N24 lDc
            have hDo := hallD Dc lDc
            have hDg := (N24 _ (.head _)).2
            clear hallD km22
            (repeat' (walk_at "go"))
            rename News _ _ _ _ => N25
            rename Fr _ _ _ _ => F25
            rename_i h25
            have kp25 : Kp [s₁.heap.objs.size] h22 h25 := kk22 _ _ F25 (fun r hr => N25 r (.tail _ (.tail _ hr)))
            have W25 := W22.plain nt22 kp25
            have hT25 := hT22.kp kp25 (offL _ a22g.2.1)
            have hcl25 : ClausesAt h25 Dc (cs ++ [c22]) := ClausesAt.snoc hal22 (fun i y d h1 h2 => by
              (refine Mine.exE2A1 (haf22 i y d h1 h2) ?_; intro vs n e hi)
              exact (Mine.mkE2A1 vs n (kp25 _ _ (nt22.off e) e) hi)) hT25 (N25 _ (.head _)).1
            have ms25 := ms15
            refine' add_spec (n := 19) (c := c22) C F25 W25.st W25.ok hT25 hok22 ?y1 ?y2 ?_
            case y1 =>
              intro b hb
              refine gst b ?_
              rcases List.mem_append.mp hb with h | h
              · refine List.mem_append_left _ ?_
                exact (by walk_at "sub" : ∀ p ∈ _, p ∈ _) _ h
              · exact List.mem_append_right _ h
            case y2 => exact Nat.le_trans lcs5 (by decide)
            intro ps' h26 tk26 S26 O26 hps26 hk26 F26
            have W26 := W25.grow F25 hk26 S26 O26 hps26 hcl25 hDo ⟨hDg.2, hDg.1⟩ hok22
            clear S26 hk26 hps26 W25 hT25 N25
            walk_at "hideG"
            obtain ⟨oc26, SN26, dc26, N26, hx26, -, -⟩ := W26.snap0 F26
            walk_at "showG"
            (repeat' (walk_at "go"))
            rename Fr _ _ _ _ => F27
            refine turnH F27 (W26.keep (h19.objs.size, oI) (.head _)) ⟨Dc, a, ps', cs ++ [c22], k22, ck16, W26.less, ?_, ar_7 hk22b hx211 hk14b hx131 hk4 hk2b hx11 lk hl4, rfl, ms25, W26.apart.1 _ (.head _)⟩
            rw [List.length_append, List.length_singleton]; exact ar_10 lcs
          · rw [if_pos (by simpa using hr)]
            walk_at "hideG"
            obtain ⟨oc6, SN6, dc6, N6, hx6, hf6, kk6, km6⟩ := W5.snapf F5 [(Ds, W.listOf (List.toArray vr) nr)] (List.forall_mem_cons.mpr ⟨⟨hDs5, gDs.2⟩, fun _ h => nomatch h⟩)
            walk_at "showG"
            dsimp only [List.cons_append, List.nil_append] at N6
            have hlr := hir.length
            have hrp : 0 < rest.length := List.length_pos_iff.mpr hr
            (repeat' (walk_at "go"))
            rename Fr _ _ _ _ => F6
            refine' flip_spec (n := 19) C F6 hddg W5.coin ?p1 ?p2 ?p3 ?_
            case p1 => omega
            case p2 => omega
            case p3 => omega
            intro x7 tx7 h7 tk7 hx70 hx71 K7 hk7 F7
            have W7 := W5.flip K7 hk7
            have hDs7 := hk7 _ _ (fun hm => hDsd (List.mem_singleton.mp hm)) hDs5
            have hP7 := hP5.kp hk7 (fun hm => hqd (List.mem_singleton.mp hm)) W5.coin.noTup
            have hot7 := hk7 _ _ (fun hm => htdd (List.mem_singleton.mp hm)) hot5
            dsimp only at hDs7
            clear N6 dc6 hx6 hf6 kk6 km6 F6 hk7 K7 W5 hP5 hot5 hDs5
            walk_at "hideG"
            obtain ⟨oc7, SN7, dc7, N7, hx7, hf7, kk7, km7⟩ := W7.snapf F7 [(Ds, W.listOf (List.toArray vr) nr)] (List.forall_mem_cons.mpr ⟨⟨hDs7, gDs.2⟩, fun _ h => nomatch h⟩)
            walk_at "showG"
            have nt7 : NoTup h7 [s₁.heap.objs.size, Ds] := (NoTup.nil.lst hDs7).ns F7
            dsimp only [List.cons_append, List.nil_append] at N7
            (repeat' (walk_at "go"))
            rename News _ _ _ _ => N7
            rename Fr _ _ _ _ => F7
            refine' pop_intAt F7 N7 (List.forall_mem_cons.mpr ⟨hDc.symm, fun r hr e => hf7 r hr (by rw [e]; exact .head _)⟩) hir hx70 (by omega) (by omega) ?_
            intro pv qv l tl rp rq h8 hrest hir8 F8 N8
            have kp8 := kk7 _ _ F8 (fun r hr => N8 r (.tail _ hr))
            have W8 := W7.kp kp8 nt7 (fun b hb => (offN b).mpr ⟨(W7.new b hb).2, fun e => oDs (e ▸ hb)⟩)
            have hDs8 := (N8 _ (.head _)).1
            have hP8 := hP7.kp kp8 ((offN q).mpr ⟨gq.2.1, hDq.symm⟩) nt7
            have hot8 := kp8 _ _ ((offN td).mpr ⟨gtd.2.1, hDt.symm⟩) hot7
            dsimp only at hDs8
            clear N7 F7 dc7 hx7 hf7 kk7 km7 kp8 W7 hP7 hot7 hDs7 N8 nt7
            walk_at "hideG"
            obtain ⟨oc8, SN8, dc8, N8, hx8, kk8, -⟩ := W8.snap0 F8
            walk_at "showG"
            have nt8 := Mine.Fr.noTup F8
            (repeat' (walk_at "go"))
            rename News _ _ _ _ => N9
            rename Fr _ _ _ _ => F9
            rename_i h9
            have kp9 : Kp [s₁.heap.objs.size] h8 h9 := kk8 _ _ F9 N9
            have W9 := W8.plain nt8 kp9
            have hDs9 := kp9 _ _ (fun hm => gDs.2.1 (List.mem_singleton.mp hm)) hDs8
            have hP9 := hP8.kp kp9 (fun hm => gq.2.1 (List.mem_singleton.mp hm)) nt8
            have hot9 := kp9 _ _ (fun hm => gtd.2.1 (List.mem_singleton.mp hm)) hot8
            clear N9 kk8 nt8 kp9 W8 hDs8 hP8 hot8 dc8 hx8
            (refine Mine.exE1A1 (Fr.gen F9) ?_; intro m5 hm5 F9')
            have mc5 : m5 (Str.ofString "clauses") = some (.ref ca) := by rw [hm5]; exact mc3
            have ms5 : m5 (Str.ofString "steps") = some (.ref a.x) := by rw [hm5]; exact ms3
            have mq5 : m5 (Str.ofString "queue") = some (.ref q) := by rw [hm5]; exact mq3
            have mt5 : m5 (Str.ofString "taken") = some (.ref td) := by rw [hm5]; exact mt3
            have ml5 : m5 (Str.ofString "literal") = some (.int l tl) := by rw [hm5]; rfl
            have mm5 : ∀ y, [Str.ofString "literal"].contains y = false → m5 y = m3 y := by rw [hm5]; exact ovr_set ovr_ovr rfl
            clear hm5 F9
            refine' flip_spec (n := 19) C F9' hddg W9.coin ?p4 ?p5 ?p6 ?_
            case p4 => omega
            case p5 => omega
            case p6 => omega
            intro x10 tx10 h10 tk10 _ _ K10 hk10 F10
            have W10 := W9.flip K10 hk10
            have hDs10 := hk10 _ _ (fun hm => hDsd (List.mem_singleton.mp hm)) hDs9
            have hP10 := hP9.kp hk10 (fun hm => hqd (List.mem_singleton.mp hm)) W9.coin.noTup
            have hot10 := hk10 _ _ (fun hm => htdd (List.mem_singleton.mp hm)) hot9
            clear K10 hk10 W9 hDs9 hP9 hot9 F9'
            walk_at "hideG"
            obtain ⟨oc10, SN10, dc10, N10, hx10, -, -⟩ := W10.snap0 F10
            walk_at "showG"
            (repeat' (walk_at "go"))
            rename Fr _ _ _ _ => F10
            have hlo := LitsOk.off (l := l) hLit (by rw [hrest]; simp)
            have hrl : rest.length = rp.length + (rq.length + 1) := by rw [hrest]; simp
            refine' is_taken_spec (n := 17) (qs := qs) (kvs := kvs) C F10 W10.st W10.ok W10.cl hP10 hot10 hto4 lot ?hq ?htd hqt ?hca ?hmut hlo.1 hlo.2 ?hl0 W10.cok ?b1 ?b2 ?b3 ?_
            case hq => exact adr_stp oq
            case htd => exact adr_stp otd
            case hca =>
              have h1 := W10.apart.2.1 ca (by walk_at "sim")
              exact nmc (nem h1 (by walk_at "mem")) (nmc (nem h1 (by walk_at "mem")) (nmc (nem h1 (by walk_at "mem")) (nmc (nem h1 (by walk_at "mem")) (nmc (nem h1 (by walk_at "mem")) (nmc (adr_nec oq).symm (nmc (adr_nec otd).symm nm0))))))
            case hmut =>
              have hn : ∀ b ∈ stp a ps, s₁.heap.get? b = none ∧ b ≠ s₁.heap.objs.size := fun b hb => W10.new b (List.mem_append_right _ (List.mem_append_right _ hb))
              exact (Mine.fac (hn _ (by walk_at "sim")) (Mine.fac (hn _ (by walk_at "sim")) (Mine.fac (hn _ (by walk_at "sim")) (Mine.fac (hn _ (by walk_at "sim")) (Mine.fac (hn _ (by walk_at "sim")) (Mine.fac gq.2.symm (Mine.fac gtd.2.symm Mine.fa0)))))))
            case hl0 => exact hLit.nz l (by rw [hrest]; simp)
            case b1 => omega
            case b2 => omega
            case b3 => omega
            intro ot11 h11 tk11 S11 P11 hot11 hto11 hk11 F11
            have nt11 : NoTup h10 [a.dx, a.he, a.op, a.ta, a.tr, q, td] := by
              have H := W10.st.noTup
              (refine Mine.exE2A1 hP10 ?_; intro _ _ e2 _)
              exact fac (H _ (by walk_at "mem")) (fac (H _ (by walk_at "mem")) (fac (H _ (by walk_at "mem")) (fac (H _ (by walk_at "mem")) (fac (H _ (by walk_at "mem")) ((NoTup.nil.isd hot10 hto4).lst e2)))))
            have W11 := W10.steps hk11 nt11 S11 (by
              exact (Mine.fac (.inl (by walk_at "sim")) (Mine.fac (.inl (by walk_at "sim")) (Mine.fac (.inl (by walk_at "sim")) (Mine.fac (.inl (by walk_at "sim")) (Mine.fac (.inl (by walk_at "sim")) (Mine.fac (.inr oq) (Mine.fac (.inr otd) Mine.fa0))))))))
            have hDs11 := hk11 _ _ (by
              have h1 := adr_stp oDs
              exact nmc (nem h1 (by walk_at "mem")) (nmc (nem h1 (by walk_at "mem")) (nmc (nem h1 (by walk_at "mem")) (nmc (nem h1 (by walk_at "mem")) (nmc (nem h1 (by walk_at "mem")) (nmc hDq (nmc hDt nm0))))))) hDs10
            clear S11 N10 W10 hDs10 hP10 hot10 hk11 nt11 hx10 dc10
            walk_at "hideG"
            obtain ⟨oc12, SN12, dc12, N12, hx12, -, -⟩ := W11.snap0 F11
            walk_at "showG"
            (repeat' (walk_at "go"))
            rw [if_neg (by walk_at "sim")]
            (repeat' (walk_at "go"))
            (repeat' (walk_at "go")); (try dsimp only)
            (repeat' (walk_at "go"))
            rename Fr _ _ _ _ => F12
            have hdl := Nat.le_trans (dues_len (T := keysOf kvs ++ [l]) (cs := cs) (idxOf cs (-l))) idx_len
            refine stepH (n' := (rp ++ rq).length) F12 (by rw [List.length_append]; exact ar_l hrl) ⟨_, _, _, _, _, _, _, _, W11, hDs11, hir8, P11, hot11, hto11, rfl, ?_, ?_, ?_, ?_, mm5⟩
            · rw [List.length_append, List.length_singleton]; exact ar_k hk4
            · rw [List.length_append, List.length_append, List.length_singleton]; exact ar_r hl4 hrl
            · rw [List.length_append, List.length_append, List.length_singleton]; exact ar_q hq4 hdl lcs hi4
            · exact LitsOk.take (hrest ▸ hLit)
      case done =>
        rintro h tk' m' F3 -
        (repeat' (walk_at "go")); (try dsimp only)
        (repeat' (walk_at "go"))
        (repeat' (walk_at "go")); (try dsimp only)
        wrow_close

end Mine

theorem PySem.Challenge.cw_rr0077_01_holds : PySem.Challenge.rw_rr0077_01.Holds :=
  Mine.law_holds
