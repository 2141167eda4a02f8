import PyProof.Rows.All
import Wide.All
import OpenK.AllK
import Wide.FinOn
import Lean
import PySem.Challenge.RW_nz0538_01
open PySem PySem.W PyProof.Rows
set_option Elab.async false
set_option maxRecDepth 100000
set_option maxHeartbeats 8000000
namespace Mine
section -- L0
/-- see unus: a proof is written in the type of a trivial one -/
noncomputable def Us {P : Prop} (_ : P) : Prop := True
theorem unus {P : Prop} {h : P} (_ : Us h) : P := h
/-! what is known by parts, taken apart at once -/
theorem ob_ccccccccl {p1 : Prop} {p2 : Prop} {p3 : Prop} {p4 : Prop} {p5 : Prop} {p6 : Prop} {p7 : Prop} {p8 : Prop} {p9 : Prop} {C : Prop} (h : p1 ∧ p2 ∧ p3 ∧ p4 ∧ p5 ∧ p6 ∧ p7 ∧ p8 ∧ p9) (k : p1 → p2 → p3 → p4 → p5 → p6 → p7 → p8 → p9 → C) : C := k h.1 h.2.1 h.2.2.1 h.2.2.2.1 h.2.2.2.2.1 h.2.2.2.2.2.1 h.2.2.2.2.2.2.1 h.2.2.2.2.2.2.2.1 h.2.2.2.2.2.2.2.2
theorem ob_cccccceeecl {α β γ : Type} {p1 : Prop} {p2 : Prop} {p3 : Prop} {p4 : Prop} {p5 : Prop} {p6 : Prop} {p7 : α → β → γ → Prop} {p8 : α → β → γ → Prop} {C : Prop} (h : p1 ∧ p2 ∧ p3 ∧ p4 ∧ p5 ∧ p6 ∧ (∃ x0 : α, ∃ x1 : β, ∃ x2 : γ, p7 x0 x1 x2 ∧ p8 x0 x1 x2)) (k : p1 → p2 → p3 → p4 → p5 → p6 → ∀ x0 : α, ∀ x1 : β, ∀ x2 : γ, p7 x0 x1 x2 → p8 x0 x1 x2 → C) : C := h.2.2.2.2.2.2.elim fun x0 h6 => h6.elim fun x1 h7 => h7.elim fun x2 h8 => k h.1 h.2.1 h.2.2.1 h.2.2.2.1 h.2.2.2.2.1 h.2.2.2.2.2.1 x0 x1 x2 h8.1 h8.2
theorem ob_cccccel {α : Type} {p1 : Prop} {p2 : Prop} {p3 : Prop} {p4 : Prop} {p5 : Prop} {p6 : α → Prop} {C : Prop} (h : p1 ∧ p2 ∧ p3 ∧ p4 ∧ p5 ∧ (∃ x0 : α, p6 x0)) (k : p1 → p2 → p3 → p4 → p5 → ∀ x0 : α, p6 x0 → C) : C := h.2.2.2.2.2.elim fun x0 h5 => k h.1 h.2.1 h.2.2.1 h.2.2.2.1 h.2.2.2.2.1 x0 h5
theorem ob_cccccl {p1 : Prop} {p2 : Prop} {p3 : Prop} {p4 : Prop} {p5 : Prop} {p6 : Prop} {C : Prop} (h : p1 ∧ p2 ∧ p3 ∧ p4 ∧ p5 ∧ p6) (k : p1 → p2 → p3 → p4 → p5 → p6 → C) : C := k h.1 h.2.1 h.2.2.1 h.2.2.2.1 h.2.2.2.2.1 h.2.2.2.2.2
theorem ob_cccceeecl {α β γ : Type} {p1 : Prop} {p2 : Prop} {p3 : Prop} {p4 : Prop} {p5 : α → β → γ → Prop} {p6 : α → β → γ → Prop} {C : Prop} (h : p1 ∧ p2 ∧ p3 ∧ p4 ∧ (∃ x0 : α, ∃ x1 : β, ∃ x2 : γ, p5 x0 x1 x2 ∧ p6 x0 x1 x2)) (k : p1 → p2 → p3 → p4 → ∀ x0 : α, ∀ x1 : β, ∀ x2 : γ, p5 x0 x1 x2 → p6 x0 x1 x2 → C) : C := h.2.2.2.2.elim fun x0 h4 => h4.elim fun x1 h5 => h5.elim fun x2 h6 => k h.1 h.2.1 h.2.2.1 h.2.2.2.1 x0 x1 x2 h6.1 h6.2
theorem ob_ccccel {α : Type} {p1 : Prop} {p2 : Prop} {p3 : Prop} {p4 : Prop} {p5 : α → Prop} {C : Prop} (h : p1 ∧ p2 ∧ p3 ∧ p4 ∧ (∃ x0 : α, p5 x0)) (k : p1 → p2 → p3 → p4 → ∀ x0 : α, p5 x0 → C) : C := h.2.2.2.2.elim fun x0 h4 => k h.1 h.2.1 h.2.2.1 h.2.2.2.1 x0 h4
theorem ob_ccccl {p1 : Prop} {p2 : Prop} {p3 : Prop} {p4 : Prop} {p5 : Prop} {C : Prop} (h : p1 ∧ p2 ∧ p3 ∧ p4 ∧ p5) (k : p1 → p2 → p3 → p4 → p5 → C) : C := k h.1 h.2.1 h.2.2.1 h.2.2.2.1 h.2.2.2.2
theorem ob_cccel {α : Type} {p1 : Prop} {p2 : Prop} {p3 : Prop} {p4 : α → Prop} {C : Prop} (h : p1 ∧ p2 ∧ p3 ∧ (∃ x0 : α, p4 x0)) (k : p1 → p2 → p3 → ∀ x0 : α, p4 x0 → C) : C := h.2.2.2.elim fun x0 h3 => k h.1 h.2.1 h.2.2.1 x0 h3
theorem ob_cccl {p1 : Prop} {p2 : Prop} {p3 : Prop} {p4 : Prop} {C : Prop} (h : p1 ∧ p2 ∧ p3 ∧ p4) (k : p1 → p2 → p3 → p4 → C) : C := k h.1 h.2.1 h.2.2.1 h.2.2.2
theorem ob_ccel {α : Type} {p1 : Prop} {p2 : Prop} {p3 : α → Prop} {C : Prop} (h : p1 ∧ p2 ∧ (∃ x0 : α, p3 x0)) (k : p1 → p2 → ∀ x0 : α, p3 x0 → C) : C := h.2.2.elim fun x0 h2 => k h.1 h.2.1 x0 h2
theorem ob_ccl {p1 : Prop} {p2 : Prop} {p3 : Prop} {C : Prop} (h : p1 ∧ p2 ∧ p3) (k : p1 → p2 → p3 → C) : C := k h.1 h.2.1 h.2.2
theorem ob_ceccl {α : Type} {p1 : Prop} {p2 : α → Prop} {p3 : α → Prop} {p4 : α → Prop} {C : Prop} (h : p1 ∧ (∃ x0 : α, p2 x0 ∧ p3 x0 ∧ p4 x0)) (k : p1 → ∀ x0 : α, p2 x0 → p3 x0 → p4 x0 → C) : C := h.2.elim fun x0 h1 => k h.1 x0 h1.1 h1.2.1 h1.2.2
theorem ob_cecl {α : Type} {p1 : Prop} {p2 : α → Prop} {p3 : α → Prop} {C : Prop} (h : p1 ∧ (∃ x0 : α, p2 x0 ∧ p3 x0)) (k : p1 → ∀ x0 : α, p2 x0 → p3 x0 → C) : C := h.2.elim fun x0 h1 => k h.1 x0 h1.1 h1.2
theorem ob_ceecccccl {α β : Type} {p1 : Prop} {p2 : α → β → Prop} {p3 : α → β → Prop} {p4 : α → β → Prop} {p5 : α → β → Prop} {p6 : α → β → Prop} {p7 : α → β → Prop} {C : Prop} (h : p1 ∧ (∃ x0 : α, ∃ x1 : β, p2 x0 x1 ∧ p3 x0 x1 ∧ p4 x0 x1 ∧ p5 x0 x1 ∧ p6 x0 x1 ∧ p7 x0 x1)) (k : p1 → ∀ x0 : α, ∀ x1 : β, p2 x0 x1 → p3 x0 x1 → p4 x0 x1 → p5 x0 x1 → p6 x0 x1 → p7 x0 x1 → C) : C := h.2.elim fun x0 h1 => h1.elim fun x1 h2 => k h.1 x0 x1 h2.1 h2.2.1 h2.2.2.1 h2.2.2.2.1 h2.2.2.2.2.1 h2.2.2.2.2.2
theorem ob_ceeccl {α β : Type} {p1 : Prop} {p2 : α → β → Prop} {p3 : α → β → Prop} {p4 : α → β → Prop} {C : Prop} (h : p1 ∧ (∃ x0 : α, ∃ x1 : β, p2 x0 x1 ∧ p3 x0 x1 ∧ p4 x0 x1)) (k : p1 → ∀ x0 : α, ∀ x1 : β, p2 x0 x1 → p3 x0 x1 → p4 x0 x1 → C) : C := h.2.elim fun x0 h1 => h1.elim fun x1 h2 => k h.1 x0 x1 h2.1 h2.2.1 h2.2.2
theorem ob_ceeecccl {α β γ : Type} {p1 : Prop} {p2 : α → β → γ → Prop} {p3 : α → β → γ → Prop} {p4 : α → β → γ → Prop} {p5 : α → β → γ → Prop} {C : Prop} (h : p1 ∧ (∃ x0 : α, ∃ x1 : β, ∃ x2 : γ, p2 x0 x1 x2 ∧ p3 x0 x1 x2 ∧ p4 x0 x1 x2 ∧ p5 x0 x1 x2)) (k : p1 → ∀ x0 : α, ∀ x1 : β, ∀ x2 : γ, p2 x0 x1 x2 → p3 x0 x1 x2 → p4 x0 x1 x2 → p5 x0 x1 x2 → C) : C := h.2.elim fun x0 h1 => h1.elim fun x1 h2 => h2.elim fun x2 h3 => k h.1 x0 x1 x2 h3.1 h3.2.1 h3.2.2.1 h3.2.2.2
theorem ob_ceeeccl {α β γ : Type} {p1 : Prop} {p2 : α → β → γ → Prop} {p3 : α → β → γ → Prop} {p4 : α → β → γ → Prop} {C : Prop} (h : p1 ∧ (∃ x0 : α, ∃ x1 : β, ∃ x2 : γ, p2 x0 x1 x2 ∧ p3 x0 x1 x2 ∧ p4 x0 x1 x2)) (k : p1 → ∀ x0 : α, ∀ x1 : β, ∀ x2 : γ, p2 x0 x1 x2 → p3 x0 x1 x2 → p4 x0 x1 x2 → C) : C := h.2.elim fun x0 h1 => h1.elim fun x1 h2 => h2.elim fun x2 h3 => k h.1 x0 x1 x2 h3.1 h3.2.1 h3.2.2
theorem ob_ceeecl {α β γ : Type} {p1 : Prop} {p2 : α → β → γ → Prop} {p3 : α → β → γ → Prop} {C : Prop} (h : p1 ∧ (∃ x0 : α, ∃ x1 : β, ∃ x2 : γ, p2 x0 x1 x2 ∧ p3 x0 x1 x2)) (k : p1 → ∀ x0 : α, ∀ x1 : β, ∀ x2 : γ, p2 x0 x1 x2 → p3 x0 x1 x2 → C) : C := h.2.elim fun x0 h1 => h1.elim fun x1 h2 => h2.elim fun x2 h3 => k h.1 x0 x1 x2 h3.1 h3.2
theorem ob_ceeeeeecccccccl {α β γ δ ε ζ : Type} {p1 : Prop} {p2 : α → β → γ → δ → ε → ζ → Prop} {p3 : α → β → γ → δ → ε → ζ → Prop} {p4 : α → β → γ → δ → ε → ζ → Prop} {p5 : α → β → γ → δ → ε → ζ → Prop} {p6 : α → β → γ → δ → ε → ζ → Prop} {p7 : α → β → γ → δ → ε → ζ → Prop} {p8 : α → β → γ → δ → ε → ζ → Prop} {p9 : α → β → γ → δ → ε → ζ → Prop} {C : Prop} (h : p1 ∧ (∃ x0 : α, ∃ x1 : β, ∃ x2 : γ, ∃ x3 : δ, ∃ x4 : ε, ∃ x5 : ζ, p2 x0 x1 x2 x3 x4 x5 ∧ p3 x0 x1 x2 x3 x4 x5 ∧ p4 x0 x1 x2 x3 x4 x5 ∧ p5 x0 x1 x2 x3 x4 x5 ∧ p6 x0 x1 x2 x3 x4 x5 ∧ p7 x0 x1 x2 x3 x4 x5 ∧ p8 x0 x1 x2 x3 x4 x5 ∧ p9 x0 x1 x2 x3 x4 x5)) (k : p1 → ∀ x0 : α, ∀ x1 : β, ∀ x2 : γ, ∀ x3 : δ, ∀ x4 : ε, ∀ x5 : ζ, p2 x0 x1 x2 x3 x4 x5 → p3 x0 x1 x2 x3 x4 x5 → p4 x0 x1 x2 x3 x4 x5 → p5 x0 x1 x2 x3 x4 x5 → p6 x0 x1 x2 x3 x4 x5 → p7 x0 x1 x2 x3 x4 x5 → p8 x0 x1 x2 x3 x4 x5 → p9 x0 x1 x2 x3 x4 x5 → C) : C := h.2.elim fun x0 h1 => h1.elim fun x1 h2 => h2.elim fun x2 h3 => h3.elim fun x3 h4 => h4.elim fun x4 h5 => h5.elim fun x5 h6 => k h.1 x0 x1 x2 x3 x4 x5 h6.1 h6.2.1 h6.2.2.1 h6.2.2.2.1 h6.2.2.2.2.1 h6.2.2.2.2.2.1 h6.2.2.2.2.2.2.1 h6.2.2.2.2.2.2.2
theorem ob_cl {p1 : Prop} {p2 : Prop} {C : Prop} (h : p1 ∧ p2) (k : p1 → p2 → C) : C := k h.1 h.2
theorem ob_eccccccccl {α : Type} {p1 : α → Prop} {p2 : α → Prop} {p3 : α → Prop} {p4 : α → Prop} {p5 : α → Prop} {p6 : α → Prop} {p7 : α → Prop} {p8 : α → Prop} {p9 : α → Prop} {C : Prop} (h : ∃ x0 : α, p1 x0 ∧ p2 x0 ∧ p3 x0 ∧ p4 x0 ∧ p5 x0 ∧ p6 x0 ∧ p7 x0 ∧ p8 x0 ∧ p9 x0) (k : ∀ x0 : α, p1 x0 → p2 x0 → p3 x0 → p4 x0 → p5 x0 → p6 x0 → p7 x0 → p8 x0 → p9 x0 → C) : C := h.elim fun x0 h0 => k x0 h0.1 h0.2.1 h0.2.2.1 h0.2.2.2.1 h0.2.2.2.2.1 h0.2.2.2.2.2.1 h0.2.2.2.2.2.2.1 h0.2.2.2.2.2.2.2.1 h0.2.2.2.2.2.2.2.2
theorem ob_eccccl {α : Type} {p1 : α → Prop} {p2 : α → Prop} {p3 : α → Prop} {p4 : α → Prop} {p5 : α → Prop} {C : Prop} (h : ∃ x0 : α, p1 x0 ∧ p2 x0 ∧ p3 x0 ∧ p4 x0 ∧ p5 x0) (k : ∀ x0 : α, p1 x0 → p2 x0 → p3 x0 → p4 x0 → p5 x0 → C) : C := h.elim fun x0 h0 => k x0 h0.1 h0.2.1 h0.2.2.1 h0.2.2.2.1 h0.2.2.2.2
theorem ob_ecccl {α : Type} {p1 : α → Prop} {p2 : α → Prop} {p3 : α → Prop} {p4 : α → Prop} {C : Prop} (h : ∃ x0 : α, p1 x0 ∧ p2 x0 ∧ p3 x0 ∧ p4 x0) (k : ∀ x0 : α, p1 x0 → p2 x0 → p3 x0 → p4 x0 → C) : C := h.elim fun x0 h0 => k x0 h0.1 h0.2.1 h0.2.2.1 h0.2.2.2
theorem ob_eccl {α : Type} {p1 : α → Prop} {p2 : α → Prop} {p3 : α → Prop} {C : Prop} (h : ∃ x0 : α, p1 x0 ∧ p2 x0 ∧ p3 x0) (k : ∀ x0 : α, p1 x0 → p2 x0 → p3 x0 → C) : C := h.elim fun x0 h0 => k x0 h0.1 h0.2.1 h0.2.2
theorem ob_ececl {α β : Type} {p1 : α → Prop} {p2 : α → β → Prop} {p3 : α → β → Prop} {C : Prop} (h : ∃ x0 : α, p1 x0 ∧ (∃ x1 : β, p2 x0 x1 ∧ p3 x0 x1)) (k : ∀ x0 : α, p1 x0 → ∀ x1 : β, p2 x0 x1 → p3 x0 x1 → C) : C := h.elim fun x0 h0 => h0.2.elim fun x1 h2 => k x0 h0.1 x1 h2.1 h2.2
theorem ob_eceeccl {α β γ : Type} {p1 : α → Prop} {p2 : α → β → γ → Prop} {p3 : α → β → γ → Prop} {p4 : α → β → γ → Prop} {C : Prop} (h : ∃ x0 : α, p1 x0 ∧ (∃ x1 : β, ∃ x2 : γ, p2 x0 x1 x2 ∧ p3 x0 x1 x2 ∧ p4 x0 x1 x2)) (k : ∀ x0 : α, p1 x0 → ∀ x1 : β, ∀ x2 : γ, p2 x0 x1 x2 → p3 x0 x1 x2 → p4 x0 x1 x2 → C) : C := h.elim fun x0 h0 => h0.2.elim fun x1 h2 => h2.elim fun x2 h3 => k x0 h0.1 x1 x2 h3.1 h3.2.1 h3.2.2
theorem ob_eceecl {α β γ : Type} {p1 : α → Prop} {p2 : α → β → γ → Prop} {p3 : α → β → γ → Prop} {C : Prop} (h : ∃ x0 : α, p1 x0 ∧ (∃ x1 : β, ∃ x2 : γ, p2 x0 x1 x2 ∧ p3 x0 x1 x2)) (k : ∀ x0 : α, p1 x0 → ∀ x1 : β, ∀ x2 : γ, p2 x0 x1 x2 → p3 x0 x1 x2 → C) : C := h.elim fun x0 h0 => h0.2.elim fun x1 h2 => h2.elim fun x2 h3 => k x0 h0.1 x1 x2 h3.1 h3.2
theorem ob_eceeecccl {α β γ δ : Type} {p1 : α → Prop} {p2 : α → β → γ → δ → Prop} {p3 : α → β → γ → δ → Prop} {p4 : α → β → γ → δ → Prop} {p5 : α → β → γ → δ → Prop} {C : Prop} (h : ∃ x0 : α, p1 x0 ∧ (∃ x1 : β, ∃ x2 : γ, ∃ x3 : δ, p2 x0 x1 x2 x3 ∧ p3 x0 x1 x2 x3 ∧ p4 x0 x1 x2 x3 ∧ p5 x0 x1 x2 x3)) (k : ∀ x0 : α, p1 x0 → ∀ x1 : β, ∀ x2 : γ, ∀ x3 : δ, p2 x0 x1 x2 x3 → p3 x0 x1 x2 x3 → p4 x0 x1 x2 x3 → p5 x0 x1 x2 x3 → C) : C := h.elim fun x0 h0 => h0.2.elim fun x1 h2 => h2.elim fun x2 h3 => h3.elim fun x3 h4 => k x0 h0.1 x1 x2 x3 h4.1 h4.2.1 h4.2.2.1 h4.2.2.2
theorem ob_ecel {α β : Type} {p1 : α → Prop} {p2 : α → β → Prop} {C : Prop} (h : ∃ x0 : α, p1 x0 ∧ (∃ x1 : β, p2 x0 x1)) (k : ∀ x0 : α, p1 x0 → ∀ x1 : β, p2 x0 x1 → C) : C := h.elim fun x0 h0 => h0.2.elim fun x1 h2 => k x0 h0.1 x1 h2
theorem ob_ecl {α : Type} {p1 : α → Prop} {p2 : α → Prop} {C : Prop} (h : ∃ x0 : α, p1 x0 ∧ p2 x0) (k : ∀ x0 : α, p1 x0 → p2 x0 → C) : C := h.elim fun x0 h0 => k x0 h0.1 h0.2
theorem ob_eecccl {α β : Type} {p1 : α → β → Prop} {p2 : α → β → Prop} {p3 : α → β → Prop} {p4 : α → β → Prop} {C : Prop} (h : ∃ x0 : α, ∃ x1 : β, p1 x0 x1 ∧ p2 x0 x1 ∧ p3 x0 x1 ∧ p4 x0 x1) (k : ∀ x0 : α, ∀ x1 : β, p1 x0 x1 → p2 x0 x1 → p3 x0 x1 → p4 x0 x1 → C) : C := h.elim fun x0 h0 => h0.elim fun x1 h1 => k x0 x1 h1.1 h1.2.1 h1.2.2.1 h1.2.2.2
theorem ob_eecceeel {α β γ δ ε : Type} {p1 : α → β → Prop} {p2 : α → β → Prop} {p3 : α → β → γ → δ → ε → Prop} {C : Prop} (h : ∃ x0 : α, ∃ x1 : β, p1 x0 x1 ∧ p2 x0 x1 ∧ (∃ x2 : γ, ∃ x3 : δ, ∃ x4 : ε, p3 x0 x1 x2 x3 x4)) (k : ∀ x0 : α, ∀ x1 : β, p1 x0 x1 → p2 x0 x1 → ∀ x2 : γ, ∀ x3 : δ, ∀ x4 : ε, p3 x0 x1 x2 x3 x4 → C) : C := h.elim fun x0 h0 => h0.elim fun x1 h1 => h1.2.2.elim fun x2 h4 => h4.elim fun x3 h5 => h5.elim fun x4 h6 => k x0 x1 h1.1 h1.2.1 x2 x3 x4 h6
theorem ob_eeccl {α β : Type} {p1 : α → β → Prop} {p2 : α → β → Prop} {p3 : α → β → Prop} {C : Prop} (h : ∃ x0 : α, ∃ x1 : β, p1 x0 x1 ∧ p2 x0 x1 ∧ p3 x0 x1) (k : ∀ x0 : α, ∀ x1 : β, p1 x0 x1 → p2 x0 x1 → p3 x0 x1 → C) : C := h.elim fun x0 h0 => h0.elim fun x1 h1 => k x0 x1 h1.1 h1.2.1 h1.2.2
theorem ob_eecl {α β : Type} {p1 : α → β → Prop} {p2 : α → β → Prop} {C : Prop} (h : ∃ x0 : α, ∃ x1 : β, p1 x0 x1 ∧ p2 x0 x1) (k : ∀ x0 : α, ∀ x1 : β, p1 x0 x1 → p2 x0 x1 → C) : C := h.elim fun x0 h0 => h0.elim fun x1 h1 => k x0 x1 h1.1 h1.2
theorem ob_eeeccccl {α β γ : Type} {p1 : α → β → γ → Prop} {p2 : α → β → γ → Prop} {p3 : α → β → γ → Prop} {p4 : α → β → γ → Prop} {p5 : α → β → γ → Prop} {C : Prop} (h : ∃ x0 : α, ∃ x1 : β, ∃ x2 : γ, p1 x0 x1 x2 ∧ p2 x0 x1 x2 ∧ p3 x0 x1 x2 ∧ p4 x0 x1 x2 ∧ p5 x0 x1 x2) (k : ∀ x0 : α, ∀ x1 : β, ∀ x2 : γ, p1 x0 x1 x2 → p2 x0 x1 x2 → p3 x0 x1 x2 → p4 x0 x1 x2 → p5 x0 x1 x2 → C) : C := h.elim fun x0 h0 => h0.elim fun x1 h1 => h1.elim fun x2 h2 => k x0 x1 x2 h2.1 h2.2.1 h2.2.2.1 h2.2.2.2.1 h2.2.2.2.2
theorem ob_eeecccl {α β γ : Type} {p1 : α → β → γ → Prop} {p2 : α → β → γ → Prop} {p3 : α → β → γ → Prop} {p4 : α → β → γ → Prop} {C : Prop} (h : ∃ x0 : α, ∃ x1 : β, ∃ x2 : γ, p1 x0 x1 x2 ∧ p2 x0 x1 x2 ∧ p3 x0 x1 x2 ∧ p4 x0 x1 x2) (k : ∀ x0 : α, ∀ x1 : β, ∀ x2 : γ, p1 x0 x1 x2 → p2 x0 x1 x2 → p3 x0 x1 x2 → p4 x0 x1 x2 → C) : C := h.elim fun x0 h0 => h0.elim fun x1 h1 => h1.elim fun x2 h2 => k x0 x1 x2 h2.1 h2.2.1 h2.2.2.1 h2.2.2.2
theorem ob_eeeccl {α β γ : Type} {p1 : α → β → γ → Prop} {p2 : α → β → γ → Prop} {p3 : α → β → γ → Prop} {C : Prop} (h : ∃ x0 : α, ∃ x1 : β, ∃ x2 : γ, p1 x0 x1 x2 ∧ p2 x0 x1 x2 ∧ p3 x0 x1 x2) (k : ∀ x0 : α, ∀ x1 : β, ∀ x2 : γ, p1 x0 x1 x2 → p2 x0 x1 x2 → p3 x0 x1 x2 → C) : C := h.elim fun x0 h0 => h0.elim fun x1 h1 => h1.elim fun x2 h2 => k x0 x1 x2 h2.1 h2.2.1 h2.2.2
theorem ob_eeecl {α β γ : Type} {p1 : α → β → γ → Prop} {p2 : α → β → γ → Prop} {C : Prop} (h : ∃ x0 : α, ∃ x1 : β, ∃ x2 : γ, p1 x0 x1 x2 ∧ p2 x0 x1 x2) (k : ∀ x0 : α, ∀ x1 : β, ∀ x2 : γ, p1 x0 x1 x2 → p2 x0 x1 x2 → C) : C := h.elim fun x0 h0 => h0.elim fun x1 h1 => h1.elim fun x2 h2 => k x0 x1 x2 h2.1 h2.2
theorem ob_eeeeccccccccccel {α β γ δ ε : Type} {p1 : α → β → γ → δ → Prop} {p2 : α → β → γ → δ → Prop} {p3 : α → β → γ → δ → Prop} {p4 : α → β → γ → δ → Prop} {p5 : α → β → γ → δ → Prop} {p6 : α → β → γ → δ → Prop} {p7 : α → β → γ → δ → Prop} {p8 : α → β → γ → δ → Prop} {p9 : α → β → γ → δ → Prop} {p10 : α → β → γ → δ → Prop} {p11 : α → β → γ → δ → ε → Prop} {C : Prop} (h : ∃ x0 : α, ∃ x1 : β, ∃ x2 : γ, ∃ x3 : δ, p1 x0 x1 x2 x3 ∧ p2 x0 x1 x2 x3 ∧ p3 x0 x1 x2 x3 ∧ p4 x0 x1 x2 x3 ∧ p5 x0 x1 x2 x3 ∧ p6 x0 x1 x2 x3 ∧ p7 x0 x1 x2 x3 ∧ p8 x0 x1 x2 x3 ∧ p9 x0 x1 x2 x3 ∧ p10 x0 x1 x2 x3 ∧ (∃ x4 : ε, p11 x0 x1 x2 x3 x4)) (k : ∀ x0 : α, ∀ x1 : β, ∀ x2 : γ, ∀ x3 : δ, p1 x0 x1 x2 x3 → p2 x0 x1 x2 x3 → p3 x0 x1 x2 x3 → p4 x0 x1 x2 x3 → p5 x0 x1 x2 x3 → p6 x0 x1 x2 x3 → p7 x0 x1 x2 x3 → p8 x0 x1 x2 x3 → p9 x0 x1 x2 x3 → p10 x0 x1 x2 x3 → ∀ x4 : ε, p11 x0 x1 x2 x3 x4 → C) : C := h.elim fun x0 h0 => h0.elim fun x1 h1 => h1.elim fun x2 h2 => h2.elim fun x3 h3 => h3.2.2.2.2.2.2.2.2.2.2.elim fun x4 h14 => k x0 x1 x2 x3 h3.1 h3.2.1 h3.2.2.1 h3.2.2.2.1 h3.2.2.2.2.1 h3.2.2.2.2.2.1 h3.2.2.2.2.2.2.1 h3.2.2.2.2.2.2.2.1 h3.2.2.2.2.2.2.2.2.1 h3.2.2.2.2.2.2.2.2.2.1 x4 h14
theorem ob_eeeecccccccel {α β γ δ ε : Type} {p1 : α → β → γ → δ → Prop} {p2 : α → β → γ → δ → Prop} {p3 : α → β → γ → δ → Prop} {p4 : α → β → γ → δ → Prop} {p5 : α → β → γ → δ → Prop} {p6 : α → β → γ → δ → Prop} {p7 : α → β → γ → δ → Prop} {p8 : α → β → γ → δ → ε → Prop} {C : Prop} (h : ∃ x0 : α, ∃ x1 : β, ∃ x2 : γ, ∃ x3 : δ, p1 x0 x1 x2 x3 ∧ p2 x0 x1 x2 x3 ∧ p3 x0 x1 x2 x3 ∧ p4 x0 x1 x2 x3 ∧ p5 x0 x1 x2 x3 ∧ p6 x0 x1 x2 x3 ∧ p7 x0 x1 x2 x3 ∧ (∃ x4 : ε, p8 x0 x1 x2 x3 x4)) (k : ∀ x0 : α, ∀ x1 : β, ∀ x2 : γ, ∀ x3 : δ, p1 x0 x1 x2 x3 → p2 x0 x1 x2 x3 → p3 x0 x1 x2 x3 → p4 x0 x1 x2 x3 → p5 x0 x1 x2 x3 → p6 x0 x1 x2 x3 → p7 x0 x1 x2 x3 → ∀ x4 : ε, p8 x0 x1 x2 x3 x4 → C) : C := h.elim fun x0 h0 => h0.elim fun x1 h1 => h1.elim fun x2 h2 => h2.elim fun x3 h3 => h3.2.2.2.2.2.2.2.elim fun x4 h11 => k x0 x1 x2 x3 h3.1 h3.2.1 h3.2.2.1 h3.2.2.2.1 h3.2.2.2.2.1 h3.2.2.2.2.2.1 h3.2.2.2.2.2.2.1 x4 h11
theorem ob_eeeecccccl {α β γ δ : Type} {p1 : α → β → γ → δ → Prop} {p2 : α → β → γ → δ → Prop} {p3 : α → β → γ → δ → Prop} {p4 : α → β → γ → δ → Prop} {p5 : α → β → γ → δ → Prop} {p6 : α → β → γ → δ → Prop} {C : Prop} (h : ∃ x0 : α, ∃ x1 : β, ∃ x2 : γ, ∃ x3 : δ, p1 x0 x1 x2 x3 ∧ p2 x0 x1 x2 x3 ∧ p3 x0 x1 x2 x3 ∧ p4 x0 x1 x2 x3 ∧ p5 x0 x1 x2 x3 ∧ p6 x0 x1 x2 x3) (k : ∀ x0 : α, ∀ x1 : β, ∀ x2 : γ, ∀ x3 : δ, p1 x0 x1 x2 x3 → p2 x0 x1 x2 x3 → p3 x0 x1 x2 x3 → p4 x0 x1 x2 x3 → p5 x0 x1 x2 x3 → p6 x0 x1 x2 x3 → C) : C := h.elim fun x0 h0 => h0.elim fun x1 h1 => h1.elim fun x2 h2 => h2.elim fun x3 h3 => k x0 x1 x2 x3 h3.1 h3.2.1 h3.2.2.1 h3.2.2.2.1 h3.2.2.2.2.1 h3.2.2.2.2.2
theorem ob_eeeeccccl {α β γ δ : Type} {p1 : α → β → γ → δ → Prop} {p2 : α → β → γ → δ → Prop} {p3 : α → β → γ → δ → Prop} {p4 : α → β → γ → δ → Prop} {p5 : α → β → γ → δ → Prop} {C : Prop} (h : ∃ x0 : α, ∃ x1 : β, ∃ x2 : γ, ∃ x3 : δ, p1 x0 x1 x2 x3 ∧ p2 x0 x1 x2 x3 ∧ p3 x0 x1 x2 x3 ∧ p4 x0 x1 x2 x3 ∧ p5 x0 x1 x2 x3) (k : ∀ x0 : α, ∀ x1 : β, ∀ x2 : γ, ∀ x3 : δ, p1 x0 x1 x2 x3 → p2 x0 x1 x2 x3 → p3 x0 x1 x2 x3 → p4 x0 x1 x2 x3 → p5 x0 x1 x2 x3 → C) : C := h.elim fun x0 h0 => h0.elim fun x1 h1 => h1.elim fun x2 h2 => h2.elim fun x3 h3 => k x0 x1 x2 x3 h3.1 h3.2.1 h3.2.2.1 h3.2.2.2.1 h3.2.2.2.2
theorem ob_eeeecccl {α β γ δ : Type} {p1 : α → β → γ → δ → Prop} {p2 : α → β → γ → δ → Prop} {p3 : α → β → γ → δ → Prop} {p4 : α → β → γ → δ → Prop} {C : Prop} (h : ∃ x0 : α, ∃ x1 : β, ∃ x2 : γ, ∃ x3 : δ, p1 x0 x1 x2 x3 ∧ p2 x0 x1 x2 x3 ∧ p3 x0 x1 x2 x3 ∧ p4 x0 x1 x2 x3) (k : ∀ x0 : α, ∀ x1 : β, ∀ x2 : γ, ∀ x3 : δ, p1 x0 x1 x2 x3 → p2 x0 x1 x2 x3 → p3 x0 x1 x2 x3 → p4 x0 x1 x2 x3 → C) : C := h.elim fun x0 h0 => h0.elim fun x1 h1 => h1.elim fun x2 h2 => h2.elim fun x3 h3 => k x0 x1 x2 x3 h3.1 h3.2.1 h3.2.2.1 h3.2.2.2
theorem ob_eeeecceecl {α β γ δ ε ζ : Type} {p1 : α → β → γ → δ → Prop} {p2 : α → β → γ → δ → Prop} {p3 : α → β → γ → δ → ε → ζ → Prop} {p4 : α → β → γ → δ → ε → ζ → Prop} {C : Prop} (h : ∃ x0 : α, ∃ x1 : β, ∃ x2 : γ, ∃ x3 : δ, p1 x0 x1 x2 x3 ∧ p2 x0 x1 x2 x3 ∧ (∃ x4 : ε, ∃ x5 : ζ, p3 x0 x1 x2 x3 x4 x5 ∧ p4 x0 x1 x2 x3 x4 x5)) (k : ∀ x0 : α, ∀ x1 : β, ∀ x2 : γ, ∀ x3 : δ, p1 x0 x1 x2 x3 → p2 x0 x1 x2 x3 → ∀ x4 : ε, ∀ x5 : ζ, p3 x0 x1 x2 x3 x4 x5 → p4 x0 x1 x2 x3 x4 x5 → C) : C := h.elim fun x0 h0 => h0.elim fun x1 h1 => h1.elim fun x2 h2 => h2.elim fun x3 h3 => h3.2.2.elim fun x4 h6 => h6.elim fun x5 h7 => k x0 x1 x2 x3 h3.1 h3.2.1 x4 x5 h7.1 h7.2
theorem ob_eeeeccl {α β γ δ : Type} {p1 : α → β → γ → δ → Prop} {p2 : α → β → γ → δ → Prop} {p3 : α → β → γ → δ → Prop} {C : Prop} (h : ∃ x0 : α, ∃ x1 : β, ∃ x2 : γ, ∃ x3 : δ, p1 x0 x1 x2 x3 ∧ p2 x0 x1 x2 x3 ∧ p3 x0 x1 x2 x3) (k : ∀ x0 : α, ∀ x1 : β, ∀ x2 : γ, ∀ x3 : δ, p1 x0 x1 x2 x3 → p2 x0 x1 x2 x3 → p3 x0 x1 x2 x3 → C) : C := h.elim fun x0 h0 => h0.elim fun x1 h1 => h1.elim fun x2 h2 => h2.elim fun x3 h3 => k x0 x1 x2 x3 h3.1 h3.2.1 h3.2.2
theorem ob_eeeeecccccl {α β γ δ ε : Type} {p1 : α → β → γ → δ → ε → Prop} {p2 : α → β → γ → δ → ε → Prop} {p3 : α → β → γ → δ → ε → Prop} {p4 : α → β → γ → δ → ε → Prop} {p5 : α → β → γ → δ → ε → Prop} {p6 : α → β → γ → δ → ε → Prop} {C : Prop} (h : ∃ x0 : α, ∃ x1 : β, ∃ x2 : γ, ∃ x3 : δ, ∃ x4 : ε, p1 x0 x1 x2 x3 x4 ∧ p2 x0 x1 x2 x3 x4 ∧ p3 x0 x1 x2 x3 x4 ∧ p4 x0 x1 x2 x3 x4 ∧ p5 x0 x1 x2 x3 x4 ∧ p6 x0 x1 x2 x3 x4) (k : ∀ x0 : α, ∀ x1 : β, ∀ x2 : γ, ∀ x3 : δ, ∀ x4 : ε, p1 x0 x1 x2 x3 x4 → p2 x0 x1 x2 x3 x4 → p3 x0 x1 x2 x3 x4 → p4 x0 x1 x2 x3 x4 → p5 x0 x1 x2 x3 x4 → p6 x0 x1 x2 x3 x4 → C) : C := h.elim fun x0 h0 => h0.elim fun x1 h1 => h1.elim fun x2 h2 => h2.elim fun x3 h3 => h3.elim fun x4 h4 => k x0 x1 x2 x3 x4 h4.1 h4.2.1 h4.2.2.1 h4.2.2.2.1 h4.2.2.2.2.1 h4.2.2.2.2.2
theorem ob_eeeeecccl {α β γ δ ε : Type} {p1 : α → β → γ → δ → ε → Prop} {p2 : α → β → γ → δ → ε → Prop} {p3 : α → β → γ → δ → ε → Prop} {p4 : α → β → γ → δ → ε → Prop} {C : Prop} (h : ∃ x0 : α, ∃ x1 : β, ∃ x2 : γ, ∃ x3 : δ, ∃ x4 : ε, p1 x0 x1 x2 x3 x4 ∧ p2 x0 x1 x2 x3 x4 ∧ p3 x0 x1 x2 x3 x4 ∧ p4 x0 x1 x2 x3 x4) (k : ∀ x0 : α, ∀ x1 : β, ∀ x2 : γ, ∀ x3 : δ, ∀ x4 : ε, p1 x0 x1 x2 x3 x4 → p2 x0 x1 x2 x3 x4 → p3 x0 x1 x2 x3 x4 → p4 x0 x1 x2 x3 x4 → C) : C := h.elim fun x0 h0 => h0.elim fun x1 h1 => h1.elim fun x2 h2 => h2.elim fun x3 h3 => h3.elim fun x4 h4 => k x0 x1 x2 x3 x4 h4.1 h4.2.1 h4.2.2.1 h4.2.2.2
theorem ob_eeeeeecccccccl {α β γ δ ε ζ : Type} {p1 : α → β → γ → δ → ε → ζ → Prop} {p2 : α → β → γ → δ → ε → ζ → Prop} {p3 : α → β → γ → δ → ε → ζ → Prop} {p4 : α → β → γ → δ → ε → ζ → Prop} {p5 : α → β → γ → δ → ε → ζ → Prop} {p6 : α → β → γ → δ → ε → ζ → Prop} {p7 : α → β → γ → δ → ε → ζ → Prop} {p8 : α → β → γ → δ → ε → ζ → Prop} {C : Prop} (h : ∃ x0 : α, ∃ x1 : β, ∃ x2 : γ, ∃ x3 : δ, ∃ x4 : ε, ∃ x5 : ζ, p1 x0 x1 x2 x3 x4 x5 ∧ p2 x0 x1 x2 x3 x4 x5 ∧ p3 x0 x1 x2 x3 x4 x5 ∧ p4 x0 x1 x2 x3 x4 x5 ∧ p5 x0 x1 x2 x3 x4 x5 ∧ p6 x0 x1 x2 x3 x4 x5 ∧ p7 x0 x1 x2 x3 x4 x5 ∧ p8 x0 x1 x2 x3 x4 x5) (k : ∀ x0 : α, ∀ x1 : β, ∀ x2 : γ, ∀ x3 : δ, ∀ x4 : ε, ∀ x5 : ζ, p1 x0 x1 x2 x3 x4 x5 → p2 x0 x1 x2 x3 x4 x5 → p3 x0 x1 x2 x3 x4 x5 → p4 x0 x1 x2 x3 x4 x5 → p5 x0 x1 x2 x3 x4 x5 → p6 x0 x1 x2 x3 x4 x5 → p7 x0 x1 x2 x3 x4 x5 → p8 x0 x1 x2 x3 x4 x5 → C) : C := h.elim fun x0 h0 => h0.elim fun x1 h1 => h1.elim fun x2 h2 => h2.elim fun x3 h3 => h3.elim fun x4 h4 => h4.elim fun x5 h5 => k x0 x1 x2 x3 x4 x5 h5.1 h5.2.1 h5.2.2.1 h5.2.2.2.1 h5.2.2.2.2.1 h5.2.2.2.2.2.1 h5.2.2.2.2.2.2.1 h5.2.2.2.2.2.2.2
theorem ob_eeeeeecl {α β γ δ ε ζ : Type} {p1 : α → β → γ → δ → ε → ζ → Prop} {p2 : α → β → γ → δ → ε → ζ → Prop} {C : Prop} (h : ∃ x0 : α, ∃ x1 : β, ∃ x2 : γ, ∃ x3 : δ, ∃ x4 : ε, ∃ x5 : ζ, p1 x0 x1 x2 x3 x4 x5 ∧ p2 x0 x1 x2 x3 x4 x5) (k : ∀ x0 : α, ∀ x1 : β, ∀ x2 : γ, ∀ x3 : δ, ∀ x4 : ε, ∀ x5 : ζ, p1 x0 x1 x2 x3 x4 x5 → p2 x0 x1 x2 x3 x4 x5 → C) : C := h.elim fun x0 h0 => h0.elim fun x1 h1 => h1.elim fun x2 h2 => h2.elim fun x3 h3 => h3.elim fun x4 h4 => h4.elim fun x5 h5 => k x0 x1 x2 x3 x4 x5 h5.1 h5.2
theorem ob_eeeeeeeeeccccccccl {α β γ δ ε ζ η θ ι : Type} {p1 : α → β → γ → δ → ε → ζ → η → θ → ι → Prop} {p2 : α → β → γ → δ → ε → ζ → η → θ → ι → Prop} {p3 : α → β → γ → δ → ε → ζ → η → θ → ι → Prop} {p4 : α → β → γ → δ → ε → ζ → η → θ → ι → Prop} {p5 : α → β → γ → δ → ε → ζ → η → θ → ι → Prop} {p6 : α → β → γ → δ → ε → ζ → η → θ → ι → Prop} {p7 : α → β → γ → δ → ε → ζ → η → θ → ι → Prop} {p8 : α → β → γ → δ → ε → ζ → η → θ → ι → Prop} {p9 : α → β → γ → δ → ε → ζ → η → θ → ι → Prop} {C : Prop} (h : ∃ x0 : α, ∃ x1 : β, ∃ x2 : γ, ∃ x3 : δ, ∃ x4 : ε, ∃ x5 : ζ, ∃ x6 : η, ∃ x7 : θ, ∃ x8 : ι, p1 x0 x1 x2 x3 x4 x5 x6 x7 x8 ∧ p2 x0 x1 x2 x3 x4 x5 x6 x7 x8 ∧ p3 x0 x1 x2 x3 x4 x5 x6 x7 x8 ∧ p4 x0 x1 x2 x3 x4 x5 x6 x7 x8 ∧ p5 x0 x1 x2 x3 x4 x5 x6 x7 x8 ∧ p6 x0 x1 x2 x3 x4 x5 x6 x7 x8 ∧ p7 x0 x1 x2 x3 x4 x5 x6 x7 x8 ∧ p8 x0 x1 x2 x3 x4 x5 x6 x7 x8 ∧ p9 x0 x1 x2 x3 x4 x5 x6 x7 x8) (k : ∀ x0 : α, ∀ x1 : β, ∀ x2 : γ, ∀ x3 : δ, ∀ x4 : ε, ∀ x5 : ζ, ∀ x6 : η, ∀ x7 : θ, ∀ x8 : ι, p1 x0 x1 x2 x3 x4 x5 x6 x7 x8 → p2 x0 x1 x2 x3 x4 x5 x6 x7 x8 → p3 x0 x1 x2 x3 x4 x5 x6 x7 x8 → p4 x0 x1 x2 x3 x4 x5 x6 x7 x8 → p5 x0 x1 x2 x3 x4 x5 x6 x7 x8 → p6 x0 x1 x2 x3 x4 x5 x6 x7 x8 → p7 x0 x1 x2 x3 x4 x5 x6 x7 x8 → p8 x0 x1 x2 x3 x4 x5 x6 x7 x8 → p9 x0 x1 x2 x3 x4 x5 x6 x7 x8 → C) : C := h.elim fun x0 h0 => h0.elim fun x1 h1 => h1.elim fun x2 h2 => h2.elim fun x3 h3 => h3.elim fun x4 h4 => h4.elim fun x5 h5 => h5.elim fun x6 h6 => h6.elim fun x7 h7 => h7.elim fun x8 h8 => k x0 x1 x2 x3 x4 x5 x6 x7 x8 h8.1 h8.2.1 h8.2.2.1 h8.2.2.2.1 h8.2.2.2.2.1 h8.2.2.2.2.2.1 h8.2.2.2.2.2.2.1 h8.2.2.2.2.2.2.2.1 h8.2.2.2.2.2.2.2.2
theorem ob_eeeeeeeeeeccccl {α β γ δ ε ζ η θ ι κ : Type} {p1 : α → β → γ → δ → ε → ζ → η → θ → ι → κ → Prop} {p2 : α → β → γ → δ → ε → ζ → η → θ → ι → κ → Prop} {p3 : α → β → γ → δ → ε → ζ → η → θ → ι → κ → Prop} {p4 : α → β → γ → δ → ε → ζ → η → θ → ι → κ → Prop} {p5 : α → β → γ → δ → ε → ζ → η → θ → ι → κ → Prop} {C : Prop} (h : ∃ x0 : α, ∃ x1 : β, ∃ x2 : γ, ∃ x3 : δ, ∃ x4 : ε, ∃ x5 : ζ, ∃ x6 : η, ∃ x7 : θ, ∃ x8 : ι, ∃ x9 : κ, p1 x0 x1 x2 x3 x4 x5 x6 x7 x8 x9 ∧ p2 x0 x1 x2 x3 x4 x5 x6 x7 x8 x9 ∧ p3 x0 x1 x2 x3 x4 x5 x6 x7 x8 x9 ∧ p4 x0 x1 x2 x3 x4 x5 x6 x7 x8 x9 ∧ p5 x0 x1 x2 x3 x4 x5 x6 x7 x8 x9) (k : ∀ x0 : α, ∀ x1 : β, ∀ x2 : γ, ∀ x3 : δ, ∀ x4 : ε, ∀ x5 : ζ, ∀ x6 : η, ∀ x7 : θ, ∀ x8 : ι, ∀ x9 : κ, p1 x0 x1 x2 x3 x4 x5 x6 x7 x8 x9 → p2 x0 x1 x2 x3 x4 x5 x6 x7 x8 x9 → p3 x0 x1 x2 x3 x4 x5 x6 x7 x8 x9 → p4 x0 x1 x2 x3 x4 x5 x6 x7 x8 x9 → p5 x0 x1 x2 x3 x4 x5 x6 x7 x8 x9 → C) : C := h.elim fun x0 h0 => h0.elim fun x1 h1 => h1.elim fun x2 h2 => h2.elim fun x3 h3 => h3.elim fun x4 h4 => h4.elim fun x5 h5 => h5.elim fun x6 h6 => h6.elim fun x7 h7 => h7.elim fun x8 h8 => h8.elim fun x9 h9 => k x0 x1 x2 x3 x4 x5 x6 x7 x8 x9 h9.1 h9.2.1 h9.2.2.1 h9.2.2.2.1 h9.2.2.2.2
theorem ob_eeeeeeeeeeccl {α β γ δ ε ζ η θ ι κ : Type} {p1 : α → β → γ → δ → ε → ζ → η → θ → ι → κ → Prop} {p2 : α → β → γ → δ → ε → ζ → η → θ → ι → κ → Prop} {p3 : α → β → γ → δ → ε → ζ → η → θ → ι → κ → Prop} {C : Prop} (h : ∃ x0 : α, ∃ x1 : β, ∃ x2 : γ, ∃ x3 : δ, ∃ x4 : ε, ∃ x5 : ζ, ∃ x6 : η, ∃ x7 : θ, ∃ x8 : ι, ∃ x9 : κ, p1 x0 x1 x2 x3 x4 x5 x6 x7 x8 x9 ∧ p2 x0 x1 x2 x3 x4 x5 x6 x7 x8 x9 ∧ p3 x0 x1 x2 x3 x4 x5 x6 x7 x8 x9) (k : ∀ x0 : α, ∀ x1 : β, ∀ x2 : γ, ∀ x3 : δ, ∀ x4 : ε, ∀ x5 : ζ, ∀ x6 : η, ∀ x7 : θ, ∀ x8 : ι, ∀ x9 : κ, p1 x0 x1 x2 x3 x4 x5 x6 x7 x8 x9 → p2 x0 x1 x2 x3 x4 x5 x6 x7 x8 x9 → p3 x0 x1 x2 x3 x4 x5 x6 x7 x8 x9 → C) : C := h.elim fun x0 h0 => h0.elim fun x1 h1 => h1.elim fun x2 h2 => h2.elim fun x3 h3 => h3.elim fun x4 h4 => h4.elim fun x5 h5 => h5.elim fun x6 h6 => h6.elim fun x7 h7 => h7.elim fun x8 h8 => h8.elim fun x9 h9 => k x0 x1 x2 x3 x4 x5 x6 x7 x8 x9 h9.1 h9.2.1 h9.2.2
theorem ob_eeeeeeeeeeeecccccccccl {α β γ δ ε ζ η θ ι κ μ ν : Type} {p1 : α → β → γ → δ → ε → ζ → η → θ → ι → κ → μ → ν → Prop} {p2 : α → β → γ → δ → ε → ζ → η → θ → ι → κ → μ → ν → Prop} {p3 : α → β → γ → δ → ε → ζ → η → θ → ι → κ → μ → ν → Prop} {p4 : α → β → γ → δ → ε → ζ → η → θ → ι → κ → μ → ν → Prop} {p5 : α → β → γ → δ → ε → ζ → η → θ → ι → κ → μ → ν → Prop} {p6 : α → β → γ → δ → ε → ζ → η → θ → ι → κ → μ → ν → Prop} {p7 : α → β → γ → δ → ε → ζ → η → θ → ι → κ → μ → ν → Prop} {p8 : α → β → γ → δ → ε → ζ → η → θ → ι → κ → μ → ν → Prop} {p9 : α → β → γ → δ → ε → ζ → η → θ → ι → κ → μ → ν → Prop} {p10 : α → β → γ → δ → ε → ζ → η → θ → ι → κ → μ → ν → Prop} {C : Prop} (h : ∃ x0 : α, ∃ x1 : β, ∃ x2 : γ, ∃ x3 : δ, ∃ x4 : ε, ∃ x5 : ζ, ∃ x6 : η, ∃ x7 : θ, ∃ x8 : ι, ∃ x9 : κ, ∃ x10 : μ, ∃ x11 : ν, p1 x0 x1 x2 x3 x4 x5 x6 x7 x8 x9 x10 x11 ∧ p2 x0 x1 x2 x3 x4 x5 x6 x7 x8 x9 x10 x11 ∧ p3 x0 x1 x2 x3 x4 x5 x6 x7 x8 x9 x10 x11 ∧ p4 x0 x1 x2 x3 x4 x5 x6 x7 x8 x9 x10 x11 ∧ p5 x0 x1 x2 x3 x4 x5 x6 x7 x8 x9 x10 x11 ∧ p6 x0 x1 x2 x3 x4 x5 x6 x7 x8 x9 x10 x11 ∧ p7 x0 x1 x2 x3 x4 x5 x6 x7 x8 x9 x10 x11 ∧ p8 x0 x1 x2 x3 x4 x5 x6 x7 x8 x9 x10 x11 ∧ p9 x0 x1 x2 x3 x4 x5 x6 x7 x8 x9 x10 x11 ∧ p10 x0 x1 x2 x3 x4 x5 x6 x7 x8 x9 x10 x11) (k : ∀ x0 : α, ∀ x1 : β, ∀ x2 : γ, ∀ x3 : δ, ∀ x4 : ε, ∀ x5 : ζ, ∀ x6 : η, ∀ x7 : θ, ∀ x8 : ι, ∀ x9 : κ, ∀ x10 : μ, ∀ x11 : ν, p1 x0 x1 x2 x3 x4 x5 x6 x7 x8 x9 x10 x11 → p2 x0 x1 x2 x3 x4 x5 x6 x7 x8 x9 x10 x11 → p3 x0 x1 x2 x3 x4 x5 x6 x7 x8 x9 x10 x11 → p4 x0 x1 x2 x3 x4 x5 x6 x7 x8 x9 x10 x11 → p5 x0 x1 x2 x3 x4 x5 x6 x7 x8 x9 x10 x11 → p6 x0 x1 x2 x3 x4 x5 x6 x7 x8 x9 x10 x11 → p7 x0 x1 x2 x3 x4 x5 x6 x7 x8 x9 x10 x11 → p8 x0 x1 x2 x3 x4 x5 x6 x7 x8 x9 x10 x11 → p9 x0 x1 x2 x3 x4 x5 x6 x7 x8 x9 x10 x11 → p10 x0 x1 x2 x3 x4 x5 x6 x7 x8 x9 x10 x11 → C) : C := h.elim fun x0 h0 => h0.elim fun x1 h1 => h1.elim fun x2 h2 => h2.elim fun x3 h3 => h3.elim fun x4 h4 => h4.elim fun x5 h5 => h5.elim fun x6 h6 => h6.elim fun x7 h7 => h7.elim fun x8 h8 => h8.elim fun x9 h9 => h9.elim fun x10 h10 => h10.elim fun x11 h11 => k x0 x1 x2 x3 x4 x5 x6 x7 x8 x9 x10 x11 h11.1 h11.2.1 h11.2.2.1 h11.2.2.2.1 h11.2.2.2.2.1 h11.2.2.2.2.2.1 h11.2.2.2.2.2.2.1 h11.2.2.2.2.2.2.2.1 h11.2.2.2.2.2.2.2.2.1 h11.2.2.2.2.2.2.2.2.2
theorem ob_eeel {α β γ : Type} {p1 : α → β → γ → Prop} {C : Prop} (h : ∃ x0 : α, ∃ x1 : β, ∃ x2 : γ, p1 x0 x1 x2) (k : ∀ x0 : α, ∀ x1 : β, ∀ x2 : γ, p1 x0 x1 x2 → C) : C := h.elim fun x0 h0 => h0.elim fun x1 h1 => h1.elim fun x2 h2 => k x0 x1 x2 h2
theorem ob_eel {α β : Type} {p1 : α → β → Prop} {C : Prop} (h : ∃ x0 : α, ∃ x1 : β, p1 x0 x1) (k : ∀ x0 : α, ∀ x1 : β, p1 x0 x1 → C) : C := h.elim fun x0 h0 => h0.elim fun x1 h1 => k x0 x1 h1
theorem ob_el {α : Type} {p1 : α → Prop} {C : Prop} (h : ∃ x0 : α, p1 x0) (k : ∀ x0 : α, p1 x0 → C) : C := h.elim fun x0 h0 => k x0 h0
theorem ite_yes {c p q : Prop} {_ : Decidable c} (hc : c) (x : p) : if c then p else q := (if_pos hc).mpr x
theorem ite_no {c p q : Prop} {_ : Decidable c} (hc : ¬ c) (x : q) : if c then p else q := (if_neg hc).mpr x
theorem cast_lt {n m : Nat} {b : Int} (h : n ≤ m) (hb : (m : Int) < b) : (n : Int) < b := Int.lt_of_le_of_lt (Int.ofNat_le.mpr h) hb
theorem cast_lt1 {n m : Nat} {b : Int} (h : n ≤ m) (hb : (m : Int) + 1 < b) : (n : Int) + 1 < b := Int.lt_of_le_of_lt (Int.add_le_add_right (Int.ofNat_le.mpr h) 1) hb
theorem neg_lt_cast {n : Nat} {b : Int} (hb : b < 0) : b < (n : Int) := Int.lt_of_lt_of_le hb (Int.natCast_nonneg n)
theorem ilt_t {a b m : Int} (h : a < m) (hb : m ≤ b) : a < b := Int.lt_of_lt_of_le h hb
theorem neg0 {a b : Int} (h : 0 ≤ a) (hb : b < 0) : b < a := Int.lt_of_lt_of_le hb h
theorem d5 {d : Int} (h0 : 0 ≤ d) (h1 : d < 5) : d = 0 ∨ d = 1 ∨ d = 2 ∨ d = 3 ∨ d = 4 := by omega
theorem d6 {d : Int} (h0 : 0 ≤ d) (h1 : d < 6) (h5 : ¬ d = 5) : d = 0 ∨ d = 1 ∨ d = 2 ∨ d = 3 ∨ d = 4 := d5 h0 (by omega)
theorem d3 {d : Int} (h0 : 0 ≤ d) (h1 : d < 3) : d = 0 ∨ d = 1 ∨ d = 2 := by omega
theorem d4 {d : Int} (h0 : 0 ≤ d) (h1 : d < 4) : d = 0 ∨ d = 1 ∨ d = 2 ∨ d = 3 := by omega
theorem lt1 {i : Nat} (h : i < 1) : i = 0 := by omega
theorem lt2 {i : Nat} (h : i < 2) : i = 0 ∨ i = 1 := by omega
theorem lt3 {i : Nat} (h : i < 3) : i = 0 ∨ i = 1 ∨ i = 2 := by omega
end -- L0
section -- L1
open PySem.Calls

noncomputable def Le (G H : Heap) : Prop := ∀ b o, G.get? b = some o → H.get? b = some o
theorem Le.rfl {G : Heap} : Le G G := fun _ _ e => e
theorem Le.trans {a b c : Heap} (x : Le a b) (y : Le b c) : Le a c := fun _ _ e => y _ _ (x _ _ e)

/-- what holds of a run since s0: old things kept but W0; G: what is known for good; mu: what may still turn -/
structure St0 (s0 : Shared) (G0 : Heap) (W0 : List Addr) (G : Heap) (mu : List (Addr × Obj)) (s : Shared) : Prop where
  gens : s.gens = s0.gens
  os : s.os = s0.os
  keep : ∀ b o, s0.heap.get? b = some o → b ∉ W0 → s.heap.get? b = some o
  dom : ∀ b, s0.heap.get? b ≠ none → s.heap.get? b ≠ none
  g0 : Le G0 G
  gs : Le G s.heap
  gn : ∀ b, G.get? b ≠ none → s0.heap.get? b ≠ none → G0.get? b ≠ none ∨ b ∈ W0
  mt : ∀ p ∈ mu, s.heap.get? p.1 = some p.2 ∧ G.get? p.1 = none ∧ (p.1 ∈ W0 ∨ s0.heap.get? p.1 = none)
  md : (mu.map Prod.fst).Nodup

structure Frm (s0 : Shared) (G : Heap) (mu : List (Addr × Obj)) (env : Env) (ρ : Str → Option Value) (s : Shared) : Prop where
  loc : ∃ m, s.heap.Ns env.locals m ∧ ∀ x, env.kindOf x = some .local → m x = ρ x
  cel : ∀ x c, env.cells.lookup x = some c → env.kindOf x ≠ some .local → s.heap.IsCell c (ρ x)
  ap : env.func.isSome = true → env.cells.Pairwise (fun x y => x.2 ≠ y.2)
  lc : ∀ x c, (x, c) ∈ env.cells → c ≠ env.locals
  lf : s0.heap.get? env.locals = none
  lG : G.get? env.locals = none
  lm : ∀ p ∈ mu, p.1 ≠ env.locals
  cG : ∀ x c, env.cells.lookup x = some c → env.kindOf x ≠ some .local → G.get? c = none
  cm : ∀ x c, env.cells.lookup x = some c → env.kindOf x ≠ some .local → ∀ p ∈ mu, p.1 ≠ c
  cf : env.func.isSome = true → ∀ x c, env.cells.lookup x = some c → env.kindOf x ≠ some .local → s0.heap.get? c = none

structure St (s0 : Shared) (G0 : Heap) (W0 : List Addr) (G : Heap) (mu : List (Addr × Obj)) (env : Env) (ρ : Str → Option Value) (s : Shared) : Prop where
  z : St0 s0 G0 W0 G mu s
  f : Frm s0 G mu env ρ s

noncomputable def upd (ρ : Str → Option Value) (x : Str) (v : Value) : Str → Option Value := fun y => if y = x then some v else ρ y
theorem upd_self {ρ : Str → Option Value} {x : Str} {v : Value} : upd ρ x v x = some v := by simp [upd]
theorem upd_other {ρ : Str → Option Value} {x y : Str} {v : Value} (h : (y == x) = false) : upd ρ x v y = ρ y := by
  have : y ≠ x := by simpa using h
  simp [upd, this]

theorem upd_step {ρ : Str → Option Value} {x y : Str} {v z : Value} (h : (y == x) = false) (e : ρ y = some z) : upd ρ x v y = some z := (upd_other h).trans e

section
variable {s0 s s' : Shared} {G0 G G' : Heap} {W0 : List Addr} {mu mu' : List (Addr × Obj)} {env : Env} {ρ : Str → Option Value}

theorem St0.start (s : Shared) (G : Heap) (mu : List (Addr × Obj)) (h : Le G s.heap) (hm : ∀ p ∈ mu, s.heap.get? p.1 = some p.2 ∧ G.get? p.1 = none) (hd : (mu.map Prod.fst).Nodup) :
    St0 s G (mu.map Prod.fst) G mu s :=
  ⟨rfl, rfl, fun _ _ e _ => e, fun _ e => e, Le.rfl, h, fun _ e _ => .inl e, fun p hp => ⟨(hm p hp).1, (hm p hp).2, .inl (List.mem_map_of_mem hp)⟩, hd⟩

/-- another heap that keeps all -/
theorem St0.keeps (S : St0 s0 G0 W0 G mu s) (hg : s'.gens = s.gens) (ho : s'.os = s.os) (k : Le s.heap s'.heap) : St0 s0 G0 W0 G mu s' :=
  ⟨hg.trans S.gens, ho.trans S.os, fun b o e n => k _ _ (S.keep b o e n), fun b e => by
      refine ob_el (Option.ne_none_iff_exists'.mp (S.dom b e)) ?_; intro o q
      rw [k _ _ q]; exact Option.some_ne_none _, S.g0, S.gs.trans k, S.gn, fun p hp => ⟨k _ _ (S.mt p hp).1, (S.mt p hp).2⟩, S.md⟩
theorem Frm.keeps (F : Frm s0 G mu env ρ s) (k : Le s.heap s'.heap) : Frm s0 G mu env ρ s' :=
  ⟨let ⟨m, a, b⟩ := F.loc; ⟨m, a.keeps k, b⟩, fun x c h n => (F.cel x c h n).keeps k, F.ap, F.lc, F.lf, F.lG, F.lm, F.cG, F.cm, F.cf⟩
theorem St.keeps (S : St s0 G0 W0 G mu env ρ s) (hg : s'.gens = s.gens) (ho : s'.os = s.os) (k : Le s.heap s'.heap) : St s0 G0 W0 G mu env ρ s' := ⟨S.z.keeps hg ho k, S.f.keeps k⟩
theorem St.toks (S : St s0 G0 W0 G mu env ρ s) (t : Nat) : St s0 G0 W0 G mu env ρ { s with toks := t } := S.keeps rfl rfl Le.rfl

/-- a change at an address that is new since s0 and none of G, mu -/
theorem St0.but (S : St0 s0 G0 W0 G mu s) {a : Addr} (hg : s'.gens = s.gens) (ho : s'.os = s.os) (hs : Heap.SameBut a s.heap s'.heap) (ha : s'.heap.get? a ≠ none)
    (h0 : s0.heap.get? a = none) (hG : G.get? a = none) (hm : ∀ p ∈ mu, p.1 ≠ a) : St0 s0 G0 W0 G mu s' :=
  ⟨hg.trans S.gens, ho.trans S.os, fun b o e n => (hs.2 b (fun q => by rw [q, h0] at e; cases e)).trans (S.keep b o e n),
    fun b e => by
      by_cases q : b = a
      · rw [q]; exact ha
      · rw [hs.2 b q]; exact S.dom b e,
    S.g0, fun b o e => (hs.2 b (fun q => by rw [q, hG] at e; cases e)).trans (S.gs b o e), S.gn,
    fun p hp => ⟨(hs.2 _ (hm p hp)).trans (S.mt p hp).1, (S.mt p hp).2⟩, S.md⟩

theorem lookup_mem {α : Type} {l : List (Str × α)} {n : Str} {c : α} (h : l.lookup n = some c) : (n, c) ∈ l := mem_of_lookup h

theorem ns_some {h : Heap} {a : Addr} {m} (x : h.Ns a m) : h.get? a ≠ none := by
  refine ob_eeecl x ?_; try clear x; intro o _ _ e _
  rw [e]; exact Option.some_ne_none _
theorem cell_some {h : Heap} {a : Addr} {v} (x : h.IsCell a v) : h.get? a ≠ none := by
  refine ob_ecl x ?_; try clear x; intro o e _
  rw [e]; exact Option.some_ne_none _

theorem Frm.local_set (F : Frm s0 G mu env ρ s) {x : Str} {v : Value} {m m' : Str → Option Value} (hl : env.kindOf x = some .local) (hm : ∀ y, env.kindOf y = some .local → m y = ρ y)
    (hn : s'.heap.Ns env.locals m') (e : m' = fun y => if y = x then some v else m y) (hs : Heap.SameBut env.locals s.heap s'.heap) : Frm s0 G mu env (upd ρ x v) s' := unus (by exact trivial : Us (by
  refine ⟨⟨m', hn, fun y hy => ?_⟩, fun y c hc nl => ?_, F.ap, F.lc, F.lf, F.lG, F.lm, F.cG, F.cm, F.cf⟩
  · rw [e]; unfold upd
    by_cases q : y = x
    · simp [q]
    · simp [q, hm y hy]
  · have q : y ≠ x := fun q => nl (q ▸ hl)
    have : upd ρ x v y = ρ y := by simp [upd, q]
    rw [this]
    exact (F.cel y c hc nl).sameBut hs (F.lc y c (lookup_mem hc))))

theorem Frm.cell_set (F : Frm s0 G mu env ρ s) {x : Str} {v : Value} {c : Addr} (hf : env.func.isSome = true) (hl : env.kindOf x ≠ some .local) (hc : env.cells.lookup x = some c)
    (hn : s'.heap.IsCell c (some v)) (hs : Heap.SameBut c s.heap s'.heap) : Frm s0 G mu env (upd ρ x v) s' := unus (by exact trivial : Us (by
  refine ob_ecl F.loc ?_; intro m hm hr
  refine ⟨⟨m, hm.sameBut hs (Ne.symm (F.lc x c (lookup_mem hc))), fun y hy => ?_⟩, fun y c' hc' nl => ?_, F.ap, F.lc, F.lf, F.lG, F.lm, F.cG, F.cm, F.cf⟩
  · have q : y ≠ x := fun q => hl (q ▸ hy)
    rw [hr y hy]; simp [upd, q]
  · by_cases q : y = x
    · subst q
      rw [hc] at hc'; cases hc'
      simpa [upd] using hn
    · have : upd ρ x v y = ρ y := by simp [upd, q]
      rw [this]
      exact (F.cel y c' hc' nl).sameBut hs fun e => q (name_of_addr (F.ap hf) (lookup_mem hc') (e ▸ lookup_mem hc))))
end

noncomputable def isVar (env : Env) (x : Str) : Bool := match env.kindOf x with
  | some .local => true
  | some .cell => (env.cells.lookup x).isSome
  | some .free => (env.cells.lookup x).isSome && !(x == ("__classdict__" : Str))
  | _ => false
noncomputable def isOwn (env : Env) (x : Str) : Bool := match env.kindOf x with
  | some .local => true
  | some .cell => (env.cells.lookup x).isSome && env.func.isSome
  | _ => false

section
variable {M : Model} {A : Around} {E : Value → Shared → Prop} {s0 s : Shared} {G0 G : Heap} {W0 : List Addr} {mu : List (Addr × Obj)} {env : Env} {ρ : Str → Option Value}

theorem St.ldn {x : Str} {v : Value} {Q : Value → Shared → Prop} (S : St s0 G0 W0 G mu env ρ s) (hv : ρ x = some v) (hk : env.scope.kind = .function) (hx : isVar env x = true) (h : Q v s) :
    wpAny M A (loadName env x) Q E s := unus (by exact trivial : Us (by
  refine ob_ecl S.f.loc ?_; intro m hm hr
  unfold isVar at hx
  split at hx
  · rename_i e
    exact wpAny_loadName_local hk e hm ((hr x e).trans hv) h
  · rename_i e
    refine ob_el (Option.isSome_iff_exists.mp hx) ?_; intro c hc
    exact wpAny_loadName_cell hk e hc (hv ▸ S.f.cel x c hc (by rw [e]; decide)) h
  · rename_i e
    refine ob_cl (Bool.and_eq_true_iff.mp hx) ?_; intro hx hn
    refine ob_el (Option.isSome_iff_exists.mp hx) ?_; intro c hc
    exact wpAny_loadName_free hk e hc (hv ▸ S.f.cel x c hc (by rw [e]; decide)) h (by simpa using hn)
  · cases hx))

theorem St.ld {x : Str} {pos : Pos} {v : Value} {Q : Value → Shared → Prop} (S : St s0 G0 W0 G mu env ρ s) (hv : ρ x = some v) (h : Q v s) (hk : env.scope.kind = .function) (hx : (isVar env x && !(x == ("__debug__" : Str))) = true) :
    wpAny M A (eval (.Name x pos) env) Q E s := by
  refine ob_cl (Bool.and_eq_true_iff.mp hx) ?_; intro a b
  exact wpAny_Name (S.ldn hv hk a h) (by simpa using b)

theorem St.st {x : Str} {v : Value} {Q : Unit → Shared → Prop} (S : St s0 G0 W0 G mu env ρ s) (hk : env.scope.kind = .function) (hx : isOwn env x = true)
    (h : ∀ s', St s0 G0 W0 G mu env (upd ρ x v) s' → Q () s') : wpAny M A (storeName env x v) Q E s := unus (by exact trivial : Us (by
  refine ob_ecl S.f.loc ?_; intro m hm hr
  unfold isOwn at hx
  split at hx
  · rename_i e
    refine wpAny_storeName_local e hm (fun h' hn' hs' => h _ ⟨S.z.but rfl rfl hs' (ns_some hn') S.f.lf S.f.lG S.f.lm, S.f.local_set e hr hn' rfl hs'⟩) (by rw [hk]; rfl)
  · rename_i e
    refine ob_cl (Bool.and_eq_true_iff.mp hx) ?_; intro hx hf
    refine ob_el (Option.isSome_iff_exists.mp hx) ?_; intro c hc
    have nl : env.kindOf x ≠ some .local := by rw [e]; decide
    exact wpAny_storeName_cell hk e hc (S.f.cel x c hc nl) fun h' hn' hs' => h _
      ⟨S.z.but rfl rfl hs' (cell_some hn') (S.f.cf hf x c hc nl) (S.f.cG x c hc nl) (S.f.cm x c hc nl), S.f.cell_set hf nl hc hn' hs'⟩
  · cases hx))
end
end -- L1
section -- L2
open PySem.Calls

/-- the i-th statement of the text's top; the j-th of a class's body -/
noncomputable def nthS : List Stmt → Nat → Stmt
  | [], _ => .Pass default
  | s :: _, 0 => s
  | _ :: r, n + 1 => nthS r n
noncomputable def clsBody : Stmt → List Stmt
  | .ClassDef _ _ _ body _ _ _ _ _ _ _ => body
  | _ => []
noncomputable def stm (i : Nat) : Stmt := nthS PySem.Challenge.pw_nz0538_01.main.body i
noncomputable def mth (i j : Nat) : Stmt := nthS (clsBody (stm i)) j
noncomputable def prmOf : Stmt → Arguments
  | .FunctionDef _ args _ _ _ _ _ _ _ _ => args
  | _ => { posonlyargs := [], args := [], vararg := none, kwonlyargs := [], kw_defaults := [], kwarg := none, defaults := [] }
noncomputable def bdyOf : Stmt → List Stmt
  | .FunctionDef _ _ body _ _ _ _ _ _ _ => body
  | _ => []
noncomputable def scpOf : Stmt → Scope
  | .FunctionDef _ _ _ _ _ _ scope _ _ _ => scope
  | _ => default
noncomputable def dflN : Stmt → Nat
  | .FunctionDef _ args _ _ _ _ _ _ _ _ => args.defaults.length
  | _ => 0

/-- what the heap holds at a def's place -/
structure FnAt (h : Heap) (a : Addr) (st : Stmt) : Prop where
  ex : ∃ o nm q dV kV doc pm an cdv ct, h.get? a = some o ∧ o.data = .func (fnOf nm q (prmOf st) (bdyOf st) (scpOf st) dV kV doc pm an cdv ct) ∧ h.CodeRec cdv q ∧
    (dflN st = 0 → dV = .none) ∧ (dflN st = 1 → ∃ T ot n, dV = .ref T ∧ h.get? T = some ot ∧ ot.data = .seq #[.none] n)
theorem FnAt.up {h h' : Heap} {a : Addr} {st : Stmt} (x : FnAt h a st) (k : Le h h') : FnAt h' a st := by
  refine ob_eeeeeeeeeeccccl x.ex ?_; intro o nm q dV kV doc pm an cdv ct a1 a2 a3 a4 a5
  refine ⟨o, nm, q, dV, kV, doc, pm, an, cdv, ct, k _ _ a1, a2, a3.keeps k, a4, fun e => ?_⟩
  refine ob_eeeccl (a5 e) ?_; intro T ot n b1 b2 b3
  exact ⟨T, ot, n, b1, k _ _ b2, b3⟩

noncomputable def rho (binds : List (Str × Value)) : Str → Option Value := binds.foldl (fun ρ p => upd ρ p.1 p.2) (fun _ => none)
theorem bindL_rho {kindOf : Str → Option NameKind} {x : Str} (hx : kindOf x = some .local) : ∀ (binds : List (Str × Value)) (m ρ : Str → Option Value), m x = ρ x → bindL kindOf binds m x = binds.foldl (fun ρ p => upd ρ p.1 p.2) ρ x
  | [], _, _, h => h
  | (n, v) :: r, m, ρ, h => by
    unfold bindL
    rw [List.foldl_cons]
    refine bindL_rho hx r _ _ ?_
    by_cases q : x = n
    · subst q; simp [hx, upd]
    · by_cases k : kindOf n = some .local <;> simp [k, upd, q, h]
theorem bindC_rho {kindOf : Str → Option NameKind} {x : Str} (hx : kindOf x ≠ some .local) : ∀ (binds : List (Str × Value)) (m ρ : Str → Option Value), m x = ρ x → bindC kindOf binds m x = binds.foldl (fun ρ p => upd ρ p.1 p.2) ρ x
  | [], _, _, h => h
  | (n, v) :: r, m, ρ, h => by
    unfold bindC
    rw [List.foldl_cons]
    refine bindC_rho hx r _ _ ?_
    by_cases q : x = n
    · subst q; simp [hx, upd]
    · by_cases k : kindOf n = some .local <;> simp [k, upd, q, h]

theorem get_ge {h : Heap} {a : Addr} (x : h.objs.size ≤ a) : h.get? a = none := by
  cases e : h.get? a with
  | none => rfl
  | some o => exact absurd (Heap.lt_size e) (Nat.not_lt.mpr x)
theorem none_of_le {G H : Heap} {a : Addr} (k : Le G H) (x : H.get? a = none) : G.get? a = none := by
  cases e : G.get? a with
  | none => rfl
  | some o => rw [k _ _ e] at x; cases x

noncomputable def okBinds (scope : Scope) (binds : List (Str × Value)) : Bool := binds.all fun y => scope.names.lookup y.1 == some .local || scope.names.lookup y.1 == some .cell
noncomputable def okScope (scope : Scope) : Bool := !scope.isCoroutine && !scope.isGenerator && scope.kind == .function

/-- the letters of a def's frame -/
structure FP where
  q : Str
  cdv : Value
  L : Addr
  a : Addr
noncomputable abbrev fenv (st : Stmt) (p : FP) : Env := newEnv (scpOf st) p.L mainGlobals (cellsFrom (p.L + 1) (scpOf st).names []) (p.q ++ ".<locals>.") (some p.a) p.cdv none builtinsNs

theorem start_frame {s s₁ : Shared} {G : Heap} {mu : List (Addr × Obj)} {env : Env} {binds : List (Str × Value)} (hG : Le G s.heap) (hm : ∀ p ∈ mu, s.heap.get? p.1 = some p.2 ∧ G.get? p.1 = none) (hd : (mu.map Prod.fst).Nodup)
    (x : InCallC s env.locals (bindL env.kindOf binds fun _ => none) env.cells (bindC env.kindOf binds fun _ => none) s₁) : St s G (mu.map Prod.fst) G mu env (rho binds) s₁ := unus (by exact trivial : Us (by
  have hk := x.toInCall.keep
  refine ob_eel x.toInCall.same ?_; intro h1 tk e
  have eg : s₁.gens = s.gens := by rw [e]
  have eo : s₁.os = s.os := by rw [e]
  have nL : s.heap.get? env.locals = none := get_ge x.toInCall.fresh
  have nC : ∀ y c, (y, c) ∈ env.cells → s.heap.get? c = none := fun y c hc => get_ge (Nat.le_trans x.toInCall.fresh (Nat.le_of_lt (x.above y c hc)))
  refine ⟨(St0.start s G mu hG hm hd).keeps eg eo hk, ⟨_, x.toInCall.ns, fun y hy => bindL_rho hy _ _ _ rfl⟩, fun y c hc nl => ?_, fun _ => x.apart, fun y c hc => Nat.ne_of_gt (x.above y c hc), nL, none_of_le hG nL, fun p hp e => ?_, fun y c hc _ => none_of_le hG (nC y c (lookup_mem hc)),
    fun y c hc _ p hp e => ?_, fun _ y c hc _ => nC y c (lookup_mem hc)⟩
  · have := x.cell y c hc
    rwa [bindC_rho nl _ _ (fun _ => none) rfl] at this
  · have := (hm p hp).1; rw [e, nL] at this; cases this
  · have := (hm p hp).1; rw [e, nC y c (lookup_mem hc)] at this; cases this))

section
variable {prog : Program} {w : World} {A : Around} {R : Result → Shared → Prop} {s : Shared} {G : Heap} {mu : List (Addr × Obj)}
theorem enter {a : Addr} {st : Stmt} {args : Args} {binds : List (Str × Value)} (X : FnAt G a st) (hG : Le G s.heap) (hlim : G.NoLimit) (hroom : A.depth < recursionLimit)
    (hbind : ∀ nm q dV kV doc pm an cdv ct, (dflN st = 0 → dV = .none) → (dflN st = 1 → ∃ T ot n, dV = .ref T ∧ s.heap.get? T = some ot ∧ ot.data = .seq #[.none] n) → BindsTo s (fnOf nm q (prmOf st) (bdyOf st) (scpOf st) dV kV doc pm an cdv ct) args binds)
    (hb : okBinds (scpOf st) binds = true) (hs : okScope (scpOf st) = true)
    (hm : ∀ p ∈ mu, s.heap.get? p.1 = some p.2 ∧ G.get? p.1 = none) (hd : (mu.map Prod.fst).Nodup)
    (h : ∀ q cdv s₁, St s G (mu.map Prod.fst) G mu (fenv st ⟨q, cdv, s.heap.objs.size, a⟩) (rho binds) s₁ →
      wpAny (model prog w) (A.deeper (fenv st ⟨q, cdv, s.heap.objs.size, a⟩)) (execs (bdyOf st) (fenv st ⟨q, cdv, s.heap.objs.size, a⟩)) (fun f s' => R (.ok (.ret (match f with | .ret v => v | _ => .none))) s') (fun _ _ => False) s₁) :
    codeAny (model prog w) A (.call (.ref a) args) R s := unus (by exact trivial : Us (by
  refine ob_eeeeeeeeeeccccl ((X.up hG).ex) ?_; intro o nm q dV kV doc pm an cdv ct a1 a2 a3 a4 a5
  unfold okScope at hs
  simp only [Bool.and_eq_true, Bool.not_eq_true', beq_iff_eq] at hs
  refine ob_cl hs ?_; try clear hs; rintro ⟨h1, h2⟩ h3
  refine codeAny_call_function hroom a1 a2 h1 h2 rfl a3 (hbind nm q dV kV doc pm an cdv ct a4 a5 _ _ _ _ ?_)
  refine wpAny_newFunctionEnv_cells h3 (kindsX hb _) fun env he s' x => ?_
  subst he
  refine ⟨(hlim.keeps hG).keeps x.toInCall.keep, codeAny_func ?_⟩
  exact wpAny_mono (h q cdv s' (start_frame hG hm hd x)) (fun _ _ y => y) fun _ _ y => y.elim))
end
end -- L2
section -- L3
open PySem.Calls

noncomputable def only (h : Heap) (P : Addr → Prop) : Heap := { h with objs := h.objs.mapIdx fun i o => @ite _ (P i) (Classical.propDecidable _) o { o with data := .freed } }
theorem only_get (h : Heap) (P : Addr → Prop) (a : Addr) : (only h P).get? a = @ite _ (P a) (Classical.propDecidable _) (h.get? a) none := unus (by exact trivial : Us (by
  unfold only Heap.get?
  simp only [Array.getElem?_mapIdx]
  by_cases p : P a
  · simp only [p, if_true]
    cases h.objs[a]? with
    | none => rfl
    | some o => simp
  · simp only [p, if_false]
    cases h.objs[a]? with
    | none => rfl
    | some o => simp))

section
variable {s0 s s' : Shared} {G0 G G' : Heap} {W0 : List Addr} {mu mu' W W' Rs : List (Addr × Obj)} {env : Env} {ρ : Str → Option Value}

theorem St0.has (S : St0 s0 G0 W0 G mu s) {p : Addr × Obj} (h : p ∈ mu) : s.heap.get? p.1 = some p.2 := (S.mt p h).1

theorem St0.sub (S : St0 s0 G0 W0 G mu s) (h : mu'.Sublist mu) : St0 s0 G0 W0 G mu' s := ⟨S.gens, S.os, S.keep, S.dom, S.g0, S.gs, S.gn, fun p hp => S.mt p (h.subset hp), S.md.sublist (h.map _)⟩
theorem St0.perm (S : St0 s0 G0 W0 G mu s) (h : mu.Perm mu') : St0 s0 G0 W0 G mu' s := ⟨S.gens, S.os, S.keep, S.dom, S.g0, S.gs, S.gn, fun p hp => S.mt p (h.mem_iff.mpr hp), (h.map Prod.fst).nodup_iff.mp S.md⟩
theorem Frm.sub (F : Frm s0 G mu env ρ s) (h : ∀ p ∈ mu', p ∈ mu) : Frm s0 G mu' env ρ s := ⟨F.loc, F.cel, F.ap, F.lc, F.lf, F.lG, fun p hp => F.lm p (h p hp), F.cG, fun x c hc nl p hp => F.cm x c hc nl p (h p hp), F.cf⟩
theorem St.sub (S : St s0 G0 W0 G mu env ρ s) (h : mu'.Sublist mu) : St s0 G0 W0 G mu' env ρ s := ⟨S.z.sub h, S.f.sub fun _ hp => h.subset hp⟩
theorem St.perm (S : St s0 G0 W0 G mu env ρ s) (h : mu.Perm mu') : St s0 G0 W0 G mu' env ρ s := ⟨S.z.perm h, S.f.sub fun _ hp => h.mem_iff.mpr hp⟩

theorem ne_none {α : Type} {x : Option α} {a : α} (h : x = some a) : x ≠ none := by rw [h]; exact Option.some_ne_none _

theorem St0.back (S : St0 s0 G0 W0 G (W ++ Rs) s) (T : St0 s G (W.map Prod.fst) G' W' s') : St0 s0 G0 W0 G' (W' ++ Rs) s' := unus (by exact trivial : Us (by
  have inW : ∀ b, b ∈ W.map Prod.fst → ∃ p ∈ W, p.1 = b := fun b hb => by (refine ob_ecl (List.mem_map.mp hb) ?_; intro p hp e); exact ⟨p, hp, e⟩
  have nd := S.md
  rw [List.map_append, List.nodup_append] at nd
  have rs : ∀ p ∈ Rs, p.1 ∉ W.map Prod.fst := fun p hp hq => by
    exact nd.2.2 _ hq _ (List.mem_map_of_mem hp) rfl
  refine ⟨T.gens.trans S.gens, T.os.trans S.os, fun b o e n => ?_, fun b e => T.dom b (S.dom b e), S.g0.trans T.g0, T.gs, fun b x y => (T.gn b x (S.dom b y)).elim (fun q => S.gn b q y) fun hb => by
    refine ob_ecl (inW b hb) ?_; rintro p hp rfl
    exact (S.mt p (List.mem_append_left _ hp)).2.2.elim .inr fun q => absurd q y, fun p hp => ?_, ?_⟩
  · refine T.keep b o (S.keep b o e n) fun hb => ?_
    refine ob_ecl (inW b hb) ?_; rintro p hp rfl
    rcases (S.mt p (List.mem_append_left _ hp)).2.2 with q | q
    · exact n q
    · rw [q] at e; cases e
  · rcases List.mem_append.mp hp with hp | hp
    · refine ⟨(T.mt p hp).1, (T.mt p hp).2.1, ?_⟩
      rcases (T.mt p hp).2.2 with q | q
      · refine ob_ecl (inW _ q) ?_; intro r hr e
        rw [← e]
        exact (S.mt r (List.mem_append_left _ hr)).2.2
      · refine .inr ?_
        cases e : s0.heap.get? p.1 with
        | none => rfl
        | some o => exact absurd q (S.dom _ (ne_none e))
    · have x := S.mt p (List.mem_append_right _ hp)
      refine ⟨T.keep _ _ x.1 (rs p hp), ?_, x.2.2⟩
      cases e : G'.get? p.1 with
      | none => rfl
      | some o => exact (T.gn _ (ne_none e) (ne_none x.1)).elim (fun q => absurd x.2.1 q) fun q => absurd q (rs p hp)
  · rw [List.map_append, List.nodup_append]
    refine ⟨T.md, nd.2.1, fun a ha b hb e => ?_⟩
    subst e
    refine ob_ecl (List.mem_map.mp ha) ?_; rintro p hp rfl
    refine ob_ecl (List.mem_map.mp hb) ?_; intro q hq e
    have x := S.mt q (List.mem_append_right _ hq)
    rcases (T.mt p hp).2.2 with r | r
    · exact rs q hq (e ▸ r)
    · rw [← e, x.1] at r; cases r))

theorem Frm.back (S : St s0 G0 W0 G (W ++ Rs) env ρ s) (T : St0 s G (W.map Prod.fst) G' W' s') : Frm s0 G' (W' ++ Rs) env ρ s' := unus (by exact trivial : Us (by
  have F := S.f
  have Z := S.z
  have nW : ∀ b, s.heap.get? b ≠ none → (∀ p ∈ W ++ Rs, p.1 ≠ b) → b ∉ W.map Prod.fst := fun b _ h hb => by
    refine ob_ecl (List.mem_map.mp hb) ?_; intro p hp e
    exact h p (List.mem_append_left _ hp) e
  have nG : ∀ b, s.heap.get? b ≠ none → (∀ p ∈ W ++ Rs, p.1 ≠ b) → G.get? b = none → G'.get? b = none := fun b x h y => by
    cases e : G'.get? b with
    | none => rfl
    | some o => exact (T.gn _ (ne_none e) x).elim (fun q => absurd y q) fun q => absurd q (nW b x h)
  have nM : ∀ b, s.heap.get? b ≠ none → (∀ p ∈ W ++ Rs, p.1 ≠ b) → ∀ p ∈ W' ++ Rs, p.1 ≠ b := fun b x h p hp e => by
    rcases List.mem_append.mp hp with hp | hp
    · rcases (T.mt p hp).2.2 with q | q
      · exact nW b x h (e ▸ q)
      · exact x (e ▸ q)
    · exact h p (List.mem_append_right _ hp) e
  refine ob_ecl F.loc ?_; intro m hm hr
  have sL := ns_some hm
  have kL : ∀ o, s.heap.get? env.locals = some o → s'.heap.get? env.locals = some o := fun o e => T.keep _ o e (nW _ sL F.lm)
  have sC : ∀ x c, env.cells.lookup x = some c → env.kindOf x ≠ some .local → s.heap.get? c ≠ none := fun x c hc nl => cell_some (F.cel x c hc nl)
  refine ⟨⟨m, hm.at' kL, hr⟩, fun x c hc nl => ?_, F.ap, F.lc, F.lf, nG _ sL F.lm F.lG, nM _ sL F.lm, fun x c hc nl => nG _ (sC x c hc nl) (F.cm x c hc nl) (F.cG x c hc nl), fun x c hc nl => nM _ (sC x c hc nl) (F.cm x c hc nl), F.cf⟩
  refine ob_ecl (F.cel x c hc nl) ?_; intro o e d
  exact ⟨o, T.keep _ o e (nW _ (ne_none e) (F.cm x c hc nl)), d⟩))

theorem St.back (S : St s0 G0 W0 G (W ++ Rs) env ρ s) (T : St0 s G (W.map Prod.fst) G' W' s') : St s0 G0 W0 G' (W' ++ Rs) env ρ s' := ⟨S.z.back T, Frm.back S T⟩

theorem St0.lt (S : St0 s0 G0 W0 G mu s) {p : Addr × Obj} (h : p ∈ mu) : p.1 < s.heap.objs.size := Heap.lt_size (S.has h)

/-- a new object -/
theorem St0.push (S : St0 s0 G0 W0 G mu s) (o : Obj) (hf : o.isFreed = false) : St0 s0 G0 W0 G ((s.heap.objs.size, o) :: mu) { s with heap := s.heap.push o } := unus (by exact trivial : Us (by
  have T := S.keeps (s' := { s with heap := s.heap.push o }) rfl rfl fun b x e => Heap.get?_push_of_some o e
  have n := get_ge (Nat.le_refl s.heap.objs.size)
  refine ⟨T.gens, T.os, T.keep, T.dom, T.g0, T.gs, T.gn, fun p hp => ?_, ?_⟩
  · rcases List.mem_cons.mp hp with rfl | hp
    · refine ⟨Heap.get?_push_size _ hf, none_of_le S.gs n, .inr ?_⟩
      cases e : s0.heap.get? s.heap.objs.size with
      | none => rfl
      | some o => exact absurd n (S.dom _ (ne_none e))
    · exact T.mt p hp
  · rw [List.map_cons, List.nodup_cons]
    refine ⟨fun h => ?_, S.md⟩
    refine ob_ecl (List.mem_map.mp h) ?_; intro p hp e
    exact Nat.ne_of_lt (S.lt hp) e))
theorem St.push (S : St s0 G0 W0 G mu env ρ s) (o : Obj) (hf : o.isFreed = false) : St s0 G0 W0 G ((s.heap.objs.size, o) :: mu) env ρ { s with heap := s.heap.push o } := unus (by exact trivial : Us (by
  refine ⟨S.z.push o hf, ?_⟩
  have F := S.f.keeps (s' := { s with heap := s.heap.push o }) fun b x e => Heap.get?_push_of_some o e
  refine ob_ecl S.f.loc ?_; intro m hm hr
  refine ⟨F.loc, F.cel, F.ap, F.lc, F.lf, F.lG, fun p hp => ?_, F.cG, fun x c hc nl p hp => ?_, F.cf⟩
  · rcases List.mem_cons.mp hp with rfl | hp
    · exact Nat.ne_of_gt hm.lt
    · exact F.lm p hp
  · rcases List.mem_cons.mp hp with rfl | hp
    · exact Nat.ne_of_gt (S.f.cel x c hc nl).lt
    · exact F.cm x c hc nl p hp))

/-- what may turn turns: the entry at a -/
inductive Put (a : Addr) (o o' : Obj) : List (Addr × Obj) → List (Addr × Obj) → Prop
  | head {r} : Put a o o' ((a, o) :: r) ((a, o') :: r)
  | tail {p r r'} : Put a o o' r r' → Put a o o' (p :: r) (p :: r')
theorem Put.split {a : Addr} {o o' : Obj} : ∀ {l l' : List (Addr × Obj)}, Put a o o' l l' → ∃ pre post, l = pre ++ (a, o) :: post ∧ l' = pre ++ (a, o') :: post
  | _, _, .head => ⟨[], _, rfl, rfl⟩
  | _, _, .tail (p := p) h => let ⟨x, y, e, e'⟩ := h.split; ⟨p :: x, y, by rw [e]; rfl, by rw [e']; rfl⟩
theorem Put.mem {a : Addr} {o o' : Obj} {l l' : List (Addr × Obj)} (h : Put a o o' l l') : (a, o) ∈ l := by
  refine ob_eecl h.split ?_; rintro x y rfl _; simp
theorem Put.fst {a : Addr} {o o' : Obj} {l l' : List (Addr × Obj)} (h : Put a o o' l l') : l'.map Prod.fst = l.map Prod.fst := by
  refine ob_eecl h.split ?_; rintro x y rfl rfl; simp

theorem St0.put (S : St0 s0 G0 W0 G mu s) {a : Addr} {o o' : Obj} (P : Put a o o' mu mu') (hg : s'.gens = s.gens) (ho : s'.os = s.os) (hs : Heap.SameBut a s.heap s'.heap) (ha : s'.heap.get? a = some o') :
    St0 s0 G0 W0 G mu' s' := unus (by exact trivial : Us (by
  have x := S.mt _ P.mem
  have md := S.md
  rw [← P.fst] at md
  refine ⟨hg.trans S.gens, ho.trans S.os, fun b q e n => ?_, fun b e => ?_, S.g0, fun b q e => ?_, S.gn, fun p hp => ?_, md⟩
  · refine (hs.2 b fun z => ?_).trans (S.keep b q e n)
    subst z
    rcases x.2.2 with y | y
    · exact n y
    · rw [y] at e; cases e
  · by_cases z : b = a
    · rw [z, ha]; exact Option.some_ne_none _
    · rw [hs.2 b z]; exact S.dom b e
  · exact (hs.2 b fun z => by rw [z, x.2.1] at e; cases e).trans (S.gs b q e)
  · by_cases z : p.1 = a
    · refine ob_eecl P.split ?_; rintro pre post rfl rfl
      have : p = (a, o') := by
        rcases List.mem_append.mp hp with h | h
        · exfalso
          rw [List.map_append, List.nodup_append] at md
          exact md.2.2 p.1 (List.mem_map_of_mem h) a (by simp) z
        · rcases List.mem_cons.mp h with h | h
          · exact h
          · exfalso
            rw [List.map_append, List.nodup_append, List.map_cons, List.nodup_cons] at md
            exact md.2.1.1 (by have := List.mem_map_of_mem (f := Prod.fst) h; rw [z] at this; exact this)
      subst this
      exact ⟨ha, x.2⟩
    · have hp' : p ∈ mu := by
        refine ob_eecl P.split ?_; rintro pre post rfl rfl
        rcases List.mem_append.mp hp with h | h
        · exact List.mem_append_left _ h
        · rcases List.mem_cons.mp h with h | h
          · rw [h] at z; exact absurd rfl z
          · exact List.mem_append_right _ (.tail _ h)
      exact ⟨(hs.2 _ z).trans (S.mt p hp').1, (S.mt p hp').2⟩))
theorem St.put (S : St s0 G0 W0 G mu env ρ s) {a : Addr} {o o' : Obj} (P : Put a o o' mu mu') (hg : s'.gens = s.gens) (ho : s'.os = s.os) (hs : Heap.SameBut a s.heap s'.heap) (ha : s'.heap.get? a = some o') :
    St s0 G0 W0 G mu' env ρ s' := unus (by exact trivial : Us (by
  refine ⟨S.z.put P hg ho hs ha, ?_⟩
  have F := S.f
  have hm := P.mem
  have in' : ∀ p ∈ mu', p.1 ∈ mu.map Prod.fst := fun p hp => by rw [← P.fst]; exact List.mem_map_of_mem hp
  refine ob_ecl F.loc ?_; intro m hn hr
  refine ⟨⟨m, hn.sameBut hs (Ne.symm (F.lm _ hm)), hr⟩, fun x c hc nl => (F.cel x c hc nl).sameBut hs (Ne.symm (F.cm x c hc nl _ hm)), F.ap, F.lc, F.lf, F.lG, fun p hp => ?_, F.cG, fun x c hc nl p hp => ?_, F.cf⟩
  · refine ob_ecl (List.mem_map.mp (in' p hp)) ?_; intro q hq e
    rw [← e]; exact F.lm q hq
  · refine ob_ecl (List.mem_map.mp (in' p hp)) ?_; intro q hq e
    rw [← e]; exact F.cm x c hc nl q hq))

/-- what may turn is known for good from here -/
theorem St0.rest {p : Addr × Obj} (S : St0 s0 G0 W0 G (p :: mu) s) : ∃ G', Le G G' ∧ G'.get? p.1 = some p.2 ∧ (∀ b, b ≠ p.1 → G'.get? b = G.get? b) ∧ St0 s0 G0 W0 G' mu s := unus (by exact trivial : Us (by
  have x := S.mt p (.head _)
  have md := S.md
  rw [List.map_cons, List.nodup_cons] at md
  have key : ∀ b, (only s.heap fun b => G.get? b ≠ none ∨ b = p.1).get? b = if b = p.1 then some p.2 else G.get? b := fun b => by
    rw [only_get]
    by_cases e : b = p.1
    · subst e; simp [x.1]
    · cases q : G.get? b with
      | none => simp [e]
      | some o => simp [e, S.gs b o q]
  have le : Le G (only s.heap fun b => G.get? b ≠ none ∨ b = p.1) := fun b o e => by
    rw [key]
    have : b ≠ p.1 := fun z => by rw [z, x.2.1] at e; cases e
    simp [this, e]
  refine ⟨_, le, by rw [key]; simp, fun b hb => by rw [key]; simp [hb], S.gens, S.os, S.keep, S.dom, S.g0.trans le, fun b o e => ?_, fun b e q => ?_, fun q hq => ?_, md.2⟩
  · rw [key] at e
    by_cases z : b = p.1
    · subst z; simp at e; rw [← e]; exact x.1
    · simp [z] at e; exact S.gs b o e
  · rw [key] at e
    by_cases z : b = p.1
    · subst z; exact x.2.2.elim .inr fun h0 => absurd h0 q
    · simp [z] at e; exact S.gn b e q
  · have y := S.mt q (.tail _ hq)
    refine ⟨y.1, ?_, y.2.2⟩
    rw [key]
    have : q.1 ≠ p.1 := fun z => md.1 (z ▸ List.mem_map_of_mem hq)
    simp [this, y.2.1]))
theorem St.rest {p : Addr × Obj} (S : St s0 G0 W0 G (p :: mu) env ρ s) : ∃ G', Le G G' ∧ G'.get? p.1 = some p.2 ∧ St s0 G0 W0 G' mu env ρ s := by
  refine ob_ecccl S.z.rest ?_; intro G' a b c d
  have F := S.f
  refine ⟨G', a, b, d, F.loc, F.cel, F.ap, F.lc, F.lf, (c _ (Ne.symm (F.lm _ (.head _)))).trans F.lG, fun q hq => F.lm q (.tail _ hq), fun x c' hc nl => (c _ (Ne.symm (F.cm x c' hc nl _ (.head _)))).trans (F.cG x c' hc nl),
    fun x c' hc nl q hq => F.cm x c' hc nl q (.tail _ hq), F.cf⟩
theorem St.freeze {p : Addr × Obj} (S : St s0 G0 W0 G (p :: mu) env ρ s) (_ : s0.heap.get? p.1 = none) : ∃ G', Le G G' ∧ G'.get? p.1 = some p.2 ∧ St s0 G0 W0 G' mu env ρ s := S.rest
end
end -- L3
section -- L4
open PySem.Calls

/-- what a global name means -/
noncomputable def Glob (G : Heap) (x : Str) (v : Value) : Prop := ∃ mg, G.Ns mainGlobals mg ∧ (mg x = some v ∨ (mg x = none ∧ ∃ mb, G.Ns builtinsNs mb ∧ mb x = some v))
theorem Glob.up {G H : Heap} {x : Str} {v : Value} (g : Glob G x v) (k : Le G H) : Glob H x v := by
  refine ob_ecl g ?_; try clear g; intro mg a b
  exact ⟨mg, a.keeps k, b.imp id fun ⟨n, mb, c, d⟩ => ⟨n, mb, c.keeps k, d⟩⟩

noncomputable def isGlo (env : Env) (x : Str) : Bool := env.kindOf x == some .globalImplicit && env.globals == mainGlobals && env.builtins == builtinsNs && !(x == ("__debug__" : Str))

section
variable {M : Model} {A : Around} {E : Value → Shared → Prop} {s0 s : Shared} {G0 G : Heap} {W0 : List Addr} {mu mu' : List (Addr × Obj)} {env : Env} {ρ : Str → Option Value}

theorem ldG {x : Str} {pos : Pos} {v : Value} {Q : Value → Shared → Prop} (g : Glob s.heap x v) (h : Q v s) (hk : env.scope.kind = .function) (hx : isGlo env x = true) : wpAny M A (eval (.Name x pos) env) Q E s := unus (by exact trivial : Us (by
  unfold isGlo at hx
  simp only [Bool.and_eq_true, beq_iff_eq, Bool.not_eq_true'] at hx
  refine ob_cl hx ?_; try clear hx; rintro ⟨⟨a, b⟩, c⟩ d
  refine ob_ecl g ?_; try clear g; intro mg hg hv
  refine Name_function_global hk a ?_ d
  rcases hv with hv | ⟨hn, mb, hb, hv⟩
  · exact loadGlobal_global (by rw [b]; exact hg) hv h
  · exact loadGlobal_builtin (by rw [b]; exact hg) hn (by rw [c]; exact hb) hv h))

/-- who may be called without more ado -/
noncomputable def Kept (f : Value) (s : Shared) : Prop := ∃ k, ∀ (M : Model) (A : Around) (Q : Keeper → Shared → Prop) (E : Value → Shared → Prop), Q k s → wpAny M A (keeperOf f) Q E s
theorem kept_fn {a : Addr} {st : Stmt} (X : FnAt s.heap a st) : Kept (.ref a) s := unus (by exact trivial : Us (by
  refine ob_eeeeeeeeeeccl X.ex ?_; intro o nm q dV kV doc pm an cdv ct a1 a2 _
  refine ⟨.frame, fun _ _ _ _ h => ?_⟩
  unfold keeperOf
  refine wpAny_bind (wpAny_load a1 ?_)
  rw [a2]; exact wpAny_pure h))
theorem kept_builtin {id : String} : Kept (.builtin id) s := ⟨.machine, fun _ _ _ _ h => wpAny_pure h⟩
theorem kept_type {id : String} : Kept (.type id) s := ⟨.machine, fun _ _ _ _ h => wpAny_pure h⟩

noncomputable def noStar : List Expr → Bool
  | [] => true
  | .Starred _ _ :: _ => false
  | _ :: r => noStar r
theorem noStar_any (env : Env) (pos : Pos) : ∀ es : List Expr, noStar es = true → (backTo pos (starEach es env)).any (·.1) = false
  | [], _ => rfl
  | e :: r, h => by
    cases e <;> first | cases h | exact noStar_any env pos r h

theorem evalArgs_any {f : Value} {pos : Pos} {es : List Expr} {Q : Args → Shared → Prop} (hn : noStar es = true)
    (h : wpAny M A (spliced (backTo pos (starEach es env))) (fun vs s' => Q ⟨vs, []⟩ s') E s) : wpAny M A (evalArgs f true (backTo pos (starEach es env)) []) Q E s := unus (by exact trivial : Us (by
  cases es with
  | nil =>
    unfold evalArgs
    show wpAny M A (spliced (backTo pos (starEach [] env)) >>= _) Q E s
    refine wpAny_bind (wpAny_mono h (fun vs s' h' => ?_) fun _ _ x => x)
    refine wpAny_holding ?_
    exact wpAny_bind (wpAny_pure (wpAny_bind (wpAny_pure (wpAny_pure h'))))
  | cons e r =>
    have key : ∃ t rest, backTo pos (starEach (e :: r) env) = (false, t) :: rest := by cases e <;> first | cases hn | exact ⟨_, _, rfl⟩
    refine ob_eel key ?_; try clear key; intro t rest e'
    rw [e'] at h ⊢
    exact evalArgs_plain h))

theorem cw {pos pos' : Pos} {f : Value} {first : List Value} {es : List Expr} {Q : Value → Shared → Prop} (hn : noStar es = true)
    (h : wpAny M A (spliced (backTo pos (starEach es env))) (fun vs s₁ => Kept f s₁ ∧ wpAny M A (call f (first ++ vs)) Q E s₁) E s) :
    wpAny M A (callWith pos' f first (backTo pos (starEach es env)) (backToKw pos (keywordEach [] env))) Q E s := unus (by exact trivial : Us (by
  unfold callWith
  show wpAny M A (holding (f :: first) (evalArgs f true (backTo pos (starEach es env)) []) >>= _) Q E s
  refine wpAny_bind (wpAny_holding (evalArgs_any hn (wpAny_mono h (fun vs s₁ h₁ => wpAny_bind (wpAny_standAt ?_)) fun _ _ x => x)))
  have tail : ∀ {t : Sem Value}, wpAny M A t Q E s₁ → wpAny M A (t >>= fun r => holding [r] point >>= fun _ => pure r) Q E s₁ :=
    fun ht => wpAny_bind (wpAny_mono ht (fun r s₂ hr => wpAny_bind (wpAny_holding (wpAny_point (wpAny_pure hr)))) fun _ _ x => x)
  have op : ∀ {l : List Value} {t : Sem Value}, wpAny M A t Q E s₁ → wpAny M A (operate l t) Q E s₁ := fun ht Γ p hΓ => by rw [Sem.wp_operate]; exact ht Γ p hΓ
  refine ob_cl h₁ ?_; try clear h₁; rintro ⟨k, hk⟩ hc
  rw [noStar_any env pos es hn]
  refine wpAny_bind (hk M A _ E ?_)
  have e0 : ((backToKw pos (keywordEach [] env)).any fun x => x.1.isNone) = false := rfl
  rw [e0]
  cases k
  · show wpAny M A (if _ then _ else _) Q E s₁
    split
    · exact tail hc
    · exact tail (by unfold callMarked; exact wpAny_keep hc)
  · show wpAny M A (if _ then _ else _) Q E s₁
    split
    · exact tail hc
    · exact tail (by unfold callMarked; exact wpAny_keep hc)
  · exact tail hc
  · exact tail (op hc)))

theorem call_name {id : Str} {p pos : Pos} {args : List Expr} {f : Value} {Q : Value → Shared → Prop} (g : Glob s.heap id f)
    (h : wpAny M A (spliced (backTo pos (starEach args env))) (fun vs s₁ => Kept f s₁ ∧ wpAny M A (call f vs) Q E s₁) E s)
    (hk : env.scope.kind = .function) (hx : (isGlo env id && noStar args) = true) : wpAny M A (eval (.Call (.Name id p) args [] pos) env) Q E s := by
  refine ob_cl (Bool.and_eq_true_iff.mp hx) ?_; intro a b
  exact wpAny_Call_Name_kw (ldG g (cw b h) hk a)

/-- what a def hands back -/
noncomputable def Back (s : Shared) (G : Heap) (Wa : List Addr) (P : Heap → List (Addr × Obj) → Value → Prop) : Result → Shared → Prop :=
  fun r s' => ∃ v G' W', r = .ok (.ret v) ∧ St0 s G Wa G' W' s' ∧ P G' W' v

theorem St.run {prog : Program} {w : World} {a : Addr} {vs : List Value} {W Rs : List (Addr × Obj)} {P : Heap → List (Addr × Obj) → Value → Prop} {Q : Value → Shared → Prop} (S : St s0 G0 W0 G (W ++ Rs) env ρ s)
    (hc : codeAny (model prog w) A (.call (.ref a) ⟨vs, []⟩) (Back s G (W.map Prod.fst) P) s)
    (h : ∀ v G' W' s', Le G G' → St s0 G0 W0 G' (W' ++ Rs) env ρ s' → P G' W' v → Q v s') : wpAny (model prog w) A (call (.ref a) vs) Q E s := by
  refine wpAny_call (codeAny_mono hc fun r s' hr => ?_)
  refine ob_eeeccl hr ?_; try clear hr; rintro v G' W' rfl T hp
  exact h v G' W' s' T.g0 (S.back T) hp

/-- the end of a body -/
theorem St.out (S : St s0 G0 W0 G mu env ρ s) {P : Heap → List (Addr × Obj) → Value → Prop} {v : Value} {W' : List (Addr × Obj)} (hs : W'.Sublist mu) (h : P G W' v) : Back s0 G0 W0 P (.ok (.ret v)) s :=
  ⟨v, G, W', rfl, S.z.sub hs, h⟩
end
end -- L4
section -- L5
open PySem.Calls

noncomputable abbrev lst (items : List Value) (n : Nat) : Obj := { cls := .type "list", data := .seq items.toArray n }
noncomputable abbrev tup (items : List Value) : Obj := { cls := .type "tuple", data := .seq items.toArray }

/-- room to call, n deep -/
structure Ok (A : Around) (n : Nat) : Prop where
  h : A.handled = none
  d : A.depth + n < recursionLimit
  u : A.units + 20 * n + 200 < cLine
theorem Ok.mono {A : Around} {n m : Nat} (x : Ok A n) (h : m ≤ n) : Ok A m := ⟨x.h, by have := x.d; omega, by have := x.u; omega⟩
theorem Ok.deeper {A : Around} {n : Nat} {env : Env} (x : Ok A (n + 1)) : Ok (A.deeper env) n := ⟨x.h, by have := x.d; show A.depth + 1 + n < _; omega, by have := x.u; show A.units + 3 + 20 * n + 200 < _; omega⟩
theorem Ok.in1 {A : Around} {n : Nat} (x : Ok A (n + 1)) : Ok A.in1 n := ⟨x.h, by have := x.d; show A.depth + n < _; omega, by have := x.u; show A.units + 1 + 20 * n + 200 < _; omega⟩
theorem Ok.mark {A : Around} {n : Nat} (x : Ok A n) : Ok (A.mark none) n := ⟨x.h, x.d, x.u⟩

section
variable {prog : Program} {w : World} {A : Around} {E : Value → Shared → Prop} {s0 s : Shared} {G0 G : Heap} {W0 : List Addr} {mu mu' : List (Addr × Obj)} {env : Env} {ρ : Str → Option Value}

theorem St.le0 (S : St s0 G0 W0 G mu env ρ s) : Le G0 s.heap := S.z.g0.trans S.z.gs

theorem c_int {i : Int} {k pos} {Q : Value → Shared → Prop} (S : St s0 G0 W0 G mu env ρ s) (h : ∀ t s', St s0 G0 W0 G mu env ρ s' → Q (.int i t) s') : wpAny (model prog w) A (eval (.Constant (.int i) k pos) env) Q E s := wpAny_Constant_int (h _ _ (S.toks _))
theorem c_str {x : Str} {k pos} {Q : Value → Shared → Prop} (S : St s0 G0 W0 G mu env ρ s) (h : ∀ t s', St s0 G0 W0 G mu env ρ s' → Q (.str x t) s') : wpAny (model prog w) A (eval (.Constant (.str x) k pos) env) Q E s := wpAny_Constant_str (h _ _ (S.toks _))
theorem w_add {a b : Int} {t u : Tok} {Q : Value → Shared → Prop} (S : St s0 G0 W0 G mu env ρ s) (h : ∀ t s', St s0 G0 W0 G mu env ρ s' → Q (.int (a + b) t) s') : wpAny (model prog w) A (binaryOp .Add (.int a t) (.int b u)) Q E s := PyProof.Rows.add_int (h _ _ (S.toks _))
theorem w_sub {a b : Int} {t u : Tok} {Q : Value → Shared → Prop} (S : St s0 G0 W0 G mu env ρ s) (h : ∀ t s', St s0 G0 W0 G mu env ρ s' → Q (.int (a - b) t) s') : wpAny (model prog w) A (binaryOp .Sub (.int a t) (.int b u)) Q E s := PyProof.Rows.sub_int (h _ _ (S.toks _))
theorem w_mul {a b : Int} {t u : Tok} {Q : Value → Shared → Prop} (S : St s0 G0 W0 G mu env ρ s) (hm : IntMulOk a b) (h : ∀ t s', St s0 G0 W0 G mu env ρ s' → Q (.int (a * b) t) s') : wpAny (model prog w) A (binaryOp .Mult (.int a t) (.int b u)) Q E s := mul_int (h _ _ (S.toks _)) hm
theorem w_mod {a b : Int} {t u : Tok} {Q : Value → Shared → Prop} (S : St s0 G0 W0 G mu env ρ s) (hb : b ≠ 0) (h : ∀ t s', St s0 G0 W0 G mu env ρ s' → Q (.int (a.fmod b) t) s') : wpAny (model prog w) A (binaryOp .Mod (.int a t) (.int b u)) Q E s := mod_int' hb (h _ _ (S.toks _))
theorem w_fdiv {a b : Int} {t u : Tok} {Q : Value → Shared → Prop} (S : St s0 G0 W0 G mu env ρ s) (hb : b ≠ 0) (hp : Builtin.divisionGoesByPylong a b = false) (h : ∀ t s', St s0 G0 W0 G mu env ρ s' → Q (.int (a.fdiv b) t) s') : wpAny (model prog w) A (binaryOp .FloorDiv (.int a t) (.int b u)) Q E s := floordiv_int hb (h _ _ (S.toks _)) (.inl hp)
theorem w_iadd {a b : Int} {t u : Tok} {Q : Value → Shared → Prop} (S : St s0 G0 W0 G mu env ρ s) (h : ∀ t s', St s0 G0 W0 G mu env ρ s' → Q (.int (a + b) t) s') : wpAny (model prog w) A (inplaceOp .Add (.int a t) (.int b u)) Q E s := PyProof.Rows.iadd_int (h _ _ (S.toks _))
theorem w_ifdiv {a b : Int} {t u : Tok} {Q : Value → Shared → Prop} (S : St s0 G0 W0 G mu env ρ s) (hb : b ≠ 0) (hp : Builtin.divisionGoesByPylong a b = false) (h : ∀ t s', St s0 G0 W0 G mu env ρ s' → Q (.int (a.fdiv b) t) s') : wpAny (model prog w) A (inplaceOp .FloorDiv (.int a t) (.int b u)) Q E s := ifloordiv_int hb (h _ _ (S.toks _)) (.inl hp)
theorem w_addstr {x y : Str} {t u : Tok} {Q : Value → Shared → Prop} (S : St s0 G0 W0 G mu env ρ s) (hz : (x ++ y).length ≤ sizeLine) (h : ∀ t s', St s0 G0 W0 G mu env ρ s' → Q (.str (x ++ y) t) s') : wpAny (model prog w) A (binaryOp .Add (.str x t) (.str y u)) Q E s :=
  add_str (fun t' tk => h t' _ (S.toks tk)) (by rw [← Str.length_append]; exact hz)

theorem c_tuple {vs : List Value} {Q : Value → Shared → Prop} (S : St s0 G0 W0 G mu env ρ s) (hz : vs.length ≤ sizeLine)
    (h : ∀ a G' s', s0.heap.get? a = none → Le G G' → G'.get? a = some (tup vs) → St s0 G0 W0 G' mu env ρ s' → Q (.ref a) s') : wpAny (model prog w) A (newTuple vs) Q E s := unus (by exact trivial : Us (by
  refine wpAny_newObj_type ?_ (by show vs.toArray.size ≤ sizeLine; rw [List.size_toArray]; exact hz)
  have S' := S.push (tup vs) rfl
  have n0 : s0.heap.get? s.heap.objs.size = none := by
    cases e : s0.heap.get? s.heap.objs.size with
    | none => rfl
    | some o => exact absurd (get_ge (Nat.le_refl _)) (S.z.dom _ (ne_none e))
  refine ob_eccl (S'.freeze n0) ?_; intro G' a b c
  exact h _ G' _ n0 a b c))
theorem c_list {vs : List Value} {Q : Value → Shared → Prop} (S : St s0 G0 W0 G mu env ρ s) (hz : vs.length ≤ sizeLine)
    (h : ∀ a s', s0.heap.get? a = none → St s0 G0 W0 G ((a, lst vs 0) :: mu) env ρ s' → Q (.ref a) s') : wpAny (model prog w) A (newList vs) Q E s := unus (by exact trivial : Us (by
  refine wpAny_newObj_type ?_ (by show vs.toArray.size ≤ sizeLine; rw [List.size_toArray]; exact hz)
  have n0 : s0.heap.get? s.heap.objs.size = none := by
    cases e : s0.heap.get? s.heap.objs.size with
    | none => rfl
    | some o => exact absurd (get_ge (Nat.le_refl _)) (S.z.dom _ (ne_none e))
  exact h _ _ n0 (S.push (lst vs 0) rfl)))
end
end -- L5
section -- L6
open PySem.Calls

section
variable {prog : Program} {w : World} {A : Around} {E : Value → Shared → Prop} {s0 s : Shared} {G0 G : Heap} {W0 : List Addr} {mu mu' : List (Addr × Obj)} {env : Env} {ρ : Str → Option Value}

theorem call_meth {o : Expr} {name : Str} {apos pos : Pos} {args : List Expr} {Q : Value → Shared → Prop}
    (hbase : attributeBase o name env (eval o env) = eval o env) (hline : ((apos.endLine == pos.line) && noStar args && decide (args.length < 30)) = true)
    (h : wpAny (model prog w) A (eval o env) (fun ov s₁ => ∀ pl, wpAny (model prog w) A (getMethod ov name pl) (fun fr s₂ =>
      wpAny (model prog w) A (spliced (backTo pos (starEach args env))) (fun vs s₃ => Kept fr.1 s₃ ∧ wpAny (model prog w) A (call fr.1 (fr.2 ++ vs)) Q E s₃) E s₂) E s₁) E s) :
    wpAny (model prog w) A (eval (.Call (.Attribute o name apos) args [] pos) env) Q E s := unus (by exact trivial : Us (by
  simp only [Bool.and_eq_true, decide_eq_true_eq] at hline
  refine ob_cl hline ?_; try clear hline; rintro ⟨hl, hs⟩ h30
  rw [arm_eval_Call, hbase]
  refine wpAny_bind (wpAny_mono h (fun ov s₁ h₁ => ?_) fun _ _ e => e)
  refine wpAny_bind (wpAny_standAt ?_)
  have hform : methodCallForm (args.length + ([] : List Keyword).length) (backTo pos (starEach args env)) (backToKw pos (keywordEach [] env)) = true := by
    have := noStar_any env pos args hs
    have a1 : ((backTo pos (starEach args env)).all fun x => !x.1) = true := by
      rw [List.all_eq_true]; intro x hx
      rw [List.any_eq_false] at this
      simpa using this x hx
    have e0 : backToKw pos (keywordEach [] env) = [] := rfl
    unfold methodCallForm
    rw [a1, e0]
    simp [h30]
  have hpos : methodCallPos true o env apos pos = pure pos := by unfold methodCallPos; simp [hl]
  unfold methodCall
  rw [hform]
  refine wpAny_bind (wpAny_holding ?_)
  show wpAny _ A (getMethod ov name _) _ _ _
  refine wpAny_mono (h₁ _) (fun fr s₂ h₂ => ?_) fun _ _ e => e
  refine wpAny_bind (wpAny_of_eq hpos ?_)
  exact cw hs h₂))

theorem meth_list {l : Addr} {items : List Value} {n : Nat} {name : Str} {id : String} {pl : Sem Bool} {Q : Value × List Value → Shared → Prop} (hl : s.heap.get? l = some (lst items n)) (slot : Slot "list" name id) (hty : typeOf (.builtin id) = pure (.type "method_descriptor"))
    (h : Q (.builtin id, [.ref l]) s) : wpAny (model prog w) A (getMethod (.ref l) name pl) Q E s :=
  getMethod_builtin ⟨_, hl, rfl⟩ PySem.F.plainAttrs_list slot hty (fun a e => by cases e; exact ⟨_, hl, rfl⟩) h

theorem isl {h : Heap} {l : Addr} {items : List Value} {n : Nat} (x : h.get? l = some (lst items n)) : IsL h l items.toArray n := x
theorem isl' {h : Heap} {l : Addr} {items : List Value} {n : Nat} (x : h.get? l = some (lst items n)) : h.IsList l items.toArray := (isl x).isList

/-- a list that may turn turns by f -/
theorem St.mapSeq (S : St s0 G0 W0 G mu env ρ s) {l : Addr} {items items' : List Value} {n : Nat} {f : Array Value → Array Value} (hf : f items.toArray = items'.toArray) (hm : (l, lst items n) ∈ mu) :
    ∃ n', ∀ mu', Put l (lst items n) (lst items' n') mu mu' → St s0 G0 W0 G mu' env ρ { s with heap := s.heap.update l (Obj.mapSeq f) } := by
  have x := IsL.update (isl (S.z.has hm)) f
  rw [hf] at x
  exact ⟨_, fun mu' P => S.put P rfl rfl (Heap.SameBut.update ..) x⟩

theorem m_append {l : Addr} {items : List Value} {n : Nat} {x : Value} {Q : Value → Shared → Prop} (S : St s0 G0 W0 G mu env ρ s) (hm : (l, lst items n) ∈ mu) (hz : items.length ≤ sizeLine)
    (h : ∀ n' s', (∀ mu', Put l (lst items n) (lst (items ++ [x]) n') mu mu' → St s0 G0 W0 G mu' env ρ s') → Q .none s') : wpAny (model prog w) A (call (.builtin "list.append") [.ref l, x]) Q E s := by
  refine ob_el (S.mapSeq (f := fun xs => xs.push x) (items' := items ++ [x]) (by simp) hm) ?_; intro n' k
  exact call_meets PySem.F.slot_list_append ⟨_, S.z.has hm, rfl⟩ PySem.F.entry_list_append (PySem.F.args_list_append_2 _ _) (list_append l items.toArray n x (by simpa using hz)) ⟨S.z.has hm, h n' _ k⟩
theorem m_pop {l : Addr} {items : List Value} {n : Nat} {x : Value} {Q : Value → Shared → Prop} (S : St s0 G0 W0 G mu env ρ s) (hm : (l, lst (items ++ [x]) n) ∈ mu) (hz : items.length < sizeLine)
    (h : ∀ n' s', (∀ mu', Put l (lst (items ++ [x]) n) (lst items n') mu mu' → St s0 G0 W0 G mu' env ρ s') → Q x s') : wpAny (model prog w) A (call (.builtin "list.pop") [.ref l]) Q E s := unus (by exact trivial : Us (by
  have e : ((items ++ [x]).toArray).size - 1 = items.length := by simp
  refine ob_el (S.mapSeq (f := fun xs => xs.eraseIdxIfInBounds ((items ++ [x]).toArray.size - 1)) (items' := items) (by
    rw [e]
    simp [Array.eraseIdxIfInBounds]
    rw [List.eraseIdx_append_of_length_le (Nat.le_refl _)]; simp) hm) ?_; intro n' k
  exact call_meets PySem.F.slot_list_pop ⟨_, S.z.has hm, rfl⟩ PySem.F.entry_list_pop (PySem.F.args_list_pop_1 _) (MeetsSeq.list_pop_last l (items ++ [x]).toArray n x (by rw [e]; simp) (by simp; omega)) ⟨S.z.has hm, h n' _ k⟩))
theorem m_reverse {l : Addr} {items : List Value} {n : Nat} {Q : Value → Shared → Prop} (S : St s0 G0 W0 G mu env ρ s) (hm : (l, lst items n) ∈ mu) (hz : items.length ≤ sizeLine)
    (h : ∀ n' s', (∀ mu', Put l (lst items n) (lst items.reverse n') mu mu' → St s0 G0 W0 G mu' env ρ s') → Q .none s') : wpAny (model prog w) A (call (.builtin "list.reverse") [.ref l]) Q E s := by
  refine ob_el (S.mapSeq (f := fun xs => xs.reverse) (items' := items.reverse) (by simp) hm) ?_; intro n' k
  exact call_meets PySem.F.slot_list_reverse ⟨_, S.z.has hm, rfl⟩ PySem.F.entry_list_reverse (PySem.F.args_list_reverse_1 _) (AutoSeq1.list_reverse_list_0 l items.toArray n (by simpa using hz)) ⟨S.z.has hm, h n' _ k⟩
theorem m_extend {l b : Addr} {items its : List Value} {n nb : Nat} {Q : Value → Shared → Prop} (S : St s0 G0 W0 G mu env ρ s) (hm : (l, lst items n) ∈ mu) (hb : s.heap.get? b = some (lst its nb)) (hz : items.length + its.length ≤ 100000)
    (h : ∀ n' s', (∀ mu', Put l (lst items n) (lst (items ++ its) n') mu mu' → St s0 G0 W0 G mu' env ρ s') → Q .none s') : wpAny (model prog w) A (call (.builtin "list.extend") [.ref l, .ref b]) Q E s := unus (by exact trivial : Us (by
  refine ob_el (S.mapSeq (f := fun xs => xs ++ its.toArray) (items' := items ++ its) (by simp) hm) ?_; intro n' k
  refine call_meets PySem.F.slot_list_extend ⟨_, S.z.has hm, rfl⟩ PySem.F.entry_list_extend (PySem.F.args_list_extend_2 _ _) (AutoSeq1.list_extend_list_list_0 l items.toArray n b its.toArray nb ?_ (by rw [sizeLine_eq]; simp; omega) (by rw [sizeLine_eq]; simp; omega)) ⟨S.z.has hm, hb, h n' _ k⟩
  have e := sizeLine_eq
  unfold Builtin.List.listTooLong
  simp
  omega))
theorem m_insert {l : Addr} {items : List Value} {n : Nat} {i : Int} {u : Tok} {y : Value} {Q : Value → Shared → Prop} (S : St s0 G0 W0 G mu env ρ s) (hm : (l, lst items n) ∈ mu) (h0 : 0 ≤ i) (h1 : i ≤ items.length) (hz : items.length ≤ 100000)
    (h : ∀ n' s', (∀ mu', Put l (lst items n) (lst (items.take i.toNat ++ y :: items.drop i.toNat) n') mu mu' → St s0 G0 W0 G mu' env ρ s') → Q .none s') : wpAny (model prog w) A (call (.builtin "list.insert") [.ref l, .int i u, y]) Q E s := unus (by exact trivial : Us (by
  have hf : Builtin.List.listFitsIndex i = true := fitsIndex_of h0 (by omega)
  refine ob_el (S.mapSeq (f := fun xs => have k := if i < 0 then (i + (xs.size : Int)).toNat else min i.toNat xs.size; (xs.extract 0 k).push y ++ xs.extract k) (items' := items.take i.toNat ++ y :: items.drop i.toNat) (by
    show (items.toArray.extract 0 (if i < 0 then (i + (items.toArray.size : Int)).toNat else min i.toNat items.toArray.size)).push y ++ items.toArray.extract (if i < 0 then (i + (items.toArray.size : Int)).toNat else min i.toNat items.toArray.size) = _
    rw [kl_ins_eq]
    have e : (if i < 0 then (i + (items.toArray.size : Int)).toNat else min i.toNat items.toArray.size) = i.toNat := by
      rw [List.size_toArray]; split <;> omega
    rw [e]) hm) ?_; intro n' k
  exact call_meets PySem.F.slot_list_insert ⟨_, S.z.has hm, rfl⟩ PySem.F.entry_list_insert (PySem.F.args_list_insert_3 _ _ _) (AutoSeq1.list_insert_list_int_val_1 l _ n i u y (by simp [hf]) (by rw [List.size_toArray, sizeLine_eq]; omega)) ⟨S.z.has hm, h n' _ k⟩))

theorem b_len {l : Addr} {items : List Value} {n : Nat} {Q : Value → Shared → Prop} (S : St s0 G0 W0 G mu env ρ s) (hl : s.heap.get? l = some (lst items n)) (hz : items.length < 2 ^ 62)
    (h : ∀ t s', St s0 G0 W0 G mu env ρ s' → Q (.int items.length t) s') : wpAny (model prog w) A (call (.builtin "len") [.ref l]) Q E s :=
  Calls.call_len_list (isl' hl) (by simp; omega) (by simpa using h _ _ (S.toks _))

theorem sub_list {value slice : Expr} {l : Addr} {items : List Value} {n : Nat} {k : Int} {u : Tok} {v : Value} {Q : Value → Shared → Prop} (hl : s.heap.get? l = some (lst items n)) (h0 : 0 ≤ k) (h1 : k < 2 ^ 63) (hx : items[k.toNat]? = some v) (h : Q v s)
    (hs : subscripted slice false (.ref l) (.int k u) = operate [.ref l, .int k u] (getItem (.ref l) (.int k u))) : wpAny (model prog w) A (subscriptTail value slice (.ref l) (.int k u)) Q E s :=
  tail_any (isl' hl).typeIs slot_list_getitem.lookup (wpAny_getItem_list (isl' hl) h0 h1 (by simpa using hx) h) hs
theorem sub_tup {value slice : Expr} {l : Addr} {items : List Value} {k : Int} {u : Tok} {v : Value} {Q : Value → Shared → Prop} (hl : s.heap.get? l = some (tup items)) (h0 : 0 ≤ k) (h1 : k < 2 ^ 63) (hx : items[k.toNat]? = some v) (h : Q v s)
    (hs : subscripted slice false (.ref l) (.int k u) = operate [.ref l, .int k u] (getItem (.ref l) (.int k u))) : wpAny (model prog w) A (subscriptTail value slice (.ref l) (.int k u)) Q E s := by
  have ht : IsTup s.heap l items.toArray := ⟨_, hl, rfl, _, rfl⟩
  refine tail_any ht.typeIs slot_tuple_getitem.lookup (PyProof.Rows.getItem_tuple ht (by omega) h1 (j := k.toNat) (seqIndex_of h0 ?_) (by simpa using hx) h) hs
  have := (List.getElem?_eq_some_iff.mp hx).1
  simp; omega
theorem set_list {l : Addr} {items : List Value} {n : Nat} {k : Int} {u : Tok} {v : Value} {Q : Unit → Shared → Prop} (S : St s0 G0 W0 G mu env ρ s) (hm : (l, lst items n) ∈ mu) (h0 : 0 ≤ k) (h1 : k < items.length) (hz : items.length < 2 ^ 62)
    (h : ∀ s', (∀ mu', Put l (lst items n) (lst (items.set k.toNat v) n) mu mu' → St s0 G0 W0 G mu' env ρ s') → Q () s') : wpAny (model prog w) A (setItem (.ref l) (.int k u) v) Q E s := by
  have x := IsL.update (isl (S.z.has hm)) (fun xs => xs.setIfInBounds k.toNat v)
  have e : items.toArray.setIfInBounds k.toNat v = (items.set k.toNat v).toArray := by simp
  rw [e, if_pos (by simp)] at x
  exact ki_setAt (S.z.has hm) h0 (by omega) (by simpa using h1) (h _ fun mu' P => S.put P rfl rfl (Heap.SameBut.update ..) x)
end
end -- L6
section -- L7
open PySem.Calls

section
variable {s0 s s' : Shared} {G0 G G' : Heap} {W0 : List Addr} {mu mu' : List (Addr × Obj)} {env : Env} {ρ : Str → Option Value}

/-- all but one loose address kept -/
theorem St0.ext (S : St0 s0 G0 W0 G mu s) {a : Addr} (hg : s'.gens = s.gens) (ho : s'.os = s.os) (hs : Heap.ExtBut a s.heap s'.heap) (h0 : s0.heap.get? a = none) (hG : G.get? a = none) (hm : ∀ p ∈ mu, p.1 ≠ a) : St0 s0 G0 W0 G mu s' := by
  have ne : ∀ b, s0.heap.get? b ≠ none → b ≠ a := fun b h e => h (e ▸ h0)
  refine ⟨hg.trans S.gens, ho.trans S.os, fun b o e n => hs b o (ne b (ne_none e)) (S.keep b o e n), fun b e => ?_, S.g0, fun b o e => hs b o (fun z => by rw [z, hG] at e; cases e) (S.gs b o e), S.gn, fun p hp => ⟨hs _ _ (hm p hp) (S.mt p hp).1, (S.mt p hp).2⟩, S.md⟩
  refine ob_el (Option.ne_none_iff_exists'.mp (S.dom b e)) ?_; intro o q
  exact ne_none (hs b o (ne b e) q)
theorem St.ext (S : St s0 G0 W0 G mu env ρ s) {a : Addr} (hg : s'.gens = s.gens) (ho : s'.os = s.os) (hs : Heap.ExtBut a s.heap s'.heap) (h0 : s0.heap.get? a = none) (hG : G.get? a = none) (hm : ∀ p ∈ mu, p.1 ≠ a)
    (hl : env.locals ≠ a) (hc : ∀ x c, env.cells.lookup x = some c → env.kindOf x ≠ some .local → c ≠ a) : St s0 G0 W0 G mu env ρ s' := unus (by exact trivial : Us (by
  have F := S.f
  refine ob_ecl F.loc ?_; intro m hn hr
  refine ⟨S.z.ext hg ho hs h0 hG hm, ⟨m, hn.at' fun o e => hs _ o hl e, hr⟩, fun x c h nl => ?_, F.ap, F.lc, F.lf, F.lG, F.lm, F.cG, F.cm, F.cf⟩
  refine ob_ecl (F.cel x c h nl) ?_; intro o e d
  exact ⟨o, hs _ _ (hc x c h nl) e, d⟩))
/-- the head entry is let go -/
theorem St.lose {p : Addr × Obj} (S : St s0 G0 W0 G (p :: mu) env ρ s) (hg : s'.gens = s.gens) (ho : s'.os = s.os) (hs : Heap.ExtBut p.1 s.heap s'.heap) (h0 : s0.heap.get? p.1 = none) : St s0 G0 W0 G mu env ρ s' := by
  have md := S.z.md
  rw [List.map_cons, List.nodup_cons] at md
  exact (S.sub (List.sublist_cons_self ..)).ext hg ho hs h0 (S.z.mt p (.head _)).2.1 (fun q hq e => md.1 (e ▸ List.mem_map_of_mem hq)) (Ne.symm (S.f.lm p (.head _))) fun x c h nl => Ne.symm (S.f.cm x c h nl p (.head _))
end

/-- how an iterator goes -/
structure Steps (prog : Program) (w : World) (A : Around) (Gq : Heap → Prop) (I : Addr) (n : Nat) (P : Nat → Value → Prop) (ok : Nat → Obj → Prop) : Prop where
  item : ∀ i (s : Shared) (o : Obj) (Q : Option Value → Shared → Prop) (E : Value → Shared → Prop), i < n → Gq s.heap → s.heap.get? I = some o → ok i o →
    (∀ v h' tk o', P i v → Heap.SameBut I s.heap h' → h'.get? I = some o' → ok (i + 1) o' → Q (some v) { s with heap := h', toks := tk }) → wpAny (model prog w) A (pyNext (.ref I)) Q E s
  done : ∀ (s : Shared) (o : Obj) (Q : Option Value → Shared → Prop) (E : Value → Shared → Prop), Gq s.heap → s.heap.get? I = some o → ok n o →
    (∀ h' tk, Heap.ExtBut I s.heap h' → Q none { s with heap := h', toks := tk }) → wpAny (model prog w) A (pyNext (.ref I)) Q E s
  go : ∀ i (s : Shared) (o : Obj) (target : Expr) (v : Value) (Q : Unit → Shared → Prop) (E : Value → Shared → Prop), s.heap.get? I = some o → ok i o → Q () s → wpAny (model prog w) A (letOwnedTupleGo target (.ref I) v) Q E s
  self : ∀ i (s : Shared) (o : Obj) (Q : Value → Shared → Prop) (E : Value → Shared → Prop), s.heap.get? I = some o → ok i o → Q (.ref I) s → wpAny (model prog w) A (pyIter (.ref I)) Q E s

noncomputable def okList (l : Addr) (i : Nat) (o : Obj) : Prop := o.cls = .type "list_iterator" ∧ o.data = .fields #[.ref l, .int i 0]
noncomputable def okRange (n : Nat) (i : Nat) (o : Obj) : Prop := o = { cls := .type "range_iterator", data := .fields #[rawInt (i : Nat), rawInt ((n : Int) - (i : Nat)), rawInt 1] }

theorem go_any {prog : Program} {w : World} {A : Around} {I : Addr} {s : Shared} {o : Obj} {target : Expr} {v : Value} {Q : Unit → Shared → Prop} {E : Value → Shared → Prop} {c : String} {vs : Array Value} (ho : s.heap.get? I = some o) (hc : o.cls = .type c) (hd : o.data = .fields vs)
    (hn : (["enumerate", "zip", "dict_itemiterator", "dict_reverseitemiterator", "odict_iterator", "itertools.zip_longest", "itertools.pairwise"] : List String).contains c = false) (h : Q () s) : wpAny (model prog w) A (letOwnedTupleGo target (.ref I) v) Q E s := unus (by exact trivial : Us (by
  unfold letOwnedTupleGo
  split
  · cases v <;> first | exact wpAny_pure h | skip
    refine wpAny_bind (wpAny_load ho ?_)
    rw [hc, hd]
    dsimp only
    rw [hn, Bool.false_and]
    exact wpAny_pure h
  · cases v <;> first | exact wpAny_pure h | skip
    refine wpAny_bind (wpAny_load ho ?_)
    rw [hc, hd]
    dsimp only
    rw [hn, Bool.false_and]
    exact wpAny_pure h
  · exact wpAny_pure h))

theorem Steps.list {prog : Program} {w : World} {A : Around} (hh : A.handled = none) (l I : Addr) (xs : List Value) (nn : Nat) : Steps prog w A (fun h => h.get? l = some (lst xs nn)) I xs.length (fun i v => xs[i]? = some v) (okList l) where
  item := fun i s o Q E hi hl ho hk hQ => by
    have hit : s.heap.IsListIter I l i := ⟨o, ho, hk.1, hk.2⟩
    refine wpAny_pyNext_list_item hit (isl' hl) (x := xs[i]) (by simp [hi]) fun h' hit' hs' => ?_
    refine ob_eccl hit' ?_; try clear hit'; intro o' e a b
    exact hQ _ h' s.toks o' (by simp [hi]) hs' e ⟨a, b⟩
  done := fun s o Q E hl ho hk hQ => wpAny_pyNext_list_end hh ⟨o, ho, hk.1, hk.2⟩ (isl' hl) (by simp) fun h' he' => hQ h' s.toks he'
  go := fun i s o target v Q E ho hk h => go_any ho hk.1 hk.2 (by decide) h
  self := fun i s o Q E ho hk h => wpAny_pyIter_listiter ⟨o, ho, hk.1, hk.2⟩ h

theorem Steps.range {prog : Program} {w : World} {A : Around} (hh : A.handled = none) (I : Addr) (n : Nat) : Steps prog w A (fun _ => True) I n (fun i v => ∃ t, v = .int (i : Nat) t) (okRange n) where
  item := fun i s o Q E hi _ ho hk hQ => by
    subst hk
    refine wpAny_pyNext_range_item ho (by omega) fun h' hit' hs' => hQ _ h' _ _ ⟨_, rfl⟩ hs' hit' ?_
    unfold okRange
    have e1 : ((i : Int) + 1) = ((i + 1 : Nat) : Int) := by omega
    have e2 : ((n : Int) - (i : Nat) - 1) = (n : Int) - ((i + 1 : Nat) : Int) := by omega
    rw [e1, e2]
  done := fun s o Q E _ ho hk hQ => by
    subst hk
    exact wpAny_pyNext_range_end hh ho (by omega) fun h' he' => hQ h' s.toks he'
  go := fun i s o target v Q E ho hk h => by
    subst hk
    exact go_any ho rfl rfl (by decide) h
  self := fun i s o Q E ho hk h => by
    subst hk
    exact wpAny_pyIter_rangeiter ho h

section
variable {prog : Program} {w : World} {A : Around} {E : Value → Shared → Prop} {s0 s : Shared} {G0 G : Heap} {W0 : List Addr} {mu mu' : List (Addr × Obj)} {env : Env} {ρ : Str → Option Value}

theorem for_walk {R : Result → Shared → Prop} {target : Expr} {body : List Stmt} {I : Addr} {o : Obj} {n : Nat} {P : Nat → Value → Prop} {ok : Nat → Obj → Prop} {Gq : Heap → Prop}
    (W : Steps prog w A Gq I n P ok) (hG : ∀ h, Le G h → Gq h) (S : St s0 G0 W0 G ((I, o) :: mu) env ρ s) (hI : s0.heap.get? I = none) (hok : ok 0 o)
    (Inv : Nat → Heap → List (Addr × Obj) → (Str → Option Value) → Prop) (h0 : Inv 0 G mu ρ)
    (turn : ∀ i v G' mu' ρ' s' it E', i < n → P i v → Le G G' → Inv i G' mu' ρ' → St s0 G0 W0 G' (it :: mu') env ρ' s' →
      wpAny (model prog w) A (assign target env v) (fun _ s₂ => wpAny (model prog w) A (execs body env) (fun f s₃ => match f with
        | .next | .cont => ∃ G'' mu'' ρ'', Le G' G'' ∧ Inv (i + 1) G'' mu'' ρ'' ∧ St s0 G0 W0 G'' (it :: mu'') env ρ'' s₃
        | .brk => R (.ok .next) s₃
        | .ret v => R (.ok (.ret v)) s₃) E' s₂) E' s')
    (fin : ∀ G' mu' ρ' s', Le G G' → Inv n G' mu' ρ' → St s0 G0 W0 G' mu' env ρ' s' → R (.ok .next) s') : codeAny (model prog w) A (.forLoop target (.ref I) body [] env) R s := unus (by exact trivial : Us (by
  refine codeAny_forLoop_any (fun k s => ∃ i o G' mu' ρ', k = n - i ∧ i ≤ n ∧ ok i o ∧ Le G G' ∧ Inv i G' mu' ρ' ∧ St s0 G0 W0 G' ((I, o) :: mu') env ρ' s) ?_ (n - 0) ⟨0, o, G, mu, ρ, rfl, Nat.zero_le _, hok, Le.rfl, h0, S⟩
  rintro k s ⟨i, o, G', mu', ρ', rfl, hi, hok, hg, hinv, S⟩
  have ho : s.heap.get? I = some o := S.z.has (.head _)
  have gq : Gq s.heap := hG _ (hg.trans S.z.gs)
  by_cases hlt : i < n
  · refine W.item i s o _ _ hlt gq ho hok fun v h' tk o' hP hs' ho' hok' => ?_
    have S' : St s0 G0 W0 G' ((I, o') :: mu') env ρ' { s with heap := h', toks := tk } := S.put .head rfl rfl hs' ho'
    refine W.go (i + 1) _ o' target v _ _ ho' hok' ?_
    refine wpAny_mono (turn i v G' mu' ρ' _ (I, o') _ hlt hP hg hinv S') (fun _ s₂ h₂ => wpAny_mono h₂ (fun f s₃ h₃ => ?_) fun _ _ x => x) fun _ _ x => x
    cases f with
    | next => (refine ob_eeeccl h₃ ?_; try clear h₃; rintro G'' mu'' ρ'' a b c); exact ⟨n - (i + 1), by omega, i + 1, o', G'', mu'', ρ'', rfl, hlt, hok', hg.trans a, b, c⟩
    | cont => (refine ob_eeeccl h₃ ?_; try clear h₃; rintro G'' mu'' ρ'' a b c); exact ⟨n - (i + 1), by omega, i + 1, o', G'', mu'', ρ'', rfl, hlt, hok', hg.trans a, b, c⟩
    | brk => exact h₃
    | ret v => exact h₃
  · obtain rfl : i = n := by omega
    refine W.done s o _ _ gq ho hok fun h' tk he => ?_
    refine wpAny_execs_nil ?_
    exact fin G' mu' ρ' _ hg hinv (S.lose rfl rfl he hI)))
end
end -- L7
section -- L8
open PySem.Calls

noncomputable def closOf (scope : Scope) (env : Env) : List (Str × Addr) := scope.names.foldl (fun cs p => if p.2 == .free then (match env.cells.lookup p.1 with | some c => (p.1, c) :: cs | none => cs) else cs) []
noncomputable def closOk (scope : Scope) (env : Env) : Bool := scope.names.all fun p => p.2 != .free || ((env.cells.lookup p.1).isSome && env.kindOf p.1 != some .local)
noncomputable def compOk (scope : Scope) (env : Env) (x : Str) : Bool := closOk scope env && scope.kind == .function && scope.names.all (fun p => p.2 != .cell && (p.2 != .local || scope.names.lookup p.1 == some .local)) && scope.names.lookup x == some .local

theorem closureFor_go {env : Env} : ∀ (names : List (Str × NameKind)) (acc : List (Str × Addr)), (names.all fun p => p.2 != .free || ((env.cells.lookup p.1).isSome && env.kindOf p.1 != some .local)) = true →
    (forIn names acc fun p cs => if (p.2 == NameKind.free) = true then do let c ← cellOf env p.1; pure (ForInStep.yield ((p.1, c) :: cs)) else pure (ForInStep.yield cs)) =
      (pure (names.foldl (fun cs p => if p.2 == .free then (match env.cells.lookup p.1 with | some c => (p.1, c) :: cs | none => cs) else cs) acc) : Sem (List (Str × Addr)))
  | [], acc, _ => rfl
  | p :: r, acc, h => by
    rw [List.all_cons, Bool.and_eq_true] at h
    rw [List.forIn_cons, List.foldl_cons]
    by_cases hk : p.2 = .free
    · have h1 := h.1
      simp only [hk, bne_self_eq_false, Bool.false_or, Bool.and_eq_true] at h1
      refine ob_el (Option.isSome_iff_exists.mp h1.1) ?_; intro c hc
      have e : cellOf env p.1 = pure c := by unfold cellOf; rw [hc]
      simp only [hk, beq_self_eq_true, if_true, e, hc, pure_bind]
      exact closureFor_go r _ h.2
    · have : (p.2 == NameKind.free) = false := by simpa using hk
      simp only [this, Bool.false_eq_true, if_false, pure_bind]
      exact closureFor_go r _ h.2
theorem closureFor_of {scope : Scope} {env : Env} (h : closOk scope env = true) : closureFor scope env = pure (closOf scope env) := by
  have := closureFor_go (env := env) scope.names [] h
  unfold closureFor
  show (forIn scope.names ([] : List (Str × Addr)) _ >>= _) = _
  exact (congrArg (· >>= _) this).trans rfl

theorem closOf_mem_go {env : Env} {x : Str} {c : Addr} : ∀ (names : List (Str × NameKind)) (acc : List (Str × Addr)),
    (x, c) ∈ names.foldl (fun cs p => if p.2 == .free then (match env.cells.lookup p.1 with | some c => (p.1, c) :: cs | none => cs) else cs) acc → (x, c) ∈ acc ∨ ((x, NameKind.free) ∈ names ∧ env.cells.lookup x = some c)
  | [], _, h => .inl h
  | p :: r, acc, h => by
    rw [List.foldl_cons] at h
    rcases closOf_mem_go r _ h with h | ⟨h, e⟩
    · by_cases hk : p.2 = .free
      · simp only [hk, beq_self_eq_true, if_true] at h
        split at h
        · rename_i c' hc'
          rcases List.mem_cons.mp h with h | h
          · cases h
            exact .inr ⟨by rw [← hk]; exact .head _, hc'⟩
          · exact .inl h
        · exact .inl h
      · have : (p.2 == NameKind.free) = false := by simpa using hk
        simp only [this, Bool.false_eq_true, if_false] at h
        exact .inl h
    · exact .inr ⟨.tail _ h, e⟩
theorem closOf_mem {scope : Scope} {env : Env} {x : Str} {c : Addr} (ok : closOk scope env = true) (h : (x, c) ∈ closOf scope env) : env.cells.lookup x = some c ∧ env.kindOf x ≠ some .local := unus (by exact trivial : Us (by
  rcases closOf_mem_go scope.names [] h with h | ⟨h, e⟩
  · cases h
  · refine ⟨e, ?_⟩
    have := List.all_eq_true.mp ok _ h
    simpa [e] using this))

section
variable {prog : Program} {w : World} {A : Around} {E : Value → Shared → Prop} {s0 s : Shared} {G0 G : Heap} {W0 : List Addr} {mu mu' : List (Addr × Obj)} {env : Env} {ρ : Str → Option Value}

/-- the frame of a comprehension -/
noncomputable def crho (scope : Scope) (env : Env) (C : Addr) (ρ : Str → Option Value) : Str → Option Value := fun x => if (compEnvC scope (closOf scope env) C env).kindOf x = some .local then none else ρ x

theorem comp_start (S : St s0 G0 W0 G mu env ρ s) {scope : Scope} {h' : Heap} {tk : Nat} {m : Str → Option Value} (ok : closOk scope env = true) (hn : h'.Ns s.heap.objs.size m) (hm : ∀ x, m x = none) {cl : Value}
    (hs : Heap.SameBut s.heap.objs.size (s.heap.push { cls := cl, data := .dict #[] }) h') :
    St s G (mu.map Prod.fst) G mu (compEnvC scope (closOf scope env) s.heap.objs.size env) (crho scope env s.heap.objs.size ρ) { s with heap := h', toks := tk } := unus (by exact trivial : Us (by
  have k : Le s.heap h' := fun b o e => hs.extBut b o (Nat.ne_of_lt (Heap.lt_size e)) (Heap.get?_push_of_some _ e)
  have nC : s.heap.get? s.heap.objs.size = none := get_ge (Nat.le_refl _)
  have T := (St0.start s G mu S.z.gs (fun p hp => ⟨(S.z.mt p hp).1, (S.z.mt p hp).2.1⟩) S.z.md).keeps (s' := { s with heap := h', toks := tk }) rfl rfl k
  have neC : ∀ b, s.heap.get? b ≠ none → b ≠ s.heap.objs.size := fun b hb e => hb (e ▸ nC)
  have cell : ∀ x c, (closOf scope env).lookup x = some c → env.cells.lookup x = some c ∧ env.kindOf x ≠ some .local := fun x c h => closOf_mem ok (lookup_mem h)
  refine ⟨T, ⟨m, hn, fun x hx => ?_⟩, fun x c hc nl => ?_, (fun h => by cases h), fun x c hc => ?_, nC, none_of_le S.z.gs nC, fun p hp => neC _ (ne_none (S.z.has hp)), fun x c hc _ => ?_, fun x c hc _ => ?_, (fun h => by cases h)⟩
  · rw [hm]; unfold crho; simp [hx]
  · refine ob_cl (cell x c hc) ?_; intro a b
    have := (S.f.cel x c a b).keeps k
    unfold crho
    rw [if_neg nl]
    exact this
  · refine ob_cl (closOf_mem ok hc) ?_; intro a b
    exact neC _ (cell_some (S.f.cel x c a b))
  · refine ob_cl (cell x c hc) ?_; intro a b
    exact S.f.cG x c a b
  · refine ob_cl (cell x c hc) ?_; intro a b
    exact S.f.cm x c a b))

theorem comp_loop {R : Result → Shared → Prop} {elt iter : Expr} {ifs : List Expr} {scope : Scope} {pos : Pos} {x : Str} {px : Pos} {I D : Addr} {o : Obj} {cenv : Env} {n : Nat} {P : Nat → Value → Prop} {ok : Nat → Obj → Prop} {Gq : Heap → Prop}
    (W : Steps prog w A Gq I n P ok) (hG : ∀ h, Le G h → Gq h) (hz : n ≤ sizeLine) {nn : Nat} (S : St s0 G0 W0 G ((I, o) :: (D, lst [] nn) :: mu) cenv ρ s) (hok : ok 0 o) (hx : (cenv.kindOf x == some .local && cenv.scope.kind == .function) = true)
    (Inv : Nat → List Value → Heap → List (Addr × Obj) → Prop) (hlen : ∀ i ys G mu, Inv i ys G mu → ys.length ≤ i) (h0 : Inv 0 [] G mu)
    (turn : ∀ i v ys G' mu' ρ' s' it d E', i < n → P i v → Le G G' → Inv i ys G' mu' → (∀ y, y ≠ x → ρ' y = ρ y) → St s0 G0 W0 G' (it :: d :: mu') cenv (upd ρ' x v) s' →
      wpAny (model prog w) A (forIn ifs true fun c r => if r = true then do let ok ← isTrue c cenv (eval c cenv); pure (ForInStep.yield ok) else pure (ForInStep.yield r)) (fun ok s₃ =>
        if ok = true then wpAny (model prog w) A (eval elt cenv) (fun y s₄ => ∃ G'' mu'' ρ'', Le G' G'' ∧ Inv (i + 1) (ys ++ [y]) G'' mu'' ∧ (∀ y, y ≠ x → ρ'' y = ρ y) ∧ St s0 G0 W0 G'' (it :: d :: mu'') cenv ρ'' s₄) E' s₃
        else ∃ G'' mu'' ρ'', Le G' G'' ∧ Inv (i + 1) ys G'' mu'' ∧ (∀ y, y ≠ x → ρ'' y = ρ y) ∧ St s0 G0 W0 G'' (it :: d :: mu'') cenv ρ'' s₃) E' s')
    (fin : ∀ ys nn' G' mu' ρ' s' I', Heap.ExtBut I s'.heap I'.heap → I'.gens = s'.gens → I'.os = s'.os → Le G G' → Inv n ys G' mu' → (∃ o', St s0 G0 W0 G' ((I, o') :: (D, lst ys nn') :: mu') cenv ρ' s') → R (.ok .next) I') :
    codeAny (model prog w) A (.compLoop (.ListComp elt [⟨.Name x px, iter, ifs, 0⟩] scope pos) 0 (.ref I) (.ref D) cenv) R s := unus (by exact trivial : Us (by
  refine ob_cl (Bool.and_eq_true_iff.mp hx) ?_; intro hx hk
  have hx : cenv.kindOf x = some .local := by simpa using hx
  have hk : cenv.scope.kind = .function := by simpa using hk
  refine codeAny_compLoop_tests (fun k s => ∃ i o ys nn G' mu' ρ', k = n - i ∧ i ≤ n ∧ ok i o ∧ Le G G' ∧ Inv i ys G' mu' ∧ (∀ y, y ≠ x → ρ' y = ρ y) ∧ St s0 G0 W0 G' ((I, o) :: (D, lst ys nn) :: mu') cenv ρ' s) ?_ (n - 0) ⟨0, o, [], nn, G, mu, ρ, rfl, Nat.zero_le _, hok, Le.rfl, h0, fun _ _ => rfl, S⟩
  rintro k s ⟨i, o, ys, nn, G', mu', ρ', rfl, hi, hok, hg, hinv, hρ, S⟩
  have ho : s.heap.get? I = some o := S.z.has (.head _)
  have gq : Gq s.heap := hG _ (hg.trans S.z.gs)
  by_cases hlt : i < n
  · refine W.item i s o _ _ hlt gq ho hok fun v h' tk o' hP hs' ho' hok' => ?_
    have S' : St s0 G0 W0 G' ((I, o') :: (D, lst ys nn) :: mu') cenv ρ' { s with heap := h', toks := tk } := S.put .head rfl rfl hs' ho'
    refine wpAny_assign_Name (S'.st hk (by unfold isOwn; rw [hx]) fun s₂ S₂ => ?_)
    refine wpAny_mono (turn i v ys G' mu' ρ' _ (I, o') (D, lst ys nn) _ hlt hP hg hinv hρ S₂) (fun okb s₃ h₃ => ?_) fun _ _ x => x
    cases okb with
    | false =>
      simp only [Bool.false_eq_true, if_false] at h₃ ⊢
      refine ob_eeecccl h₃ ?_; try clear h₃; rintro G'' mu'' ρ'' a b c d
      exact ⟨n - (i + 1), by omega, i + 1, o', ys, nn, G'', mu'', ρ'', rfl, hlt, hok', hg.trans a, b, c, d⟩
    | true =>
      simp only [if_true] at h₃ ⊢
      refine wpAny_mono h₃ (fun y s₄ h₄ => ?_) fun _ _ x => x
      refine ob_eeecccl h₄ ?_; try clear h₄; rintro G'' mu'' ρ'' a b c d
      refine m_append d (.tail _ (.head _)) (by have := hlen _ _ _ _ hinv; omega) fun n' s₅ k₅ => ?_
      exact ⟨n - (i + 1), by omega, i + 1, o', ys ++ [y], n', G'', mu'', ρ'', rfl, hlt, hok', hg.trans a, b, c, k₅ _ (.tail .head)⟩
  · obtain rfl : i = n := by omega
    refine W.done s o _ _ gq ho hok fun h' tk he => ?_
    exact fin ys nn G' mu' ρ' s _ he rfl rfl hg hinv ⟨o, S⟩))
end
end -- L8
section -- L9
open PySem.Calls

noncomputable def Loose (s0 : Shared) (G : Heap) (mu : List (Addr × Obj)) (env : Env) (C : Addr) : Prop :=
  s0.heap.get? C = none ∧ G.get? C = none ∧ (∀ p ∈ mu, p.1 ≠ C) ∧ env.locals ≠ C ∧ ∀ x c, env.cells.lookup x = some c → env.kindOf x ≠ some .local → c ≠ C

section
variable {prog : Program} {w : World} {A : Around} {E : Value → Shared → Prop} {s0 s : Shared} {G0 G : Heap} {W0 : List Addr} {mu mu' : List (Addr × Obj)} {env : Env} {ρ : Str → Option Value}

theorem St.new (S : St s0 G0 W0 G mu env ρ s) {a : Addr} (h : s.heap.get? a = none) : s0.heap.get? a = none := by
  cases e : s0.heap.get? a with
  | none => rfl
  | some o => exact absurd h (S.z.dom _ (ne_none e))

theorem comp_block {Post : Value → Addr → Result → Shared → Prop} {elt iter : Expr} {ifs : List Expr} {scope : Scope} {pos : Pos} {x : Str} {px : Pos} {I : Addr} {o : Obj} {n : Nat} {P : Nat → Value → Prop} {ok : Nat → Obj → Prop} {Gq : Heap → Prop}
    (W : Steps prog w A Gq I n P ok) (hG : ∀ h, Le G h → Gq h) (hz : n ≤ sizeLine) (S : St s0 G0 W0 G ((I, o) :: mu) env ρ s) (hI : s0.heap.get? I = none) (hok : ok 0 o) (hx : compOk scope env x = true)
    (Inv : Nat → List Value → Heap → List (Addr × Obj) → Prop) (hlen : ∀ i ys G mu, Inv i ys G mu → ys.length ≤ i) (h0 : Inv 0 [] G mu)
    (turn : ∀ C sD Wc i v ys G' mu' ρ' s' it d E', i < n → P i v → Le G G' → Inv i ys G' mu' → (∀ y, y ≠ x → ρ' y = crho scope env C ρ y) → St sD G Wc G' (it :: d :: mu') (compEnvC scope (closOf scope env) C env) (upd ρ' x v) s' →
      wpAny (model prog w) A (forIn ifs true fun c r => if r = true then do let ok ← isTrue c (compEnvC scope (closOf scope env) C env) (eval c (compEnvC scope (closOf scope env) C env)); pure (ForInStep.yield ok) else pure (ForInStep.yield r)) (fun ok s₃ =>
        if ok = true then wpAny (model prog w) A (eval elt (compEnvC scope (closOf scope env) C env)) (fun y s₄ => ∃ G'' mu'' ρ'', Le G' G'' ∧ Inv (i + 1) (ys ++ [y]) G'' mu'' ∧ (∀ y, y ≠ x → ρ'' y = crho scope env C ρ y) ∧ St sD G Wc G'' (it :: d :: mu'') (compEnvC scope (closOf scope env) C env) ρ'' s₄) E' s₃
        else ∃ G'' mu'' ρ'', Le G' G'' ∧ Inv (i + 1) ys G'' mu'' ∧ (∀ y, y ≠ x → ρ'' y = crho scope env C ρ y) ∧ St sD G Wc G'' (it :: d :: mu'') (compEnvC scope (closOf scope env) C env) ρ'' s₃) E' s')
    (fin : ∀ D C ys nn G' mu' s' m, s0.heap.get? D = none → Le G G' → Inv n ys G' mu' → St s0 G0 W0 G' ((D, lst ys nn) :: mu') env ρ s' → s'.heap.Ns C m → Loose s0 G' ((D, lst ys nn) :: mu') env C → Post (.ref D) C (.ok .next) s') :
    wpAny (model prog w) A (newList []) (fun acc s₃ => wpAny (model prog w) A (newFunctionEnv scope env.globals (closOf scope env) [] env.qual none .none (some env)) (fun cenv s₄ =>
      codeAny (model prog w) A (.compStart (.ListComp elt [⟨.Name x px, iter, ifs, 0⟩] scope pos) 0 (.ref I) acc { cenv with scope := relabel scope env }) (Post acc cenv.locals) s₄) E s₃) E s := unus (by exact trivial : Us (by
  simp only [compOk, Bool.and_eq_true, beq_iff_eq] at hx
  refine ob_cl hx ?_; try clear hx; rintro ⟨⟨hc, hk⟩, hn⟩ hxl
  have hcell : ∀ y ∈ scope.names, y.2 ≠ .cell := fun y hy => by
    have := List.all_eq_true.mp hn y hy
    simp only [Bool.and_eq_true, bne_iff_ne] at this
    exact this.1
  refine c_list S (by simp) fun D sD hD SD => ?_
  have SD : St s0 G0 W0 G ((I, o) :: (D, lst [] 0) :: mu) env ρ sD := SD.perm (List.Perm.swap ..)
  refine wpAny_newFunctionEnv hcell (by intro y hy; simp at hy) (fun h' hns hsb => ?_) hk
  have Sc := comp_start (tk := sD.toks + ([] : List (Str × Value)).length) SD hc hns (by intro x; simp) hsb
  generalize hC : sD.heap.objs.size = C at *
  have hxc : (compEnvC scope (closOf scope env) C env).kindOf x = some .local := lookup_relabel_local hxl
  have nC : sD.heap.get? C = none := get_ge (Nat.le_of_eq hC)
  have loop : codeAny (model prog w) A (.compLoop (.ListComp elt [⟨.Name x px, iter, ifs, 0⟩] scope pos) 0 (.ref I) (.ref D) (compEnvC scope (closOf scope env) C env)) (Post (.ref D) C) { sD with heap := h', toks := sD.toks + ([] : List (Str × Value)).length } := by
    refine comp_loop W hG hz Sc hok (by rw [hxc]; simp [compEnvC, relabel, hk]) Inv hlen h0 (fun i v ys G' mu' ρ' s' it d E' => turn C sD _ i v ys G' mu' ρ' s' it d E') ?_
    rintro ys nn' G' mu' ρ' s' I' he hg' ho' hle hinv ⟨o', Se⟩
    have SD' : St s0 G0 W0 G (((I, o) :: (D, lst [] 0) :: mu) ++ []) env ρ sD := by rw [List.append_nil]; exact SD
    have So := SD'.back Se.z
    rw [List.append_nil] at So
    refine ob_ecl Se.f.loc ?_; intro m hm _
    have hCI : C ≠ I := fun e => Se.f.lm (I, o') (.head _) e.symm
    refine fin D C ys nn' G' mu' I' m hD hle hinv (So.lose hg' ho' he hI) (hm.at' fun o e => he _ o hCI e) ⟨SD.new nC, Se.f.lG, fun p hp => Se.f.lm p (.tail _ hp), fun e => ?_, fun y c hc' nl e => ?_⟩
    · refine ob_ecl SD.f.loc ?_; intro m' hm' _
      exact ns_some hm' (e ▸ nC)
    · exact cell_some (SD.f.cel y c hc' nl) (e ▸ nC)
  refine codeAny_compStart_list loop (W.self 0 _ o _ _ (Sc.z.has (.head _)) hok ?_)
  exact loop))

/-- what the source of a comprehension hands on -/
noncomputable def IterFor (prog : Program) (w : World) (A : Around) (s0 : Shared) (G0 : Heap) (W0 : List Addr) (G : Heap) (mu : List (Addr × Obj)) (env : Env) (ρ : Str → Option Value) (n : Nat) (P : Nat → Value → Prop) (it : Value) (s : Shared) : Prop :=
  ∃ I o Gq ok, it = .ref I ∧ Steps prog w A Gq I n P ok ∧ (∀ h, Le G h → Gq h) ∧ s0.heap.get? I = none ∧ ok 0 o ∧ St s0 G0 W0 G ((I, o) :: mu) env ρ s

theorem iter_list (hh : A.handled = none) {l : Addr} {xs : List Value} {nn : Nat} {Q : Value → Shared → Prop} (S : St s0 G0 W0 G mu env ρ s) (hl : G.get? l = some (lst xs nn))
    (h : ∀ it s', IterFor prog w A s0 G0 W0 G mu env ρ xs.length (fun i v => xs[i]? = some v) it s' → Q it s') : wpAny (model prog w) A (pyIter (.ref l)) Q E s :=
  wpAny_pyIter_list (isl' (S.z.gs _ _ hl)) (h _ _ ⟨_, _, _, _, rfl, Steps.list hh l _ xs nn, fun h k => k _ _ hl, S.new (get_ge (Nat.le_refl _)), ⟨rfl, rfl⟩, S.push _ rfl⟩)

theorem b_range (hh : A.handled = none) {N : Int} {t : Tok} {Q : Value → Shared → Prop} (S : St s0 G0 W0 G mu env ρ s) (h0 : 0 ≤ N) (h1 : N < 2 ^ 62)
    (h : ∀ r s', (∀ (E' : Value → Shared → Prop) (K : Value → Shared → Prop), (∀ it s'', IterFor prog w A s0 G0 W0 G mu env ρ N.toNat (fun i v => ∃ t, v = .int (i : Nat) t) it s'' → K it s'') → wpAny (model prog w) A (pyIter r) K E' s') → Q r s') :
    wpAny (model prog w) A (call (.type "range") [.int N t]) Q E s := unus (by exact trivial : Us (by
  refine call_range_1 ?_
  refine h _ _ fun E' K hK => ?_
  refine wpAny_pyIter_range (IsRange.new ..) (small_one (by decide) (by decide) (by omega) h1) ?_
  have hsz : Builtin.Range.rangeSize 0 N 1 = (N.toNat : Int) := by rw [rangeSize_one]; split <;> omega
  rw [hsz]
  refine hK _ _ ⟨_, { cls := .type "range_iterator", data := .fields #[rawInt 0, rawInt (N.toNat : Int), rawInt 1] }, _, _, rfl, Steps.range hh _ N.toNat, fun _ _ => trivial, ?_, ?_, ?_⟩
  · refine S.new (get_ge ?_)
    show _ ≤ (Heap.push _ _).objs.size
    rw [Heap.size_push]; exact Nat.le_succ _
  · simp [okRange]
  · have S1 := ((S.push { cls := .type "range", data := .fields #[.int 0 s.toks, .int N t, .int 1 (s.toks + 1)] } rfl).sub (List.sublist_cons_self ..)).toks (s.toks + 1 + 1)
    exact S1.push _ rfl))
end
end -- L9
section -- L10
open PySem.Calls

noncomputable def CompGoal (prog : Program) (w : World) (A : Around) (E : Value → Shared → Prop) (elt iter : Expr) (ifs : List Expr) (scope : Scope) (pos : Pos) (x : Str) (px : Pos) (env : Env) (Post : Value → Addr → Result → Shared → Prop) (it : Value) (s : Shared) : Prop :=
  wpAny (model prog w) A (newList []) (fun acc s₃ => wpAny (model prog w) A (newFunctionEnv scope env.globals (closOf scope env) [] env.qual none .none (some env)) (fun cenv s₄ =>
      codeAny (model prog w) A (.compStart (.ListComp elt [⟨.Name x px, iter, ifs, 0⟩] scope pos) 0 it acc { cenv with scope := relabel scope env }) (Post acc cenv.locals) s₄) E s₃) E s

section
variable {prog : Program} {w : World} {A : Around} {E : Value → Shared → Prop} {s0 s : Shared} {G0 G : Heap} {W0 : List Addr} {mu mu' : List (Addr × Obj)} {env : Env} {ρ : Str → Option Value}

theorem compOk_parts {scope : Scope} {env : Env} {x : Str} (h : compOk scope env x = true) : closOk scope env = true ∧ scope.kind = .function ∧ (∀ z ∈ scope.names, z.2 = .local → scope.names.lookup z.1 = some .local) := unus (by exact trivial : Us (by
  simp only [compOk, Bool.and_eq_true, beq_iff_eq] at h
  refine ob_cl h ?_; try clear h; rintro ⟨⟨hc, hk⟩, hn⟩ hxl
  refine ⟨hc, hk, fun z hz hl => ?_⟩
  have := List.all_eq_true.mp hn z hz
  simp only [Bool.and_eq_true, bne_iff_ne, Bool.or_eq_true, beq_iff_eq] at this
  rcases this.2 with q | q
  · exact absurd hl q
  · exact q))

theorem r_comp {elt iter : Expr} {ifs : List Expr} {scope : Scope} {pos : Pos} {x : Str} {px : Pos} {Q : Value → Shared → Prop} (hx : compOk scope env x = true)
    (h : wpAny (model prog w) A (eval iter env) (fun xv s₁ => wpAny (model prog w) A (pyIter xv) (CompGoal prog w A E elt iter ifs scope pos x px env (compPost (model prog w) A E none Q)) E s₁) E s)
    (hs : ∀ x, foldedSetIterable iter env x = pure x) : wpAny (model prog w) A (eval (.ListComp elt [⟨.Name x px, iter, ifs, 0⟩] scope pos) env) Q E s := by
  refine ob_ccl (compOk_parts hx) ?_; intro a b c
  rw [eval_ListComp]
  exact wpAny_comprehension_free (use := none) rfl hs (closureFor_of a) b c h

theorem r_acomp {elt iter : Expr} {ifs : List Expr} {scope : Scope} {pos spos : Pos} {x y : Str} {px py : Pos} {Q : Flow → Shared → Prop} (hx : compOk scope env x = true)
    (hsw : swapsWith (.ListComp elt [⟨.Name x px, iter, ifs, 0⟩] scope pos) (some (.Name y py)) spos.line env = pure true)
    (h : wpAny (model prog w) A (eval iter env) (fun xv s₁ => wpAny (model prog w) A (pyIter xv) (CompGoal prog w A E elt iter ifs scope pos x px env (compPost (model prog w) A E (some (assign (.Name y py) env)) (fun _ s' => Q .next s'))) E s₁) E s)
    (hs : ∀ x, foldedSetIterable iter env x = pure x) : wpAny (model prog w) A (exec (.Assign [.Name y py] (.ListComp elt [⟨.Name x px, iter, ifs, 0⟩] scope pos) spos) env) Q E s := unus (by exact trivial : Us (by
  refine ob_ccl (compOk_parts hx) ?_; intro a b c
  rw [exec_Assign_Name_used _ _ _ _ hsw]
  refine wpAny_bind (wpAny_standAt (wpAny_bind ?_))
  show wpAny _ A (do let _ ← comprehension (.ListComp elt [⟨.Name x px, iter, ifs, 0⟩] scope pos) scope env _ (newList []) false (eval iter env) (some (assign (.Name y py) env))) _ _ s
  exact wpAny_bind (wpAny_mono (wpAny_comprehension_free (use := some (assign (.Name y py) env)) (Q := fun _ s' => Q .next s') rfl hs (closureFor_of a) b c h) (fun _ s' hq => wpAny_pure (wpAny_pure hq)) fun _ _ e => e)))

theorem St.same (S : St s0 G0 W0 G mu env ρ s) {C : Addr} (L : Loose s0 G mu env C) {h' : Heap} (hs : Heap.SameBut C s.heap h') : St s0 G0 W0 G mu env ρ { s with heap := h' } :=
  S.ext rfl rfl hs.extBut L.1 L.2.1 L.2.2.1 L.2.2.2.1 L.2.2.2.2

theorem St.gain (S : St s0 G0 W0 G mu env ρ s) {C : Addr} {oC : Obj} (L : Loose s0 G mu env C) (h : s.heap.get? C = some oC) : St s0 G0 W0 G ((C, oC) :: mu) env ρ s := unus (by exact trivial : Us (by
  have Z := S.z
  have F := S.f
  refine ⟨⟨Z.gens, Z.os, Z.keep, Z.dom, Z.g0, Z.gs, Z.gn, fun p hp => ?_, ?_⟩, F.loc, F.cel, F.ap, F.lc, F.lf, F.lG, fun p hp => ?_, F.cG, fun x c hc nl p hp => ?_, F.cf⟩
  · rcases List.mem_cons.mp hp with rfl | hp
    · exact ⟨h, L.2.1, .inr L.1⟩
    · exact Z.mt p hp
  · rw [List.map_cons, List.nodup_cons]
    refine ⟨fun hm => ?_, Z.md⟩
    refine ob_ecl (List.mem_map.mp hm) ?_; intro p hp e
    exact L.2.2.1 p hp e
  · rcases List.mem_cons.mp hp with rfl | hp
    · exact Ne.symm L.2.2.2.1
    · exact F.lm p hp
  · rcases List.mem_cons.mp hp with rfl | hp
    · exact Ne.symm (L.2.2.2.2 x c hc nl)
    · exact F.cm x c hc nl p hp))

section
variable {elt iter : Expr} {ifs : List Expr} {scope : Scope} {pos : Pos} {x : Str} {px : Pos} {n : Nat} {P : Nat → Value → Prop} {it : Value}
    (T : IterFor prog w A s0 G0 W0 G mu env ρ n P it s) (hz : n ≤ sizeLine) (hx : compOk scope env x = true)
    (Inv : Nat → List Value → Heap → List (Addr × Obj) → Prop) (hlen : ∀ i ys G mu, Inv i ys G mu → ys.length ≤ i) (h0 : Inv 0 [] G mu)
    (turn : ∀ C sD Wc i v ys G' mu' ρ' s' it d E', i < n → P i v → Le G G' → Inv i ys G' mu' → (∀ y, y ≠ x → ρ' y = crho scope env C ρ y) → St sD G Wc G' (it :: d :: mu') (compEnvC scope (closOf scope env) C env) (upd ρ' x v) s' →
      wpAny (model prog w) A (forIn ifs true fun c r => if r = true then do let ok ← isTrue c (compEnvC scope (closOf scope env) C env) (eval c (compEnvC scope (closOf scope env) C env)); pure (ForInStep.yield ok) else pure (ForInStep.yield r)) (fun ok s₃ =>
        if ok = true then wpAny (model prog w) A (eval elt (compEnvC scope (closOf scope env) C env)) (fun y s₄ => ∃ G'' mu'' ρ'', Le G' G'' ∧ Inv (i + 1) (ys ++ [y]) G'' mu'' ∧ (∀ y, y ≠ x → ρ'' y = crho scope env C ρ y) ∧ St sD G Wc G'' (it :: d :: mu'') (compEnvC scope (closOf scope env) C env) ρ'' s₄) E' s₃
        else ∃ G'' mu'' ρ'', Le G' G'' ∧ Inv (i + 1) ys G'' mu'' ∧ (∀ y, y ≠ x → ρ'' y = crho scope env C ρ y) ∧ St sD G Wc G'' (it :: d :: mu'') (compEnvC scope (closOf scope env) C env) ρ'' s₃) E' s')
include T hz hx hlen h0 turn

theorem comp_eval {Q : Value → Shared → Prop}
    (fin : ∀ D ys nn G' mu' s', s0.heap.get? D = none → Le G G' → Inv n ys G' mu' → St s0 G0 W0 G' ((D, lst ys nn) :: mu') env ρ s' → Q (.ref D) s') :
    CompGoal prog w A E elt iter ifs scope pos x px env (compPost (model prog w) A E none Q) it s := by
  refine ob_eeeecccccl T ?_; try clear T; rintro I o Gq ok rfl W hG hI hok S
  refine comp_block W hG hz S hI hok hx Inv hlen h0 turn ?_
  intro D C ys nn G' mu' s' m hD hle hinv So hm L
  exact ⟨m, hm, fun h' hs => fin D ys nn G' mu' _ hD hle hinv (So.same L hs)⟩

theorem comp_assign {Q : Flow → Shared → Prop} {y : Str} {py : Pos} (hy : isOwn env y = true) (hk : env.scope.kind = .function)
    (fin : ∀ D ys nn G' mu' s', s0.heap.get? D = none → Le G G' → Inv n ys G' mu' → St s0 G0 W0 G' ((D, lst ys nn) :: mu') env (upd ρ y (.ref D)) s' → Q .next s') :
    CompGoal prog w A E elt iter ifs scope pos x px env (compPost (model prog w) A E (some (assign (.Name y py) env)) (fun _ s' => Q .next s')) it s := unus (by exact trivial : Us (by
  refine ob_eeeecccccl T ?_; try clear T; rintro I o Gq ok rfl W hG hI hok S
  refine comp_block W hG hz S hI hok hx Inv hlen h0 turn ?_
  intro D C ys nn G' mu' s' m hD hle hinv So hm L
  show wpAny _ A (assign (.Name y py) env (.ref D)) _ _ _
  refine ob_eeecccl hm ?_; try clear hm; intro oC es ep e1 e2 e3 e4
  refine wpAny_assign_Name ((So.gain L e1).st hk hy fun s'' S'' => ⟨m, ⟨oC, es, ep, S''.z.has (.head _), e2, e3, e4⟩, fun h' hs => ?_⟩)
  exact fin D ys nn G' mu' _ hD hle hinv ((S''.sub (List.sublist_cons_self ..)).same L hs)))
end
end
end -- L10
section -- H
open PySem.Calls

noncomputable def fnTab : List (Str × Nat) := ([("room", 41), ("logical", 42), ("integer", 43), ("character", 44), ("flag", 45), ("is_vector", 47), ("share", 49), ("get_attr", 51), ("label_text", 52), ("label_texts", 54),
  ("names_of", 55), ("dim_of", 56), ("class_attr", 58), ("match_names", 64), ("needed", 65), ("take", 66), ("item_key", 76), ("is_listed", 77), ("first_places", 79), ("unique_places", 80), ("with_names", 96), ("as_kind", 97),
  ("is_true", 99), ("is_frame", 103), ("new_frame", 104), ("plain_rows", 105), ("frame_rows", 106), ("column_names", 107), ("row_names", 108), ("kept_attrs", 109), ("pick_items", 111), ("recycled_columns", 113),
  ("names_as_rows", 114), ("make_frame", 115), ("check_row_labels", 116), ("picked_labels", 117), ("pick_rows", 118), ("is_lacking", 120), ("complete_rows", 122), ("grid_factor", 124), ("b_expand_grid", 125),
  ("b_complete_cases", 126), ("omitted", 127), ("b_na_omit", 128), ("_law_draws", 130), ("_law_take", 131), ("_law_item", 132), ("_law_vector", 133), ("_law_lacks", 134), ("_law_texts_of", 135), ("_law_rows", 136),
  ("_law_grid_right", 137), ("_law_columns", 138), ("_law_note_right", 139), ("_law_omit_right", 140), ("_law_vector_right", 141), ("law", 142)] : List (String × Nat)).map fun p => (Str.ofString p.1, p.2)
noncomputable def mtTab : List (Addr × Nat × Nat) := [(280, 40, 0), (421, 60, 0), (428, 60, 1), (435, 60, 2), (442, 60, 3), (449, 60, 4), (456, 60, 5), (461, 60, 6)]
noncomputable def bltTab : List Str := ["len", "range", "str", "int", "abs", "list", "max", "isinstance"]

noncomputable def mfn (name qual : Str) (st : Stmt) (dV pm : Value) (c : Addr) : Obj :=
  { cls := .type "function", data := .func { name, qualname := qual, params := prmOf st, body := .stmts (bdyOf st), scope := scpOf st, globals := mainGlobals, closure := [], defaults := dV, kwdefaults := .none, pyModule := pm, code := .ref c } }
noncomputable def ent (P : Params) (k : Str) (t : Tok) (v : Value) : DictEntry := { hash := PyData.keyHash P k, key := .str k t, val := v }
noncomputable def clsObj (name : Str) (a ns : Addr) (t u : Tok) : Obj :=
  { cls := .type "type", data := .cls { name, bases := [.type "object"], mro := [.ref a, .type "object"], ns, qualname := name }, slots := #[none, none, some (.str name t), some (.str name u), some (.builtin "object.__new__"), some (.bool true)] }
/-- the classes as the top leaves them -/
noncomputable def KC (P : Params) : Frag := [
  (289, { cls := .type "dict", data := .dict #[ent P "__module__" 558 (.str "vectorcove.values" 518), ent P "__firstlineno__" 562 (.int 243 561), ent P "__init__" 572 (.ref 280), ent P "copy" 579 (.ref 287), ent P "__static_attributes__" 585 (.ref 288), ent P "__dict__" 587 (.ref 291), ent P "__weakref__" 589 (.ref 292), ent P "__doc__" 590 .none] 4 }),
  (290, clsObj "Vector" 290 289 551 559),
  (280, mfn "__init__" "Vector.__init__" (mth 40 0) (.ref 273) (.str "vectorcove.values" 518) 279),
  (463, { cls := .type "dict", data := .dict #[ent P "__module__" 726 (.str "vectorcove.callargs" 717), ent P "__firstlineno__" 730 (.int 342 729), ent P "__init__" 739 (.ref 421), ent P "exact" 748 (.ref 428), ent P "partial" 756 (.ref 435), ent P "partial_of" 766 (.ref 442), ent P "positional" 775 (.ref 449), ent P "is_free" 783 (.ref 456), ent P "rest" 789 (.ref 461), ent P "__static_attributes__" 794 (.ref 462), ent P "__dict__" 796 (.ref 465), ent P "__weakref__" 798 (.ref 466), ent P "__doc__" 799 .none] 4 }),
  (464, clsObj "Matching" 464 463 719 727),
  (421, mfn "__init__" "Matching.__init__" (mth 60 0) .none (.str "vectorcove.callargs" 717) 420),
  (428, mfn "exact" "Matching.exact" (mth 60 1) .none (.str "vectorcove.callargs" 717) 427),
  (435, mfn "partial" "Matching.partial" (mth 60 2) .none (.str "vectorcove.callargs" 717) 434),
  (442, mfn "partial_of" "Matching.partial_of" (mth 60 3) .none (.str "vectorcove.callargs" 717) 441),
  (449, mfn "positional" "Matching.positional" (mth 60 4) .none (.str "vectorcove.callargs" 717) 448),
  (456, mfn "is_free" "Matching.is_free" (mth 60 5) .none (.str "vectorcove.callargs" 717) 455),
  (461, mfn "rest" "Matching.rest" (mth 60 6) .none (.str "vectorcove.callargs" 717) 460)]

noncomputable def codeOk (h : Heap) (cd : Value) (q : Str) : Bool := match cd with
  | .ref c => (match h.get? c with
      | some ⟨_, _, .fields vs, _⟩ => (match (vs[1]? : Option Value) with | some (Value.str n _) => n == q | _ => false)
      | _ => false)
  | _ => false
theorem codeRec_ok {h : Heap} {cd : Value} {q : Str} (e : codeOk h cd q = true) : h.CodeRec cd q := by
  unfold codeOk at e
  split at e
  · split at e
    · rename_i vs _ ho
      split at e
      · rename_i n t hv
        exact ⟨_, _, vs, t, rfl, ho, rfl, by rw [hv, beq_iff_eq.mp e]⟩
      · cases e
    · cases e
  · cases e
noncomputable def dfl1 (h : Heap) (dV : Value) : Bool := match dV with
  | .ref T => (match h.get? T with
      | some ⟨_, _, .seq xs _, _⟩ => (match xs.toList with | [.none] => true | _ => false)
      | _ => false)
  | _ => false
theorem dfl1_ok {h : Heap} {dV : Value} (e : dfl1 h dV = true) : ∃ T ot n, dV = .ref T ∧ h.get? T = some ot ∧ ot.data = .seq #[.none] n := by
  unfold dfl1 at e
  split at e
  · split at e
    · rename_i xs n sl hT
      split at e
      · rename_i hx
        exact ⟨_, _, n, rfl, hT, by rw [← Array.toArray_toList (xs := xs), hx]⟩
      · cases e
    · cases e
  · cases e
noncomputable def isN (dV : Value) : Bool := match dV with | .none => true | _ => false
theorem isN_ok {dV : Value} (e : isN dV = true) : dV = .none := by cases dV <;> first | rfl | cases e
noncomputable def dflOk (h : Heap) (n : Nat) (dV : Value) : Bool := if n = 0 then isN dV else if n = 1 then dfl1 h dV else true
/-- what the run is asked of a def -/
noncomputable def obsFn (h : Heap) (a : Addr) : Option (Arguments × FuncBody × Scope × Bool) := match h.get? a with
  | some ⟨_, _, .func fd, _⟩ => some (fd.params, fd.body, fd.scope, fd.globals == mainGlobals && fd.closure.isEmpty && fd.builtins == builtinsNs && codeOk h fd.code fd.qualname && dflOk h fd.params.defaults.length fd.defaults)
  | _ => none
noncomputable def dflP : Stmt → Bool
  | .FunctionDef .. => true
  | _ => false
theorem dflN_eq {st : Stmt} (h : dflP st = true) : dflN st = (prmOf st).defaults.length := by cases st <;> first | rfl | cases h
theorem fnAt_of {h : Heap} {a : Addr} {st : Stmt} (hd : dflP st = true) (e : obsFn h a = some (prmOf st, .stmts (bdyOf st), scpOf st, true)) : FnAt h a st := by
  unfold obsFn at e
  split at e
  · rename_i oc od fd sl ho
    simp only [Option.some.injEq, Prod.mk.injEq, Bool.and_eq_true, beq_iff_eq, List.isEmpty_iff] at e
    refine ob_ccccl e ?_; try clear e; rintro e1 e2 e3 ⟨⟨⟨e4, e5⟩, e6⟩, e7⟩ e8
    obtain ⟨nm, q, pr, bd, sc, gl, cl, dV, kV, doc, pm, an, cdv, ct, bl⟩ := fd
    dsimp only at e1 e2 e3 e4 e5 e6 e7 e8
    subst e1 e2 e3 e4 e5 e6
    refine ⟨_, nm, q, dV, kV, doc, pm, an, cdv, ct, ho, rfl, codeRec_ok e7, fun z => ?_, fun z => ?_⟩
    · rw [dflN_eq hd] at z
      rw [z] at e8
      exact isN_ok e8
    · rw [dflN_eq hd] at z
      rw [z] at e8
      exact dfl1_ok e8
  · cases e
end -- H
section -- H2
open PySem.Calls

noncomputable abbrev pw : Program := PySem.Challenge.pw_nz0538_01

noncomputable def q0 : Program := { pw with main := { pw.main with body := [stm 142] } }
noncomputable def loose0 : List Str := (pw.main.scope.names.map (·.1)).filter (· != "law")

noncomputable def obsN (h : Heap) (n : Str) : Option (Arguments × FuncBody × Scope × Bool) := match h.nsMap mainGlobals n with
  | some (.ref a) => obsFn h a
  | _ => none
noncomputable def wantN (st : Stmt) : Option (Arguments × FuncBody × Scope × Bool) := some (prmOf st, .stmts (bdyOf st), scpOf st, dflP st)
noncomputable def isRef (n : Nat) : Option Value → Bool
  | some (.ref a) => a == n
  | _ => false
noncomputable def isI (n : Int) : Option Value → Bool
  | some (.int i _) => i == n
  | _ => false
noncomputable def KCa : List Addr := [289, 290, 280, 463, 464, 421, 428, 435, 442, 449, 456, 461]
/-- what the walk asks of the top's end -/
noncomputable def Yf (s : Shared) : List (Option (Arguments × FuncBody × Scope × Bool)) × List (Option (Arguments × FuncBody × Scope × Bool)) × List (Option Obj) × Bool :=
  (fnTab.map fun p => obsN s.heap p.1, mtTab.map fun p => obsFn s.heap p.1, KCa.map s.heap.get?,
    s.heap.isNs mainGlobals && isRef 290 (s.heap.nsMap mainGlobals "Vector") && isRef 464 (s.heap.nsMap mainGlobals "Matching") && isI 1000000 (s.heap.nsMap mainGlobals "MOST_LENGTH") && bltTab.all (fun x => (s.heap.nsMap mainGlobals x).isNone) && (s.heap.get? sysModules).isSome)
noncomputable def Ya (w : World) : List (Option (Arguments × FuncBody × Scope × Bool)) × List (Option (Arguments × FuncBody × Scope × Bool)) × List (Option Obj) × Bool :=
  (fnTab.map fun p => wantN (stm p.2), mtTab.map fun p => wantN (mth p.2.1 p.2.2), (KC w.params).map fun p => some p.2, true)

noncomputable def N0 : Nat := 12000
end -- H2
section -- JS
set_option maxRecDepth 1000000
set_option maxHeartbeats 0
noncomputable abbrev rl : OpenLaw := PySem.Challenge.rw_nz0538_01
theorem zb1 : sreFenced pw.main = true := by kernel_rfl
theorem zb2 : ((moduleNames pw.main.body).isEmpty || lookedIntoSs (moduleNames pw.main.body) pw.main.body) = true := by kernel_rfl
theorem zb3 : namesResolve pw = true := by kernel_rfl
theorem zb4 : pw.boundNames.all (fun n => !worldNames.contains n) = true := by kernel_rfl
theorem zr1 : readsOut pw pw.main.body "vars" = false := by kernel_rfl
theorem zr2 : readsOut pw pw.main.body "dir" = false := by kernel_rfl
theorem zr3 : readsOut pw pw.main.body "locals" = false := by kernel_rfl
theorem zbare : (["vars", "dir", "locals"] : List Str).filter (readsOut pw pw.main.body) = [] := by
  rw [List.filter_cons_of_neg (by rw [zr1]; exact Bool.false_ne_true), List.filter_cons_of_neg (by rw [zr2]; exact Bool.false_ne_true), List.filter_cons_of_neg (by rw [zr3]; exact Bool.false_ne_true), List.filter_nil]
theorem zb5 : noRoadLSs { strict := !(importedModules pw.main.body).all cThrough.contains, foot := none, bare := (["vars", "dir", "locals"] : List Str).filter (readsOut pw pw.main.body) } pw.main.body = true := by
  rw [zbare]
  kernel_rfl
theorem zb6 : namesMeet pw pw.main.body (fun _ n => attrL n) = true := by kernel_rfl
theorem zlooks : looksOpen pw = true := look_both (look_both (look_both (look_both (look_both zb1 zb2) zb3) zb4) zb5) zb6
theorem zpart : rl.row.partSaid = true := by
  unfold OpenRow.partSaid
  rw [show looksOpen rl.row.prog = true from zlooks]
  kernel_rfl
theorem zrow : rl.row.wellSaid = true := by
  unfold OpenRow.wellSaid
  rw [zpart]
  kernel_rfl
theorem zc1 : noRoadLSs { strict := true, foot := some rl.bound', writes := rl.writes, may := rl.may } rl.footing = true := by kernel_rfl
theorem zc2 : rl.bound'.all (fun n => !builtinNamed n || rl.about == [n] || !rl.reads n) = true := by kernel_rfl
theorem zc3 : namesMeet rl.prog rl.above (fun _ n => !rl.own.contains n) = true := by kernel_rfl
theorem said_ok : rl.wellSaid = true := by
  unfold OpenLaw.wellSaid
  rw [zrow, zc1, zc2, zc3]
  kernel_rfl
end -- JS
section -- J0
open PySem.Calls
noncomputable def lawKw : List (Str × Expr) := []
noncomputable def posOf : Stmt → Pos
  | .FunctionDef _ _ _ _ _ _ _ _ _ p => p
  | _ => default
noncomputable def lawD : DefRec := ⟨"law", prmOf (stm 142), bdyOf (stm 142), scpOf (stm 142), posOf (stm 142)⟩
theorem law_def : defOf q0 "law" = some (lawD, lawKw) := by kernel_rfl
theorem law_name : lawD.name = "law" := by kernel_rfl
theorem law_the : pw.theDef "law" = some (lawD.params, lawD.body, lawD.scope) := by kernel_rfl
theorem law_kw : kwWritten? lawD.params.kwonlyargs lawD.params.kw_defaults = some lawKw := by kernel_rfl
theorem law_chains : chainsOk q0 = true := by kernel_rfl
theorem law_tame : (opening pw).tameTopW = true := by kernel_rfl
theorem law_imps : (!bearImports (behindTheImports pw)) = true := by kernel_rfl
theorem law_frees : (frees rl.row.toRowW && rl.row.within.isEmpty) = true := by kernel_rfl
theorem law_ok : (chainsOk q0 && opensWell pw && (frees rl.row.toRowW && rl.row.within.isEmpty)) = true := look_both (look_both law_chains (look_both law_tame law_imps)) law_frees
theorem wSs_app (top : Scope) (cx : TablesWhole.Ctx) (sc : Scope) (b : List Stmt) : ∀ a, TablesWhole.wSs TablesWhole.holds top cx sc (a ++ b) = (TablesWhole.wSs TablesWhole.holds top cx sc a && TablesWhole.wSs TablesWhole.holds top cx sc b)
  | [] => rfl
  | s :: r => by
    show (TablesWhole.wS TablesWhole.holds top cx sc s && TablesWhole.wSs TablesWhole.holds top cx sc (r ++ b)) = ((TablesWhole.wS TablesWhole.holds top cx sc s && TablesWhole.wSs TablesWhole.holds top cx sc r) && TablesWhole.wSs TablesWhole.holds top cx sc b)
    rw [wSs_app top cx sc b r, Bool.and_assoc]
noncomputable def ztold : List Str := TablesWhole.wSs TablesWhole.gather pw.main.scope ⟨pw.main.scope, [], [], [], none⟩ pw.main.scope pw.main.body
theorem zt0 : ztold = [] := by kernel_rfl
noncomputable def zwS (l : List Stmt) : Bool := TablesWhole.wSs TablesWhole.holds pw.main.scope ⟨pw.main.scope, [], [], [], none⟩ pw.main.scope l
theorem zt1 : TablesWhole.noTwice pw.main.scope = true := by kernel_rfl
theorem zt2 : zwS (pw.main.body.take 121) = true := by kernel_rfl
theorem zt3 : zwS (pw.main.body.drop 121) = true := by kernel_rfl
theorem tab_of {m : Module} {told : List Str} (h0 : TablesWhole.wSs TablesWhole.gather m.scope ⟨m.scope, [], [], [], none⟩ m.scope m.body = told) (h1 : TablesWhole.noTwice m.scope = true) (h2 : TablesWhole.wSs TablesWhole.holds m.scope ⟨m.scope, [], told, [], none⟩ m.scope m.body = true) : TablesWhole.wModule TablesWhole.holds m = true := by
  subst h0
  show (true && (TablesWhole.noTwice m.scope && (TablesWhole.wSs TablesWhole.holds m.scope ⟨m.scope, [], TablesWhole.wSs TablesWhole.gather m.scope ⟨m.scope, [], [], [], none⟩ m.scope m.body, [], none⟩ m.scope m.body && true))) = true
  rw [h1, h2]; rfl
theorem tab_prog {p : Program} (h : TablesWhole.wModule TablesWhole.holds p.main = true) (h1 : p.modules = []) (h2 : p.parses = []) (h3 : p.harvested = []) : p.tablesWhole = true := by
  show (TablesWhole.wModule TablesWhole.holds p.main && (TablesWhole.holds.all (p.modules.map fun (_, _, m) => TablesWhole.wModule TablesWhole.holds m) && (TablesWhole.holds.all (p.parses.map (TablesWhole.wParse TablesWhole.holds)) && (TablesWhole.holds.all (p.harvested.map (TablesWhole.wParse TablesWhole.holds)) && true)))) = true
  rw [h, h1, h2, h3]; rfl
theorem zt4 : zwS pw.main.body = true := by
  have e := wSs_app pw.main.scope ⟨pw.main.scope, [], [], [], none⟩ pw.main.scope (pw.main.body.drop 121) (pw.main.body.take 121)
  rw [List.take_append_drop] at e
  exact e.trans (look_both zt2 zt3)
theorem law_tab : pw.tablesWhole = true := tab_prog (tab_of zt0 zt1 zt4) rfl rfl rfl
theorem law_bare : pw.bare := ⟨rfl, rfl, rfl, rfl, rfl, law_tab⟩
theorem law_prom : rl.row.toRowW.promised := ⟨[.list [.int 3]], by decide +kernel, by decide +kernel⟩
theorem law_rec (s : Shared) : RecFacts ([] : WRecords) s.heap := recFacts_of (by rfl)
end -- J0
section -- H4
set_option maxRecDepth 1000000
set_option maxHeartbeats 0
open PySem.Calls

noncomputable def bltV : List (Str × Value) := [("len", .builtin "len"), ("range", .type "range"), ("str", .type "str"), ("int", .type "int"), ("abs", .builtin "abs"), ("list", .type "list"), ("max", .builtin "max"), ("isinstance", .builtin "isinstance")]

/-- the text as its top leaves it -/
structure PG (w : World) (G : Heap) : Prop where
  fn : ∀ n i, (n, i) ∈ fnTab → ∃ a, Glob G n (.ref a) ∧ FnAt G a (stm i)
  mt : ∀ a i j, (a, i, j) ∈ mtTab → FnAt G a (mth i j)
  vec : Glob G "Vector" (.ref 290)
  mat : Glob G "Matching" (.ref 464)
  most : ∃ t, Glob G "MOST_LENGTH" (.int 1000000 t)
  blt : ∀ n v, (n, v) ∈ bltV → Glob G n v
  K : (KC w.params).In G
  lim : G.NoLimit
  sys : G.get? sysModules ≠ none
theorem PG.up {w : World} {G H : Heap} (P : PG w G) (k : Le G H) : PG w H :=
  ⟨fun n i h => let ⟨a, x, y⟩ := P.fn n i h; ⟨a, x.up k, y.up k⟩, fun a i j h => (P.mt a i j h).up k, P.vec.up k, P.mat.up k, let ⟨t, x⟩ := P.most; ⟨t, x.up k⟩, fun n v h => (P.blt n v h).up k, P.K.keeps k, P.lim.keeps k,
    by (refine ob_el (Option.ne_none_iff_exists'.mp P.sys) ?_; intro o e); exact ne_none (k _ _ e)⟩

noncomputable def YP (w : World) (h : Heap) : Prop := ∃ mg, h.Ns mainGlobals mg ∧ (∀ n i, (n, i) ∈ fnTab → ∃ a, mg n = some (.ref a) ∧ FnAt h a (stm i)) ∧ (∀ a i j, (a, i, j) ∈ mtTab → FnAt h a (mth i j)) ∧
  mg "Vector" = some (.ref 290) ∧ mg "Matching" = some (.ref 464) ∧ (∃ t, mg "MOST_LENGTH" = some (.int 1000000 t)) ∧ (∀ n ∈ bltTab, mg n = none) ∧ (KC w.params).In h ∧ h.get? sysModules ≠ none
theorem YP.up {w : World} {G H : Heap} (P : YP w G) (k : Le G H) : YP w H := by
  refine ob_eccccccccl P ?_; try clear P; intro mg a b c d e f g i j
  exact ⟨mg, a.keeps k, fun n i h => let ⟨a, x, y⟩ := b n i h; ⟨a, x, y.up k⟩, fun a i j h => (c a i j h).up k, d, e, f, g, i.keeps k, by (refine ob_el (Option.ne_none_iff_exists'.mp j) ?_; intro o e); exact ne_none (k _ _ e)⟩

theorem map_eq_at {α β : Type} {f g : α → β} : ∀ {l : List α}, l.map f = l.map g → ∀ x ∈ l, f x = g x
  | [], _, _, h => by cases h
  | a :: l, e, x, h => by
    rw [List.map_cons, List.map_cons] at e
    injection e with e1 e2
    rcases List.mem_cons.mp h with rfl | h
    · exact e1
    · exact map_eq_at e2 x h
theorem mem_of_lookupA {β : Type} : ∀ {l : List (Nat × β)} {k : Nat} {v : β}, l.lookup k = some v → (k, v) ∈ l
  | [], k, v, h => by cases h
  | (a, b) :: l, k, v, h => by
    rw [List.lookup_cons] at h
    split at h
    · rename_i e
      cases h
      rw [beq_iff_eq.mp e]; exact List.mem_cons_self
    · exact List.mem_cons_of_mem _ (mem_of_lookupA h)
theorem isRef_ok {n : Nat} {x : Option Value} (h : isRef n x = true) : x = some (.ref n) := by
  unfold isRef at h
  split at h
  · rw [beq_iff_eq.mp h]
  · cases h
theorem isI_ok {n : Int} {x : Option Value} (h : isI n x = true) : ∃ t, x = some (.int n t) := by
  unfold isI at h
  split at h
  · rename_i i t; exact ⟨t, by rw [beq_iff_eq.mp h]⟩
  · cases h
theorem tabs_defs : (fnTab.all fun p => dflP (stm p.2)) = true ∧ (mtTab.all fun p => dflP (mth p.2.1 p.2.2)) = true := ⟨by kernel_rfl!, by kernel_rfl!⟩
theorem KCa_eq (P : Params) : (KC P).map (·.1) = KCa := rfl

theorem yp_of {w : World} {s : Shared} (e : Yf s = Ya w) : YP w s.heap := by
  unfold Yf Ya at e
  rw [Prod.mk.injEq, Prod.mk.injEq, Prod.mk.injEq] at e
  refine ob_cccl e ?_; try clear e; intro e1 e2 e3 e4
  simp only [Bool.and_eq_true, List.all_eq_true, Option.isNone_iff_eq_none] at e4
  refine ob_cl e4 ?_; try clear e4; rintro ⟨⟨⟨⟨b0, b1⟩, b2⟩, b3⟩, b4⟩ b5
  refine ⟨_, .of_isNs b0, fun n i h => ?_, fun a i j h => ?_, isRef_ok b1, isRef_ok b2, isI_ok b3, b4, ?_, fun q => by rw [q] at b5; cases b5⟩
  · have x := map_eq_at e1 (n, i) h
    have d := List.all_eq_true.mp tabs_defs.1 (n, i) h
    dsimp only at x d
    unfold obsN wantN at x
    rw [d] at x
    split at x
    · rename_i a ha
      exact ⟨a, ha, fnAt_of d x⟩
    · cases x
  · have x := map_eq_at e2 (a, i, j) h
    have d := List.all_eq_true.mp tabs_defs.2 (a, i, j) h
    dsimp only at x d
    unfold wantN at x
    rw [d] at x
    exact fnAt_of d x
  · rw [← KCa_eq w.params, List.map_map] at e3
    intro a o ho
    have : (a, o) ∈ KC w.params := mem_of_lookupA ho
    exact map_eq_at e3 (a, o) this
end -- H4
section -- H5
set_option maxRecDepth 1000000
set_option maxHeartbeats 0
open PySem.Calls
/-! the head: the top's run, a group of statements at a time, over a tree of objects (the texts from here on to the group's theorems are printed by gen/HG.lean) -/
noncomputable def insL : List Obj → Nat → BT → BT
  | [], _, T => T
  | o :: l, n, T => insL l (n + 1) (T.ins n o)
noncomputable abbrev zn : Value := .none
noncomputable abbrev zi (i : Int) (t : Nat) : Value := .int i t
noncomputable abbrev zs (s : String) (t : Nat) : Value := .str (Str.ofString s) t
noncomputable abbrev zr (a : Nat) : Value := .ref a
noncomputable abbrev zf0 (name qual : Str) (st : Stmt) : Data := .func { name, qualname := qual, params := prmOf st, body := .stmts (bdyOf st), scope := scpOf st, globals := 0, closure := [], defaults := .none, kwdefaults := .none }
noncomputable abbrev zf (name qual : Str) (st : Stmt) (g : Nat) (cl : List (Str × Addr)) (d k doc pm : Value) (an : Option Addr) (c ct : Value) (b : Nat) : Data :=
  .func { name, qualname := qual, params := prmOf st, body := .stmts (bdyOf st), scope := scpOf st, globals := g, closure := cl, defaults := d, kwdefaults := k, doc := doc, pyModule := pm, annotations := an, code := c, closureTuple := ct, builtins := b }
noncomputable def zd (ch : List (Nat × DictEntry)) (new : List DictEntry) (ep : Nat) : Obj → Obj
  | ⟨c, d, .dict ⟨es⟩ _, s⟩ => ⟨c, d, .dict ⟨ch.foldl (fun l p => l.set p.1 p.2) es ++ new⟩ ep, s⟩
  | o => o
noncomputable def zp (new : List Value) : Obj → Obj
  | ⟨c, d, .fields ⟨vs⟩, s⟩ => ⟨c, d, .fields ⟨vs ++ new⟩, s⟩
  | o => o
noncomputable def zlife : Life := {}
noncomputable abbrev zST (T : BT) (n tk : Nat) (os : OsState) : SharedT := ⟨T, n, zlife, #[], boot_drawn, tk, os⟩
noncomputable def zT0 (P : Params) : BT := insL [boot_o_0 P, boot_o_1 P, boot_o_2 P, boot_o_3 P, boot_o_4 P, boot_o_5 P, boot_o_6 P, boot_o_7 P, boot_o_8 P, boot_o_9 P, boot_o_10 P, ⟨(.type "tuple"), none, (.seq ⟨[]⟩ 0), ⟨[]⟩⟩, ⟨zn, none, (.fields ⟨[]⟩), ⟨[]⟩⟩, ⟨(.type "code"), none, (.fields ⟨[(zs "<module>" 182), (zs "<module>" 183), (zs "/claim/cut.py" 184), (zi (1) 0), (zi (0) 0), (zi (0) 0), (zi (0) 0), (zi (0) 0), (zr 11), (.bool false), (zi (181) 0), (zr 12), zn, zn, zn, zn, (zi (185) 0), (zi (1) 0), (zs "/claim/cut.py" 186)]⟩), ⟨[]⟩⟩, ⟨(.type "frame"), none, .plain, ⟨[(some (zr 13)), (some (zr 3)), (some (zr 3)), none, (some (zs "__main__" 164)), none, (some (zr 0))]⟩⟩] 0 .nil
noncomputable def zS0 (P : Params) (os : OsState) : SharedT := zST (zT0 P) 15 187 os
noncomputable def zq : Pos := ⟨0, 0, 0, 0⟩
noncomputable def zp0 : Pos := ⟨0, 0, 0, 0⟩
noncomputable def zpb : Pos := ⟨0, 0, 0, 0⟩
noncomputable def zann : Option Value := (some (zr 6))
noncomputable def zm0 : Nat := 11
noncomputable def zcode : Value := (zr 13)
noncomputable def zframe : Addr := 14
noncomputable def zpre : Nat := 12
noncomputable def zfin : Nat := 1
noncomputable def zT1 (P : Params) : BT := insL [⟨(.type "tuple"), none, (.seq ⟨[]⟩ 0), ⟨[]⟩⟩, ⟨zn, none, (.fields ⟨[]⟩), ⟨[]⟩⟩, ⟨(.type "tuple"), none, (.seq ⟨[(zs "k" 190)]⟩ 0), ⟨[]⟩⟩, ⟨(.type "tuple"), none, (.seq ⟨[]⟩ 0), ⟨[]⟩⟩, ⟨zn, none, (zf0 "_wall" "_wall" (stm 0)), ⟨[]⟩⟩, ⟨(.type "code"), none, (.fields ⟨[(zs "_wall" 187), (zs "_wall" 188), (zs "/claim/cut.py" 189), (zi (1) 0), (zi (1) 0), (zi (0) 0), (zi (0) 0), (zi (3) 0), (zr 15), (.bool true), (zi (181) 0), (zr 16), zn, (zr 17), (zr 18), (zr 19), (zi (191) 0), (zi (1) 0), (zs "/claim/cut.py" 192)]⟩), ⟨[]⟩⟩, ⟨(.type "function"), none, (zf "_wall" "_wall" (stm 0) 3 [] zn zn zn (zs "__main__" 164) none (zr 20) zn 0), ⟨[]⟩⟩, ⟨(.type "tuple"), none, (.seq ⟨[(zi (0) 196), (zi (0) 197)]⟩ 0), ⟨[]⟩⟩, ⟨(.type "tuple"), none, (.seq ⟨[(zi (1) 199), (zi (0) 200)]⟩ 0), ⟨[]⟩⟩, ⟨(.type "tuple"), none, (.seq ⟨[(zi (0) 202), (zi (1) 203)]⟩ 0), ⟨[]⟩⟩, ⟨(.type "tuple"), none, (.seq ⟨[]⟩ 0), ⟨[]⟩⟩, ⟨zn, none, (.fields ⟨[]⟩), ⟨[]⟩⟩, ⟨(.type "tuple"), none, (.seq ⟨[(zs "a" 208), (zs "b" 209)]⟩ 0), ⟨[]⟩⟩, ⟨(.type "tuple"), none, (.seq ⟨[]⟩ 0), ⟨[]⟩⟩, ⟨zn, none, (zf0 "gcd" "gcd" (stm 5)), ⟨[]⟩⟩, ⟨(.type "code"), none, (.fields ⟨[(zs "gcd" 205), (zs "gcd" 206), (zs "/claim/cut.py" 207), (zi (8) 0), (zi (2) 0), (zi (0) 0), (zi (0) 0), (zi (3) 0), (zr 25), (.bool true), (zi (181) 0), (zr 26), zn, (zr 27), (zr 28), (zr 29), (zi (210) 0), (zi (8) 0), (zs "/claim/cut.py" 211)]⟩), ⟨[]⟩⟩, ⟨(.type "function"), none, (zf "gcd" "gcd" (stm 5) 3 [] zn zn zn (zs "vectorcove.rational" 194) none (zr 30) zn 0), ⟨[]⟩⟩, ⟨(.type "tuple"), none, (.seq ⟨[]⟩ 0), ⟨[]⟩⟩, ⟨zn, none, (.fields ⟨[]⟩), ⟨[]⟩⟩, ⟨(.type "tuple"), none, (.seq ⟨[(zs "n" 216), (zs "d" 217), (zs "common" 218)]⟩ 0), ⟨[]⟩⟩, ⟨(.type "tuple"), none, (.seq ⟨[]⟩ 0), ⟨[]⟩⟩, ⟨zn, none, (zf0 "make" "make" (stm 6)), ⟨[]⟩⟩, ⟨(.type "code"), none, (.fields ⟨[(zs "make" 213), (zs "make" 214), (zs "/claim/cut.py" 215), (zi (12) 0), (zi (2) 0), (zi (0) 0), (zi (0) 0), (zi (3) 0), (zr 32), (.bool true), (zi (181) 0), (zr 33), zn, (zr 34), (zr 35), (zr 36), (zi (219) 0), (zi (12) 0), (zs "/claim/cut.py" 220)]⟩), ⟨[]⟩⟩, ⟨(.type "function"), none, (zf "make" "make" (stm 6) 3 [] zn zn zn (zs "vectorcove.rational" 194) none (zr 37) zn 0), ⟨[]⟩⟩, ⟨(.type "tuple"), none, (.seq ⟨[]⟩ 0), ⟨[]⟩⟩, ⟨zn, none, (.fields ⟨[]⟩), ⟨[]⟩⟩, ⟨(.type "tuple"), none, (.seq ⟨[(zs "n" 225)]⟩ 0), ⟨[]⟩⟩, ⟨(.type "tuple"), none, (.seq ⟨[]⟩ 0), ⟨[]⟩⟩, ⟨zn, none, (zf0 "from_int" "from_int" (stm 7)), ⟨[]⟩⟩, ⟨(.type "code"), none, (.fields ⟨[(zs "from_int" 222), (zs "from_int" 223), (zs "/claim/cut.py" 224), (zi (22) 0), (zi (1) 0), (zi (0) 0), (zi (0) 0), (zi (3) 0), (zr 39), (.bool true), (zi (181) 0), (zr 40), zn, (zr 41), (zr 42), (zr 43), (zi (226) 0), (zi (22) 0), (zs "/claim/cut.py" 227)]⟩), ⟨[]⟩⟩, ⟨(.type "function"), none, (zf "from_int" "from_int" (stm 7) 3 [] zn zn zn (zs "vectorcove.rational" 194) none (zr 44) zn 0), ⟨[]⟩⟩, ⟨(.type "tuple"), none, (.seq ⟨[]⟩ 0), ⟨[]⟩⟩, ⟨zn, none, (.fields ⟨[]⟩), ⟨[]⟩⟩, ⟨(.type "tuple"), none, (.seq ⟨[(zs "x" 232)]⟩ 0), ⟨[]⟩⟩, ⟨(.type "tuple"), none, (.seq ⟨[]⟩ 0), ⟨[]⟩⟩, ⟨zn, none, (zf0 "is_na" "is_na" (stm 8)), ⟨[]⟩⟩, ⟨(.type "code"), none, (.fields ⟨[(zs "is_na" 229), (zs "is_na" 230), (zs "/claim/cut.py" 231), (zi (26) 0), (zi (1) 0), (zi (0) 0), (zi (0) 0), (zi (3) 0), (zr 46), (.bool true), (zi (181) 0), (zr 47), zn, (zr 48), (zr 49), (zr 50), (zi (233) 0), (zi (26) 0), (zs "/claim/cut.py" 234)]⟩), ⟨[]⟩⟩, ⟨(.type "function"), none, (zf "is_na" "is_na" (stm 8) 3 [] zn zn zn (zs "vectorcove.rational" 194) none (zr 51) zn 0), ⟨[]⟩⟩, ⟨(.type "tuple"), none, (.seq ⟨[]⟩ 0), ⟨[]⟩⟩, ⟨zn, none, (.fields ⟨[]⟩), ⟨[]⟩⟩, ⟨(.type "tuple"), none, (.seq ⟨[(zs "x" 239)]⟩ 0), ⟨[]⟩⟩, ⟨(.type "tuple"), none, (.seq ⟨[]⟩ 0), ⟨[]⟩⟩, ⟨zn, none, (zf0 "is_finite" "is_finite" (stm 9)), ⟨[]⟩⟩, ⟨(.type "code"), none, (.fields ⟨[(zs "is_finite" 236), (zs "is_finite" 237), (zs "/claim/cut.py" 238), (zi (28) 0), (zi (1) 0), (zi (0) 0), (zi (0) 0), (zi (3) 0), (zr 53), (.bool true), (zi (181) 0), (zr 54), zn, (zr 55), (zr 56), (zr 57), (zi (240) 0), (zi (28) 0), (zs "/claim/cut.py" 241)]⟩), ⟨[]⟩⟩, ⟨(.type "function"), none, (zf "is_finite" "is_finite" (stm 9) 3 [] zn zn zn (zs "vectorcove.rational" 194) none (zr 58) zn 0), ⟨[]⟩⟩, ⟨(.type "tuple"), none, (.seq ⟨[]⟩ 0), ⟨[]⟩⟩, ⟨zn, none, (.fields ⟨[]⟩), ⟨[]⟩⟩, ⟨(.type "tuple"), none, (.seq ⟨[(zs "x" 246)]⟩ 0), ⟨[]⟩⟩, ⟨(.type "tuple"), none, (.seq ⟨[]⟩ 0), ⟨[]⟩⟩, ⟨zn, none, (zf0 "neg" "neg" (stm 10)), ⟨[]⟩⟩, ⟨(.type "code"), none, (.fields ⟨[(zs "neg" 243), (zs "neg" 244), (zs "/claim/cut.py" 245), (zi (30) 0), (zi (1) 0), (zi (0) 0), (zi (0) 0), (zi (3) 0), (zr 60), (.bool true), (zi (181) 0), (zr 61), zn, (zr 62), (zr 63), (zr 64), (zi (247) 0), (zi (30) 0), (zs "/claim/cut.py" 248)]⟩), ⟨[]⟩⟩, ⟨(.type "function"), none, (zf "neg" "neg" (stm 10) 3 [] zn zn zn (zs "vectorcove.rational" 194) none (zr 65) zn 0), ⟨[]⟩⟩, ⟨(.type "tuple"), none, (.seq ⟨[]⟩ 0), ⟨[]⟩⟩, ⟨zn, none, (.fields ⟨[]⟩), ⟨[]⟩⟩, ⟨(.type "tuple"), none, (.seq ⟨[(zs "x" 253), (zs "found" 254)]⟩ 0), ⟨[]⟩⟩, ⟨(.type "tuple"), none, (.seq ⟨[]⟩ 0), ⟨[]⟩⟩, ⟨zn, none, (zf0 "to_whole" "to_whole" (stm 11)), ⟨[]⟩⟩, ⟨(.type "code"), none, (.fields ⟨[(zs "to_whole" 250), (zs "to_whole" 251), (zs "/claim/cut.py" 252), (zi (34) 0), (zi (1) 0), (zi (0) 0), (zi (0) 0), (zi (3) 0), (zr 67), (.bool true), (zi (181) 0), (zr 68), zn, (zr 69), (zr 70), (zr 71), (zi (255) 0), (zi (34) 0), (zs "/claim/cut.py" 256)]⟩), ⟨[]⟩⟩, ⟨(.type "function"), none, (zf "to_whole" "to_whole" (stm 11) 3 [] zn zn zn (zs "vectorcove.rational" 194) none (zr 72) zn 0), ⟨[]⟩⟩, ⟨(.type "tuple"), none, (.seq ⟨[]⟩ 0), ⟨[]⟩⟩, ⟨zn, none, (.fields ⟨[]⟩), ⟨[]⟩⟩, ⟨(.type "tuple"), none, (.seq ⟨[(zs "n" 261), (zs "d" 262), (zs "low" 263), (zs "rest" 264)]⟩ 0), ⟨[]⟩⟩, ⟨(.type "tuple"), none, (.seq ⟨[]⟩ 0), ⟨[]⟩⟩, ⟨zn, none, (zf0 "nearest_whole" "nearest_whole" (stm 12)), ⟨[]⟩⟩, ⟨(.type "code"), none, (.fields ⟨[(zs "nearest_whole" 258), (zs "nearest_whole" 259), (zs "/claim/cut.py" 260), (zi (39) 0), (zi (2) 0), (zi (0) 0), (zi (0) 0), (zi (3) 0), (zr 74), (.bool true), (zi (181) 0), (zr 75), zn, (zr 76), (zr 77), (zr 78), (zi (265) 0), (zi (39) 0), (zs "/claim/cut.py" 266)]⟩), ⟨[]⟩⟩, ⟨(.type "function"), none, (zf "nearest_whole" "nearest_whole" (stm 12) 3 [] zn zn zn (zs "vectorcove.rational" 194) none (zr 79) zn 0), ⟨[]⟩⟩, ⟨(.type "tuple"), none, (.seq ⟨[]⟩ 0), ⟨[]⟩⟩, ⟨zn, none, (.fields ⟨[]⟩), ⟨[]⟩⟩, ⟨(.type "tuple"), none, (.seq ⟨[(zs "x" 271), (zs "n" 272), (zs "d" 273), (zs "e" 274)]⟩ 0), ⟨[]⟩⟩, ⟨(.type "tuple"), none, (.seq ⟨[]⟩ 0), ⟨[]⟩⟩, ⟨zn, none, (zf0 "exponent" "exponent" (stm 13)), ⟨[]⟩⟩, ⟨(.type "code"), none, (.fields ⟨[(zs "exponent" 268), (zs "exponent" 269), (zs "/claim/cut.py" 270), (zi (45) 0), (zi (1) 0), (zi (0) 0), (zi (0) 0), (zi (3) 0), (zr 81), (.bool true), (zi (181) 0), (zr 82), zn, (zr 83), (zr 84), (zr 85), (zi (275) 0), (zi (45) 0), (zs "/claim/cut.py" 276)]⟩), ⟨[]⟩⟩, ⟨(.type "function"), none, (zf "exponent" "exponent" (stm 13) 3 [] zn zn zn (zs "vectorcove.rational" 194) none (zr 86) zn 0), ⟨[]⟩⟩, ⟨(.type "tuple"), none, (.seq ⟨[]⟩ 0), ⟨[]⟩⟩, ⟨zn, none, (.fields ⟨[]⟩), ⟨[]⟩⟩, ⟨(.type "tuple"), none, (.seq ⟨[(zs "n" 285), (zs "rest" 286), (zs "row" 287), (zs "part" 288)]⟩ 0), ⟨[]⟩⟩, ⟨(.type "tuple"), none, (.seq ⟨[]⟩ 0), ⟨[]⟩⟩, ⟨zn, none, (zf0 "whole_text" "whole_text" (stm 16)), ⟨[]⟩⟩, ⟨(.type "code"), none, (.fields ⟨[(zs "whole_text" 282), (zs "whole_text" 283), (zs "/claim/cut.py" 284), (zi (58) 0), (zi (1) 0), (zi (0) 0), (zi (0) 0), (zi (3) 0), (zr 88), (.bool true), (zi (181) 0), (zr 89), zn, (zr 90), (zr 91), (zr 92), (zi (289) 0), (zi (58) 0), (zs "/claim/cut.py" 290)]⟩), ⟨[]⟩⟩, ⟨(.type "function"), none, (zf "whole_text" "whole_text" (stm 16) 3 [] zn zn zn (zs "vectorcove.numtext" 278) none (zr 93) zn 0), ⟨[]⟩⟩] 15 (((zT0 P).set 3 (zd [(0, ent P "__name__" 165 (zs "vectorcove.numtext" 278))] [ent P "_wall" 193 (zr 21), ent P "NAN" 198 (zr 22), ent P "INF" 201 (zr 23), ent P "ZERO" 204 (zr 24), ent P "gcd" 212 (zr 31), ent P "make" 221 (zr 38), ent P "from_int" 228 (zr 45), ent P "is_na" 235 (zr 52), ent P "is_finite" 242 (zr 59), ent P "neg" 249 (zr 66), ent P "to_whole" 257 (zr 73), ent P "nearest_whole" 267 (zr 80), ent P "exponent" 277 (zr 87), ent P "MOST_EXPONENT" 281 (zi (4096) 280), ent P "whole_text" 291 (zr 94)] 24)).set 12 (zp [(zi (1) 0), (zi (0) 0), (zr 20), (zi (8) 0), (zi (0) 0), (zr 30), (zi (12) 0), (zi (0) 0), (zr 37), (zi (22) 0), (zi (0) 0), (zr 44), (zi (26) 0), (zi (0) 0), (zr 51), (zi (28) 0), (zi (0) 0), (zr 58), (zi (30) 0), (zi (0) 0), (zr 65), (zi (34) 0), (zi (0) 0), (zr 72), (zi (39) 0), (zi (0) 0), (zr 79), (zi (45) 0), (zi (0) 0), (zr 86), (zi (58) 0), (zi (0) 0), (zr 93)]))
noncomputable def zS1 (P : Params) (os : OsState) : SharedT := zST (zT1 P) 95 292 os
noncomputable def zl1 : List Stmt := [stm 0, stm 1, stm 2, stm 3, stm 4, stm 5, stm 6, stm 7, stm 8, stm 9, stm 10, stm 11, stm 12, stm 13, stm 14, stm 15, stm 16]
noncomputable def zT2 (P : Params) : BT := insL [⟨(.type "tuple"), none, (.seq ⟨[]⟩ 0), ⟨[]⟩⟩, ⟨zn, none, (.fields ⟨[]⟩), ⟨[]⟩⟩, ⟨(.type "tuple"), none, (.seq ⟨[(zs "x" 295)]⟩ 0), ⟨[]⟩⟩, ⟨(.type "tuple"), none, (.seq ⟨[]⟩ 0), ⟨[]⟩⟩, ⟨zn, none, (zf0 "special_text" "special_text" (stm 17)), ⟨[]⟩⟩, ⟨(.type "code"), none, (.fields ⟨[(zs "special_text" 292), (zs "special_text" 293), (zs "/claim/cut.py" 294), (zi (69) 0), (zi (1) 0), (zi (0) 0), (zi (0) 0), (zi (3) 0), (zr 95), (.bool true), (zi (181) 0), (zr 96), zn, (zr 97), (zr 98), (zr 99), (zi (296) 0), (zi (69) 0), (zs "/claim/cut.py" 297)]⟩), ⟨[]⟩⟩, ⟨(.type "function"), none, (zf "special_text" "special_text" (stm 17) 3 [] zn zn zn (zs "vectorcove.numtext" 278) none (zr 100) zn 0), ⟨[]⟩⟩, ⟨(.type "tuple"), none, (.seq ⟨[]⟩ 0), ⟨[]⟩⟩, ⟨zn, none, (.fields ⟨[]⟩), ⟨[]⟩⟩, ⟨(.type "tuple"), none, (.seq ⟨[(zs "x" 302), (zs "e" 303), (zs "digits" 304), (zs "shift" 305)]⟩ 0), ⟨[]⟩⟩, ⟨(.type "tuple"), none, (.seq ⟨[]⟩ 0), ⟨[]⟩⟩, ⟨zn, none, (zf0 "scaled" "scaled" (stm 18)), ⟨[]⟩⟩, ⟨(.type "code"), none, (.fields ⟨[(zs "scaled" 299), (zs "scaled" 300), (zs "/claim/cut.py" 301), (zi (77) 0), (zi (3) 0), (zi (0) 0), (zi (0) 0), (zi (3) 0), (zr 102), (.bool true), (zi (181) 0), (zr 103), zn, (zr 104), (zr 105), (zr 106), (zi (306) 0), (zi (77) 0), (zs "/claim/cut.py" 307)]⟩), ⟨[]⟩⟩, ⟨(.type "function"), none, (zf "scaled" "scaled" (stm 18) 3 [] zn zn zn (zs "vectorcove.numtext" 278) none (zr 107) zn 0), ⟨[]⟩⟩, ⟨(.type "tuple"), none, (.seq ⟨[]⟩ 0), ⟨[]⟩⟩, ⟨zn, none, (.fields ⟨[]⟩), ⟨[]⟩⟩, ⟨(.type "tuple"), none, (.seq ⟨[(zs "x" 312), (zs "digits" 313), (zs "e" 314), (zs "n" 315)]⟩ 0), ⟨[]⟩⟩, ⟨(.type "tuple"), none, (.seq ⟨[]⟩ 0), ⟨[]⟩⟩, ⟨zn, none, (zf0 "significant" "significant" (stm 19)), ⟨[]⟩⟩, ⟨(.type "code"), none, (.fields ⟨[(zs "significant" 309), (zs "significant" 310), (zs "/claim/cut.py" 311), (zi (82) 0), (zi (2) 0), (zi (0) 0), (zi (0) 0), (zi (3) 0), (zr 109), (.bool true), (zi (181) 0), (zr 110), zn, (zr 111), (zr 112), (zr 113), (zi (316) 0), (zi (82) 0), (zs "/claim/cut.py" 317)]⟩), ⟨[]⟩⟩, ⟨(.type "function"), none, (zf "significant" "significant" (stm 19) 3 [] zn zn zn (zs "vectorcove.numtext" 278) none (zr 114) zn 0), ⟨[]⟩⟩, ⟨(.type "tuple"), none, (.seq ⟨[]⟩ 0), ⟨[]⟩⟩, ⟨zn, none, (.fields ⟨[]⟩), ⟨[]⟩⟩, ⟨(.type "tuple"), none, (.seq ⟨[(zs "text" 322), (zs "end" 323)]⟩ 0), ⟨[]⟩⟩, ⟨(.type "tuple"), none, (.seq ⟨[]⟩ 0), ⟨[]⟩⟩, ⟨zn, none, (zf0 "without_tail" "without_tail" (stm 20)), ⟨[]⟩⟩, ⟨(.type "code"), none, (.fields ⟨[(zs "without_tail" 319), (zs "without_tail" 320), (zs "/claim/cut.py" 321), (zi (91) 0), (zi (1) 0), (zi (0) 0), (zi (0) 0), (zi (3) 0), (zr 116), (.bool true), (zi (181) 0), (zr 117), zn, (zr 118), (zr 119), (zr 120), (zi (324) 0), (zi (91) 0), (zs "/claim/cut.py" 325)]⟩), ⟨[]⟩⟩, ⟨(.type "function"), none, (zf "without_tail" "without_tail" (stm 20) 3 [] zn zn zn (zs "vectorcove.numtext" 278) none (zr 121) zn 0), ⟨[]⟩⟩, ⟨(.type "tuple"), none, (.seq ⟨[]⟩ 0), ⟨[]⟩⟩, ⟨zn, none, (.fields ⟨[]⟩), ⟨[]⟩⟩, ⟨(.type "tuple"), none, (.seq ⟨[(zs "x" 330), (zs "digits" 331), (zs "side" 332), (zs "text" 333), (zs "e" 334), (zs "row" 335)]⟩ 0), ⟨[]⟩⟩, ⟨(.type "tuple"), none, (.seq ⟨[]⟩ 0), ⟨[]⟩⟩, ⟨zn, none, (zf0 "scientific_text" "scientific_text" (stm 21)), ⟨[]⟩⟩, ⟨(.type "code"), none, (.fields ⟨[(zs "scientific_text" 327), (zs "scientific_text" 328), (zs "/claim/cut.py" 329), (zi (96) 0), (zi (2) 0), (zi (0) 0), (zi (0) 0), (zi (3) 0), (zr 123), (.bool true), (zi (181) 0), (zr 124), zn, (zr 125), (zr 126), (zr 127), (zi (336) 0), (zi (96) 0), (zs "/claim/cut.py" 337)]⟩), ⟨[]⟩⟩, ⟨(.type "function"), none, (zf "scientific_text" "scientific_text" (stm 21) 3 [] zn zn zn (zs "vectorcove.numtext" 278) none (zr 128) zn 0), ⟨[]⟩⟩, ⟨(.type "tuple"), none, (.seq ⟨[]⟩ 0), ⟨[]⟩⟩, ⟨zn, none, (.fields ⟨[]⟩), ⟨[]⟩⟩, ⟨(.type "tuple"), none, (.seq ⟨[(zs "x" 342), (zs "places" 343), (zs "n" 344), (zs "text" 345)]⟩ 0), ⟨[]⟩⟩, ⟨(.type "tuple"), none, (.seq ⟨[]⟩ 0), ⟨[]⟩⟩, ⟨zn, none, (zf0 "fixed_text" "fixed_text" (stm 22)), ⟨[]⟩⟩, ⟨(.type "code"), none, (.fields ⟨[(zs "fixed_text" 339), (zs "fixed_text" 340), (zs "/claim/cut.py" 341), (zi (103) 0), (zi (2) 0), (zi (0) 0), (zi (0) 0), (zi (3) 0), (zr 130), (.bool true), (zi (181) 0), (zr 131), zn, (zr 132), (zr 133), (zr 134), (zi (346) 0), (zi (103) 0), (zs "/claim/cut.py" 347)]⟩), ⟨[]⟩⟩, ⟨(.type "function"), none, (zf "fixed_text" "fixed_text" (stm 22) 3 [] zn zn zn (zs "vectorcove.numtext" 278) none (zr 135) zn 0), ⟨[]⟩⟩, ⟨(.type "tuple"), none, (.seq ⟨[]⟩ 0), ⟨[]⟩⟩, ⟨zn, none, (.fields ⟨[]⟩), ⟨[]⟩⟩, ⟨(.type "tuple"), none, (.seq ⟨[(zs "x" 352), (zs "digits" 353), (zs "side" 354), (zs "text" 355), (zs "e" 356), (zs "count" 357), (zs "left" 358)]⟩ 0), ⟨[]⟩⟩, ⟨(.type "tuple"), none, (.seq ⟨[]⟩ 0), ⟨[]⟩⟩, ⟨zn, none, (zf0 "measures" "measures" (stm 23)), ⟨[]⟩⟩, ⟨(.type "code"), none, (.fields ⟨[(zs "measures" 349), (zs "measures" 350), (zs "/claim/cut.py" 351), (zi (111) 0), (zi (2) 0), (zi (0) 0), (zi (0) 0), (zi (3) 0), (zr 137), (.bool true), (zi (181) 0), (zr 138), zn, (zr 139), (zr 140), (zr 141), (zi (359) 0), (zi (111) 0), (zs "/claim/cut.py" 360)]⟩), ⟨[]⟩⟩, ⟨(.type "function"), none, (zf "measures" "measures" (stm 23) 3 [] zn zn zn (zs "vectorcove.numtext" 278) none (zr 142) zn 0), ⟨[]⟩⟩, ⟨(.type "tuple"), none, (.seq ⟨[]⟩ 0), ⟨[]⟩⟩, ⟨zn, none, (.fields ⟨[]⟩), ⟨[]⟩⟩, ⟨(.type "tuple"), none, (.seq ⟨[(zs "xs" 365), (zs "digits" 366), (zs "count" 367), (zs "left" 368), (zs "places" 369), (zs "wide" 370), (zs "minus" 371), (zs "x" 372), (zs "row" 373), (zs "fixed_width" 374), (zs "scientific_width" 375)]⟩ 0), ⟨[]⟩⟩, ⟨(.type "tuple"), none, (.seq ⟨[]⟩ 0), ⟨[]⟩⟩, ⟨zn, none, (zf0 "chosen_form" "chosen_form" (stm 24)), ⟨[]⟩⟩, ⟨(.type "code"), none, (.fields ⟨[(zs "chosen_form" 362), (zs "chosen_form" 363), (zs "/claim/cut.py" 364), (zi (118) 0), (zi (2) 0), (zi (0) 0), (zi (0) 0), (zi (3) 0), (zr 144), (.bool true), (zi (181) 0), (zr 145), zn, (zr 146), (zr 147), (zr 148), (zi (376) 0), (zi (118) 0), (zs "/claim/cut.py" 377)]⟩), ⟨[]⟩⟩, ⟨(.type "function"), none, (zf "chosen_form" "chosen_form" (stm 24) 3 [] zn zn zn (zs "vectorcove.numtext" 278) none (zr 149) zn 0), ⟨[]⟩⟩, ⟨(.type "tuple"), none, (.seq ⟨[]⟩ 0), ⟨[]⟩⟩, ⟨zn, none, (.fields ⟨[]⟩), ⟨[]⟩⟩, ⟨(.type "tuple"), none, (.seq ⟨[(zs "x" 382), (zs "form" 383), (zs "text" 384)]⟩ 0), ⟨[]⟩⟩, ⟨(.type "tuple"), none, (.seq ⟨[]⟩ 0), ⟨[]⟩⟩, ⟨zn, none, (zf0 "formed" "formed" (stm 25)), ⟨[]⟩⟩, ⟨(.type "code"), none, (.fields ⟨[(zs "formed" 379), (zs "formed" 380), (zs "/claim/cut.py" 381), (zi (138) 0), (zi (2) 0), (zi (0) 0), (zi (0) 0), (zi (3) 0), (zr 151), (.bool true), (zi (181) 0), (zr 152), zn, (zr 153), (zr 154), (zr 155), (zi (385) 0), (zi (138) 0), (zs "/claim/cut.py" 386)]⟩), ⟨[]⟩⟩, ⟨(.type "function"), none, (zf "formed" "formed" (stm 25) 3 [] zn zn zn (zs "vectorcove.numtext" 278) none (zr 156) zn 0), ⟨[]⟩⟩, ⟨(.type "tuple"), none, (.seq ⟨[]⟩ 0), ⟨[]⟩⟩, ⟨zn, none, (.fields ⟨[]⟩), ⟨[]⟩⟩, ⟨zn, none, (zf0 "common_texts" "common_texts" (stm 26)), ⟨[]⟩⟩, ⟨(.type "code"), none, (.fields ⟨[(zs "common_texts" 388), (zs "common_texts" 389), (zs "/claim/cut.py" 390), (zi (145) 0), (zi (2) 0), (zi (0) 0), (zi (0) 0), (zi (3) 0), (zr 158), (.bool true), (zi (181) 0), (zr 159), zn, zn, zn, (zr 160), (zi (391) 0), (zi (145) 0), (zs "/claim/cut.py" 392)]⟩), ⟨[]⟩⟩, ⟨(.type "function"), none, (zf "common_texts" "common_texts" (stm 26) 3 [] zn zn zn (zs "vectorcove.numtext" 278) none (zr 161) zn 0), ⟨[]⟩⟩, ⟨(.type "tuple"), none, (.seq ⟨[(zi (7) 394)]⟩ 0), ⟨[]⟩⟩, ⟨(.type "tuple"), none, (.seq ⟨[]⟩ 0), ⟨[]⟩⟩, ⟨zn, none, (.fields ⟨[]⟩), ⟨[]⟩⟩, ⟨(.type "tuple"), none, (.seq ⟨[(zs "x" 398), (zs "digits" 399)]⟩ 0), ⟨[]⟩⟩, ⟨(.type "tuple"), none, (.seq ⟨[]⟩ 0), ⟨[]⟩⟩, ⟨zn, none, (zf0 "number_text" "number_text" (stm 27)), ⟨[]⟩⟩, ⟨(.type "code"), none, (.fields ⟨[(zs "number_text" 395), (zs "number_text" 396), (zs "/claim/cut.py" 397), (zi (149) 0), (zi (2) 0), (zi (0) 0), (zi (0) 0), (zi (3) 0), (zr 164), (.bool true), (zi (181) 0), (zr 165), zn, (zr 166), (zr 167), (zr 168), (zi (400) 0), (zi (149) 0), (zs "/claim/cut.py" 401)]⟩), ⟨[]⟩⟩, ⟨(.type "function"), none, (zf "number_text" "number_text" (stm 27) 3 [] (zr 163) zn zn (zs "vectorcove.numtext" 278) none (zr 169) zn 0), ⟨[]⟩⟩, ⟨(.type "tuple"), none, (.seq ⟨[]⟩ 0), ⟨[]⟩⟩, ⟨zn, none, (.fields ⟨[]⟩), ⟨[]⟩⟩, ⟨(.type "tuple"), none, (.seq ⟨[(zs "text" 406), (zs "base" 407), (zs "value" 408), (zs "char" 409)]⟩ 0), ⟨[]⟩⟩, ⟨(.type "tuple"), none, (.seq ⟨[]⟩ 0), ⟨[]⟩⟩, ⟨zn, none, (zf0 "digits_value" "digits_value" (stm 28)), ⟨[]⟩⟩, ⟨(.type "code"), none, (.fields ⟨[(zs "digits_value" 403), (zs "digits_value" 404), (zs "/claim/cut.py" 405), (zi (151) 0), (zi (2) 0), (zi (0) 0), (zi (0) 0), (zi (3) 0), (zr 171), (.bool true), (zi (181) 0), (zr 172), zn, (zr 173), (zr 174), (zr 175), (zi (410) 0), (zi (151) 0), (zs "/claim/cut.py" 411)]⟩), ⟨[]⟩⟩, ⟨(.type "function"), none, (zf "digits_value" "digits_value" (stm 28) 3 [] zn zn zn (zs "vectorcove.numtext" 278) none (zr 176) zn 0), ⟨[]⟩⟩, ⟨(.type "tuple"), none, (.seq ⟨[]⟩ 0), ⟨[]⟩⟩, ⟨zn, none, (.fields ⟨[]⟩), ⟨[]⟩⟩, ⟨(.type "tuple"), none, (.seq ⟨[(zs "text" 416), (zs "at" 417), (zs "digits" 418)]⟩ 0), ⟨[]⟩⟩, ⟨(.type "tuple"), none, (.seq ⟨[]⟩ 0), ⟨[]⟩⟩, ⟨zn, none, (zf0 "digit_run" "digit_run" (stm 29)), ⟨[]⟩⟩, ⟨(.type "code"), none, (.fields ⟨[(zs "digit_run" 413), (zs "digit_run" 414), (zs "/claim/cut.py" 415), (zi (156) 0), (zi (3) 0), (zi (0) 0), (zi (0) 0), (zi (3) 0), (zr 178), (.bool true), (zi (181) 0), (zr 179), zn, (zr 180), (zr 181), (zr 182), (zi (419) 0), (zi (156) 0), (zs "/claim/cut.py" 420)]⟩), ⟨[]⟩⟩, ⟨(.type "function"), none, (zf "digit_run" "digit_run" (stm 29) 3 [] zn zn zn (zs "vectorcove.numtext" 278) none (zr 183) zn 0), ⟨[]⟩⟩] 95 (((zT1 P).set 3 (zd [] [ent P "special_text" 298 (zr 101), ent P "scaled" 308 (zr 108), ent P "significant" 318 (zr 115), ent P "without_tail" 326 (zr 122), ent P "scientific_text" 338 (zr 129), ent P "fixed_text" 348 (zr 136), ent P "measures" 361 (zr 143), ent P "chosen_form" 378 (zr 150), ent P "formed" 387 (zr 157), ent P "common_texts" 393 (zr 162), ent P "number_text" 402 (zr 170), ent P "digits_value" 412 (zr 177), ent P "digit_run" 421 (zr 184)] 37)).set 12 (zp [(zi (69) 0), (zi (0) 0), (zr 100), (zi (77) 0), (zi (0) 0), (zr 107), (zi (82) 0), (zi (0) 0), (zr 114), (zi (91) 0), (zi (0) 0), (zr 121), (zi (96) 0), (zi (0) 0), (zr 128), (zi (103) 0), (zi (0) 0), (zr 135), (zi (111) 0), (zi (0) 0), (zr 142), (zi (118) 0), (zi (0) 0), (zr 149), (zi (138) 0), (zi (0) 0), (zr 156), (zi (145) 0), (zi (0) 0), (zr 161), (zi (149) 0), (zi (0) 0), (zr 169), (zi (151) 0), (zi (0) 0), (zr 176), (zi (156) 0), (zi (0) 0), (zr 183)]))
noncomputable def zS2 (P : Params) (os : OsState) : SharedT := zST (zT2 P) 185 422 os
noncomputable def zl2 : List Stmt := [stm 17, stm 18, stm 19, stm 20, stm 21, stm 22, stm 23, stm 24, stm 25, stm 26, stm 27, stm 28, stm 29]
noncomputable def zT3 (P : Params) : BT := insL [⟨(.type "tuple"), none, (.seq ⟨[]⟩ 0), ⟨[]⟩⟩, ⟨zn, none, (.fields ⟨[]⟩), ⟨[]⟩⟩, ⟨(.type "tuple"), none, (.seq ⟨[(zs "text" 425), (zs "start" 426), (zs "value" 427)]⟩ 0), ⟨[]⟩⟩, ⟨(.type "tuple"), none, (.seq ⟨[]⟩ 0), ⟨[]⟩⟩, ⟨zn, none, (zf0 "exponent_value" "exponent_value" (stm 30)), ⟨[]⟩⟩, ⟨(.type "code"), none, (.fields ⟨[(zs "exponent_value" 422), (zs "exponent_value" 423), (zs "/claim/cut.py" 424), (zi (160) 0), (zi (1) 0), (zi (0) 0), (zi (0) 0), (zi (3) 0), (zr 185), (.bool true), (zi (181) 0), (zr 186), zn, (zr 187), (zr 188), (zr 189), (zi (428) 0), (zi (160) 0), (zs "/claim/cut.py" 429)]⟩), ⟨[]⟩⟩, ⟨(.type "function"), none, (zf "exponent_value" "exponent_value" (stm 30) 3 [] zn zn zn (zs "vectorcove.numtext" 278) none (zr 190) zn 0), ⟨[]⟩⟩, ⟨(.type "tuple"), none, (.seq ⟨[]⟩ 0), ⟨[]⟩⟩, ⟨zn, none, (.fields ⟨[]⟩), ⟨[]⟩⟩, ⟨(.type "tuple"), none, (.seq ⟨[(zs "n" 434), (zs "base" 435), (zs "e" 436)]⟩ 0), ⟨[]⟩⟩, ⟨(.type "tuple"), none, (.seq ⟨[]⟩ 0), ⟨[]⟩⟩, ⟨zn, none, (zf0 "powered" "powered" (stm 31)), ⟨[]⟩⟩, ⟨(.type "code"), none, (.fields ⟨[(zs "powered" 431), (zs "powered" 432), (zs "/claim/cut.py" 433), (zi (170) 0), (zi (3) 0), (zi (0) 0), (zi (0) 0), (zi (3) 0), (zr 192), (.bool true), (zi (181) 0), (zr 193), zn, (zr 194), (zr 195), (zr 196), (zi (437) 0), (zi (170) 0), (zs "/claim/cut.py" 438)]⟩), ⟨[]⟩⟩, ⟨(.type "function"), none, (zf "powered" "powered" (stm 31) 3 [] zn zn zn (zs "vectorcove.numtext" 278) none (zr 197) zn 0), ⟨[]⟩⟩, ⟨(.type "tuple"), none, (.seq ⟨[]⟩ 0), ⟨[]⟩⟩, ⟨zn, none, (.fields ⟨[]⟩), ⟨[]⟩⟩, ⟨(.type "tuple"), none, (.seq ⟨[(zs "text" 443), (zs "base" 444), (zs "digits" 445), (zs "mark" 446), (zs "scale" 447), (zs "end" 448), (zs "before" 449), (zs "behind" 450), (zs "start" 451), (zs "e" 452), (zs "ok" 453), (zs "n" 454), (zs "found" 455)]⟩ 0), ⟨[]⟩⟩, ⟨(.type "tuple"), none, (.seq ⟨[]⟩ 0), ⟨[]⟩⟩, ⟨zn, none, (zf0 "unsigned_number" "unsigned_number" (stm 32)), ⟨[]⟩⟩, ⟨(.type "code"), none, (.fields ⟨[(zs "unsigned_number" 440), (zs "unsigned_number" 441), (zs "/claim/cut.py" 442), (zi (180) 0), (zi (1) 0), (zi (0) 0), (zi (0) 0), (zi (3) 0), (zr 199), (.bool true), (zi (181) 0), (zr 200), zn, (zr 201), (zr 202), (zr 203), (zi (456) 0), (zi (180) 0), (zs "/claim/cut.py" 457)]⟩), ⟨[]⟩⟩, ⟨(.type "function"), none, (zf "unsigned_number" "unsigned_number" (stm 32) 3 [] zn zn zn (zs "vectorcove.numtext" 278) none (zr 204) zn 0), ⟨[]⟩⟩, ⟨(.type "tuple"), none, (.seq ⟨[]⟩ 0), ⟨[]⟩⟩, ⟨zn, none, (.fields ⟨[]⟩), ⟨[]⟩⟩, ⟨(.type "tuple"), none, (.seq ⟨[(zs "text" 462), (zs "body" 463), (zs "negative" 464), (zs "small" 465), (zs "found" 466), (zs "ok" 467)]⟩ 0), ⟨[]⟩⟩, ⟨(.type "tuple"), none, (.seq ⟨[]⟩ 0), ⟨[]⟩⟩, ⟨zn, none, (zf0 "parse_number" "parse_number" (stm 33)), ⟨[]⟩⟩, ⟨(.type "code"), none, (.fields ⟨[(zs "parse_number" 459), (zs "parse_number" 460), (zs "/claim/cut.py" 461), (zi (212) 0), (zi (1) 0), (zi (0) 0), (zi (0) 0), (zi (3) 0), (zr 206), (.bool true), (zi (181) 0), (zr 207), zn, (zr 208), (zr 209), (zr 210), (zi (468) 0), (zi (212) 0), (zs "/claim/cut.py" 469)]⟩), ⟨[]⟩⟩, ⟨(.type "function"), none, (zf "parse_number" "parse_number" (stm 33) 3 [] zn zn zn (zs "vectorcove.numtext" 278) none (zr 211) zn 0), ⟨[]⟩⟩, ⟨(.type "tuple"), none, (.seq ⟨[(.type "Exception")]⟩ 0), ⟨[]⟩⟩, ⟨(.type "builtin_function_or_method"), none, (.fields ⟨[(.builtin "type.__prepare__"), (.type "type")]⟩), ⟨[]⟩⟩, ⟨(.type "dict"), none, (.dict ⟨[ent P "__module__" 480 (zs "vectorcove.errors" 471), ent P "__qualname__" 482 (zs "CoveError" 481), ent P "__firstlineno__" 484 (zi (230) 483), ent P "__static_attributes__" 485 (zr 220)]⟩ 4), ⟨[]⟩⟩, ⟨(.type "tuple"), none, (.seq ⟨[]⟩ 0), ⟨[]⟩⟩, ⟨zn, none, (.fields ⟨[]⟩), ⟨[]⟩⟩, ⟨(.type "code"), none, (.fields ⟨[(zs "CoveError" 475), (zs "CoveError" 476), (zs "/claim/cut.py" 477), (zi (230) 0), (zi (0) 0), (zi (0) 0), (zi (0) 0), (zi (0) 0), (zr 216), (.bool false), (zi (181) 0), (zr 217), zn, zn, zn, zn, (zi (478) 0), (zi (230) 0), (zs "/claim/cut.py" 479)]⟩), ⟨[]⟩⟩, ⟨(.type "frame"), none, .plain, ⟨[(some (zr 218)), (some (zr 3)), (some (zr 215)), none, (some (zs "vectorcove.errors" 471)), none, (some (zr 0))]⟩⟩, ⟨(.type "tuple"), none, (.seq ⟨[]⟩ 0), ⟨[]⟩⟩, ⟨(.type "dict"), none, (.dict ⟨[ent P "__module__" 480 (zs "vectorcove.errors" 471), ent P "__firstlineno__" 484 (zi (230) 483), ent P "__static_attributes__" 485 (zr 220), ent P "__weakref__" 487 (zr 223), ent P "__doc__" 488 zn]⟩ 3), ⟨[]⟩⟩, ⟨(.type "type"), none, (.cls ⟨"CoveError", [(.type "Exception")], [(zr 222), (.type "Exception"), (.type "BaseException"), (.type "object")], 221, "CoveError", true, [], [], false, none, false⟩), ⟨[(some (zr 213)), none, (some (zs "CoveError" 473)), (some (zs "CoveError" 481)), (some (.builtin "Exception.__new__")), (some (.bool true))]⟩⟩, ⟨(.type "getset_descriptor"), none, (.fields ⟨[(zs "__weakref__" 486), (zr 222), (.builtin "ExceptionGroup.__weakref__"), zn]⟩), ⟨[]⟩⟩, ⟨(.type "super"), none, (.fields ⟨[(zr 222), (zr 222), (zr 222)]⟩), ⟨[]⟩⟩, ⟨(.type "builtin_function_or_method"), none, (.fields ⟨[(.builtin "object.__init_subclass__"), (zr 222)]⟩), ⟨[]⟩⟩] 185 ((((zT2 P).set 2 (zd [] [ent P "type.__subclasses__.Exception.0" 489 (zi (222) 0), ent P "type.__subclasses__.Exception.n" 490 (zi (1) 0)] 2)).set 3 (zd [(0, ent P "__name__" 165 (zs "vectorcove.errors" 471))] [ent P "exponent_value" 430 (zr 191), ent P "powered" 439 (zr 198), ent P "unsigned_number" 458 (zr 205), ent P "parse_number" 470 (zr 212), ent P "CoveError" 492 (zr 222)] 42)).set 12 (zp [(zi (160) 0), (zi (0) 0), (zr 190), (zi (170) 0), (zi (0) 0), (zr 197), (zi (180) 0), (zi (0) 0), (zr 204), (zi (212) 0), (zi (0) 0), (zr 211), (zi (230) 0), (zi (0) 0), (zr 218)]))
noncomputable def zS3 (P : Params) (os : OsState) : SharedT := zST (zT3 P) 226 493 os
noncomputable def zl3 : List Stmt := [stm 30, stm 31, stm 32, stm 33, stm 34, stm 35]
noncomputable def zT4 (P : Params) : BT := insL [⟨(.type "tuple"), none, (.seq ⟨[(zr 222)]⟩ 0), ⟨[]⟩⟩, ⟨(.type "builtin_function_or_method"), none, (.fields ⟨[(.builtin "type.__prepare__"), (.type "type")]⟩), ⟨[]⟩⟩, ⟨(.type "dict"), none, (.dict ⟨[ent P "__module__" 500 (zs "vectorcove.errors" 471), ent P "__qualname__" 502 (zs "Refusal" 501), ent P "__firstlineno__" 504 (zi (232) 503), ent P "__init__" 512 (zr 239), ent P "__static_attributes__" 514 (zr 240)]⟩ 5), ⟨[]⟩⟩, ⟨(.type "tuple"), none, (.seq ⟨[]⟩ 0), ⟨[]⟩⟩, ⟨zn, none, (.fields ⟨[(zi (234) 0), (zi (4) 0), (zr 238)]⟩), ⟨[]⟩⟩, ⟨(.type "code"), none, (.fields ⟨[(zs "Refusal" 495), (zs "Refusal" 496), (zs "/claim/cut.py" 497), (zi (232) 0), (zi (0) 0), (zi (0) 0), (zi (0) 0), (zi (0) 0), (zr 229), (.bool false), (zi (181) 0), (zr 230), zn, zn, zn, zn, (zi (498) 0), (zi (232) 0), (zs "/claim/cut.py" 499)]⟩), ⟨[]⟩⟩, ⟨(.type "frame"), none, .plain, ⟨[(some (zr 231)), (some (zr 3)), (some (zr 228)), none, (some (zs "vectorcove.errors" 471)), none, (some (zr 0))]⟩⟩, ⟨(.type "tuple"), none, (.seq ⟨[]⟩ 0), ⟨[]⟩⟩, ⟨zn, none, (.fields ⟨[]⟩), ⟨[]⟩⟩, ⟨(.type "tuple"), none, (.seq ⟨[(zs "self" 508), (zs "message" 509)]⟩ 0), ⟨[]⟩⟩, ⟨(.type "tuple"), none, (.seq ⟨[]⟩ 0), ⟨[]⟩⟩, ⟨zn, none, (zf0 "__init__" "Refusal.__init__" (mth 36 0)), ⟨[]⟩⟩, ⟨(.type "code"), none, (.fields ⟨[(zs "__init__" 505), (zs "Refusal.__init__" 506), (zs "/claim/cut.py" 507), (zi (234) 0), (zi (2) 0), (zi (0) 0), (zi (0) 0), (zi (3) 0), (zr 233), (.bool true), (zi (181) 0), (zr 234), zn, (zr 235), (zr 236), (zr 237), (zi (510) 0), (zi (234) 0), (zs "/claim/cut.py" 511)]⟩), ⟨[]⟩⟩, ⟨(.type "function"), none, (zf "__init__" "Refusal.__init__" (mth 36 0) 3 [] zn zn zn (zs "vectorcove.errors" 471) none (zr 238) zn 0), ⟨[]⟩⟩, ⟨(.type "tuple"), none, (.seq ⟨[(zs "message" 513)]⟩ 0), ⟨[]⟩⟩, ⟨(.type "dict"), none, (.dict ⟨[ent P "__module__" 500 (zs "vectorcove.errors" 471), ent P "__firstlineno__" 504 (zi (232) 503), ent P "__init__" 512 (zr 239), ent P "__static_attributes__" 514 (zr 240), ent P "__doc__" 515 zn]⟩ 2), ⟨[]⟩⟩, ⟨(.type "type"), none, (.cls ⟨"Refusal", [(zr 222)], [(zr 242), (zr 222), (.type "Exception"), (.type "BaseException"), (.type "object")], 241, "Refusal", true, [], [], false, none, false⟩), ⟨[(some (zr 226)), none, (some (zs "Refusal" 493)), (some (zs "Refusal" 501)), (some (.builtin "Exception.__new__")), (some (.bool true))]⟩⟩, ⟨(.type "super"), none, (.fields ⟨[(zr 242), (zr 242), (zr 242)]⟩), ⟨[]⟩⟩, ⟨(.type "builtin_function_or_method"), none, (.fields ⟨[(.builtin "object.__init_subclass__"), (zr 242)]⟩), ⟨[]⟩⟩] 226 ((((zT3 P).set 3 (zd [(0, ent P "__name__" 165 (zs "vectorcove.values" 518))] [ent P "Refusal" 517 (zr 242), ent P "MOST_LENGTH" 521 (zi (1000000) 520)] 44)).set 12 (zp [(zi (232) 0), (zi (0) 0), (zr 231)])).set 222 (fun _ => ⟨(.type "type"), none, (.cls ⟨"CoveError", [(.type "Exception")], [(zr 222), (.type "Exception"), (.type "BaseException"), (.type "object")], 221, "CoveError", true, [], [(zr 242)], false, none, false⟩), ⟨[(some (zr 213)), none, (some (zs "CoveError" 473)), (some (zs "CoveError" 481)), (some (.builtin "Exception.__new__")), (some (.bool true))]⟩⟩))
noncomputable def zS4 (P : Params) (os : OsState) : SharedT := zST (zT4 P) 245 522 os
noncomputable def zl4 : List Stmt := [stm 36, stm 37, stm 38]
noncomputable def zT5 (P : Params) : BT := insL [⟨(.type "tuple"), none, (.seq ⟨[]⟩ 0), ⟨[]⟩⟩, ⟨(.type "builtin_function_or_method"), none, (.fields ⟨[(.builtin "type.__prepare__"), (.type "type")]⟩), ⟨[]⟩⟩, ⟨(.type "dict"), none, (.dict ⟨[ent P "__module__" 529 (zs "vectorcove.values" 518), ent P "__qualname__" 531 (zs "Null" 530), ent P "__firstlineno__" 533 (zi (238) 532), ent P "__init__" 540 (zr 258), ent P "__static_attributes__" 543 (zr 259)]⟩ 5), ⟨[]⟩⟩, ⟨(.type "tuple"), none, (.seq ⟨[]⟩ 0), ⟨[]⟩⟩, ⟨zn, none, (.fields ⟨[(zi (240) 0), (zi (4) 0), (zr 257)]⟩), ⟨[]⟩⟩, ⟨(.type "code"), none, (.fields ⟨[(zs "Null" 524), (zs "Null" 525), (zs "/claim/cut.py" 526), (zi (238) 0), (zi (0) 0), (zi (0) 0), (zi (0) 0), (zi (0) 0), (zr 248), (.bool false), (zi (181) 0), (zr 249), zn, zn, zn, zn, (zi (527) 0), (zi (238) 0), (zs "/claim/cut.py" 528)]⟩), ⟨[]⟩⟩, ⟨(.type "frame"), none, .plain, ⟨[(some (zr 250)), (some (zr 3)), (some (zr 247)), none, (some (zs "vectorcove.values" 518)), none, (some (zr 0))]⟩⟩, ⟨(.type "tuple"), none, (.seq ⟨[]⟩ 0), ⟨[]⟩⟩, ⟨zn, none, (.fields ⟨[]⟩), ⟨[]⟩⟩, ⟨(.type "tuple"), none, (.seq ⟨[(zs "self" 537)]⟩ 0), ⟨[]⟩⟩, ⟨(.type "tuple"), none, (.seq ⟨[]⟩ 0), ⟨[]⟩⟩, ⟨zn, none, (zf0 "__init__" "Null.__init__" (mth 39 0)), ⟨[]⟩⟩, ⟨(.type "code"), none, (.fields ⟨[(zs "__init__" 534), (zs "Null.__init__" 535), (zs "/claim/cut.py" 536), (zi (240) 0), (zi (1) 0), (zi (0) 0), (zi (0) 0), (zi (3) 0), (zr 252), (.bool true), (zi (181) 0), (zr 253), zn, (zr 254), (zr 255), (zr 256), (zi (538) 0), (zi (240) 0), (zs "/claim/cut.py" 539)]⟩), ⟨[]⟩⟩, ⟨(.type "function"), none, (zf "__init__" "Null.__init__" (mth 39 0) 3 [] zn zn zn (zs "vectorcove.values" 518) none (zr 257) zn 0), ⟨[]⟩⟩, ⟨(.type "tuple"), none, (.seq ⟨[(zs "attrs" 541), (zs "kind" 542)]⟩ 0), ⟨[]⟩⟩, ⟨(.type "dict"), none, (.dict ⟨[ent P "__module__" 529 (zs "vectorcove.values" 518), ent P "__firstlineno__" 533 (zi (238) 532), ent P "__init__" 540 (zr 258), ent P "__static_attributes__" 543 (zr 259), ent P "__dict__" 545 (zr 262), ent P "__weakref__" 547 (zr 263), ent P "__doc__" 548 zn]⟩ 4), ⟨[]⟩⟩, ⟨(.type "type"), none, (.cls ⟨"Null", [(.type "object")], [(zr 261), (.type "object")], 260, "Null", true, [], [], false, none, false⟩), ⟨[none, none, (some (zs "Null" 522)), (some (zs "Null" 530)), (some (.builtin "object.__new__")), (some (.bool true))]⟩⟩, ⟨(.type "getset_descriptor"), none, (.fields ⟨[(zs "__dict__" 544), (zr 261), (.builtin "function.__dict__"), (.builtin "function.__dict__#set")]⟩), ⟨[]⟩⟩, ⟨(.type "getset_descriptor"), none, (.fields ⟨[(zs "__weakref__" 546), (zr 261), (.builtin "ExceptionGroup.__weakref__"), zn]⟩), ⟨[]⟩⟩, ⟨(.type "super"), none, (.fields ⟨[(zr 261), (zr 261), (zr 261)]⟩), ⟨[]⟩⟩, ⟨(.type "builtin_function_or_method"), none, (.fields ⟨[(.builtin "object.__init_subclass__"), (zr 261)]⟩), ⟨[]⟩⟩] 245 (((zT4 P).set 3 (zd [] [ent P "Null" 550 (zr 261)] 45)).set 12 (zp [(zi (238) 0), (zi (0) 0), (zr 250)]))
noncomputable def zS5 (P : Params) (os : OsState) : SharedT := zST (zT5 P) 266 551 os
noncomputable def zl5 : List Stmt := [stm 39]
noncomputable def zT6 (P : Params) : BT := insL [⟨(.type "tuple"), none, (.seq ⟨[]⟩ 0), ⟨[]⟩⟩, ⟨(.type "builtin_function_or_method"), none, (.fields ⟨[(.builtin "type.__prepare__"), (.type "type")]⟩), ⟨[]⟩⟩, ⟨(.type "dict"), none, (.dict ⟨[ent P "__module__" 558 (zs "vectorcove.values" 518), ent P "__qualname__" 560 (zs "Vector" 559), ent P "__firstlineno__" 562 (zi (243) 561), ent P "__init__" 572 (zr 280), ent P "copy" 579 (zr 287), ent P "__static_attributes__" 585 (zr 288)]⟩ 6), ⟨[]⟩⟩, ⟨(.type "tuple"), none, (.seq ⟨[]⟩ 0), ⟨[]⟩⟩, ⟨zn, none, (.fields ⟨[(zi (245) 0), (zi (4) 0), (zr 279), (zi (252) 0), (zi (4) 0), (zr 286)]⟩), ⟨[]⟩⟩, ⟨(.type "code"), none, (.fields ⟨[(zs "Vector" 553), (zs "Vector" 554), (zs "/claim/cut.py" 555), (zi (243) 0), (zi (0) 0), (zi (0) 0), (zi (0) 0), (zi (0) 0), (zr 269), (.bool false), (zi (181) 0), (zr 270), zn, zn, zn, zn, (zi (556) 0), (zi (243) 0), (zs "/claim/cut.py" 557)]⟩), ⟨[]⟩⟩, ⟨(.type "frame"), none, .plain, ⟨[(some (zr 271)), (some (zr 3)), (some (zr 268)), none, (some (zs "vectorcove.values" 518)), none, (some (zr 0))]⟩⟩, ⟨(.type "tuple"), none, (.seq ⟨[zn]⟩ 0), ⟨[]⟩⟩, ⟨(.type "tuple"), none, (.seq ⟨[]⟩ 0), ⟨[]⟩⟩, ⟨zn, none, (.fields ⟨[]⟩), ⟨[]⟩⟩, ⟨(.type "tuple"), none, (.seq ⟨[(zs "self" 566), (zs "kind" 567), (zs "items" 568), (zs "attrs" 569)]⟩ 0), ⟨[]⟩⟩, ⟨(.type "tuple"), none, (.seq ⟨[]⟩ 0), ⟨[]⟩⟩, ⟨zn, none, (zf0 "__init__" "Vector.__init__" (mth 40 0)), ⟨[]⟩⟩, ⟨(.type "code"), none, (.fields ⟨[(zs "__init__" 563), (zs "Vector.__init__" 564), (zs "/claim/cut.py" 565), (zi (245) 0), (zi (4) 0), (zi (0) 0), (zi (0) 0), (zi (3) 0), (zr 274), (.bool true), (zi (181) 0), (zr 275), zn, (zr 276), (zr 277), (zr 278), (zi (570) 0), (zi (245) 0), (zs "/claim/cut.py" 571)]⟩), ⟨[]⟩⟩, ⟨(.type "function"), none, (zf "__init__" "Vector.__init__" (mth 40 0) 3 [] (zr 273) zn zn (zs "vectorcove.values" 518) none (zr 279) zn 0), ⟨[]⟩⟩, ⟨(.type "tuple"), none, (.seq ⟨[]⟩ 0), ⟨[]⟩⟩, ⟨zn, none, (.fields ⟨[]⟩), ⟨[]⟩⟩, ⟨(.type "tuple"), none, (.seq ⟨[(zs "self" 576)]⟩ 0), ⟨[]⟩⟩, ⟨(.type "tuple"), none, (.seq ⟨[]⟩ 0), ⟨[]⟩⟩, ⟨zn, none, (zf0 "copy" "Vector.copy" (mth 40 1)), ⟨[]⟩⟩, ⟨(.type "code"), none, (.fields ⟨[(zs "copy" 573), (zs "Vector.copy" 574), (zs "/claim/cut.py" 575), (zi (252) 0), (zi (1) 0), (zi (0) 0), (zi (0) 0), (zi (3) 0), (zr 281), (.bool true), (zi (181) 0), (zr 282), zn, (zr 283), (zr 284), (zr 285), (zi (577) 0), (zi (252) 0), (zs "/claim/cut.py" 578)]⟩), ⟨[]⟩⟩, ⟨(.type "function"), none, (zf "copy" "Vector.copy" (mth 40 1) 3 [] zn zn zn (zs "vectorcove.values" 518) none (zr 286) zn 0), ⟨[]⟩⟩, ⟨(.type "tuple"), none, (.seq ⟨[(zs "attrs" 580), (zs "items" 581), (zs "kind" 582), (zs "loose" 583), (zs "shared" 584)]⟩ 0), ⟨[]⟩⟩, ⟨(.type "dict"), none, (.dict ⟨[ent P "__module__" 558 (zs "vectorcove.values" 518), ent P "__firstlineno__" 562 (zi (243) 561), ent P "__init__" 572 (zr 280), ent P "copy" 579 (zr 287), ent P "__static_attributes__" 585 (zr 288), ent P "__dict__" 587 (zr 291), ent P "__weakref__" 589 (zr 292), ent P "__doc__" 590 zn]⟩ 4), ⟨[]⟩⟩, ⟨(.type "type"), none, (.cls ⟨"Vector", [(.type "object")], [(zr 290), (.type "object")], 289, "Vector", true, [], [], false, none, false⟩), ⟨[none, none, (some (zs "Vector" 551)), (some (zs "Vector" 559)), (some (.builtin "object.__new__")), (some (.bool true))]⟩⟩, ⟨(.type "getset_descriptor"), none, (.fields ⟨[(zs "__dict__" 586), (zr 290), (.builtin "function.__dict__"), (.builtin "function.__dict__#set")]⟩), ⟨[]⟩⟩, ⟨(.type "getset_descriptor"), none, (.fields ⟨[(zs "__weakref__" 588), (zr 290), (.builtin "ExceptionGroup.__weakref__"), zn]⟩), ⟨[]⟩⟩, ⟨(.type "super"), none, (.fields ⟨[(zr 290), (zr 290), (zr 290)]⟩), ⟨[]⟩⟩, ⟨(.type "builtin_function_or_method"), none, (.fields ⟨[(.builtin "object.__init_subclass__"), (zr 290)]⟩), ⟨[]⟩⟩, ⟨(.type "tuple"), none, (.seq ⟨[]⟩ 0), ⟨[]⟩⟩, ⟨zn, none, (.fields ⟨[]⟩), ⟨[]⟩⟩, ⟨(.type "tuple"), none, (.seq ⟨[(zs "n" 596)]⟩ 0), ⟨[]⟩⟩, ⟨(.type "tuple"), none, (.seq ⟨[]⟩ 0), ⟨[]⟩⟩, ⟨zn, none, (zf0 "room" "room" (stm 41)), ⟨[]⟩⟩, ⟨(.type "code"), none, (.fields ⟨[(zs "room" 593), (zs "room" 594), (zs "/claim/cut.py" 595), (zi (254) 0), (zi (1) 0), (zi (0) 0), (zi (0) 0), (zi (3) 0), (zr 295), (.bool true), (zi (181) 0), (zr 296), zn, (zr 297), (zr 298), (zr 299), (zi (597) 0), (zi (254) 0), (zs "/claim/cut.py" 598)]⟩), ⟨[]⟩⟩, ⟨(.type "function"), none, (zf "room" "room" (stm 41) 3 [] zn zn zn (zs "vectorcove.values" 518) none (zr 300) zn 0), ⟨[]⟩⟩, ⟨(.type "tuple"), none, (.seq ⟨[]⟩ 0), ⟨[]⟩⟩, ⟨zn, none, (.fields ⟨[]⟩), ⟨[]⟩⟩, ⟨(.type "tuple"), none, (.seq ⟨[(zs "items" 603)]⟩ 0), ⟨[]⟩⟩, ⟨(.type "tuple"), none, (.seq ⟨[]⟩ 0), ⟨[]⟩⟩, ⟨zn, none, (zf0 "logical" "logical" (stm 42)), ⟨[]⟩⟩, ⟨(.type "code"), none, (.fields ⟨[(zs "logical" 600), (zs "logical" 601), (zs "/claim/cut.py" 602), (zi (258) 0), (zi (1) 0), (zi (0) 0), (zi (0) 0), (zi (3) 0), (zr 302), (.bool true), (zi (181) 0), (zr 303), zn, (zr 304), (zr 305), (zr 306), (zi (604) 0), (zi (258) 0), (zs "/claim/cut.py" 605)]⟩), ⟨[]⟩⟩, ⟨(.type "function"), none, (zf "logical" "logical" (stm 42) 3 [] zn zn zn (zs "vectorcove.values" 518) none (zr 307) zn 0), ⟨[]⟩⟩, ⟨(.type "tuple"), none, (.seq ⟨[]⟩ 0), ⟨[]⟩⟩, ⟨zn, none, (.fields ⟨[]⟩), ⟨[]⟩⟩, ⟨(.type "tuple"), none, (.seq ⟨[(zs "items" 610)]⟩ 0), ⟨[]⟩⟩, ⟨(.type "tuple"), none, (.seq ⟨[]⟩ 0), ⟨[]⟩⟩, ⟨zn, none, (zf0 "integer" "integer" (stm 43)), ⟨[]⟩⟩, ⟨(.type "code"), none, (.fields ⟨[(zs "integer" 607), (zs "integer" 608), (zs "/claim/cut.py" 609), (zi (260) 0), (zi (1) 0), (zi (0) 0), (zi (0) 0), (zi (3) 0), (zr 309), (.bool true), (zi (181) 0), (zr 310), zn, (zr 311), (zr 312), (zr 313), (zi (611) 0), (zi (260) 0), (zs "/claim/cut.py" 612)]⟩), ⟨[]⟩⟩, ⟨(.type "function"), none, (zf "integer" "integer" (stm 43) 3 [] zn zn zn (zs "vectorcove.values" 518) none (zr 314) zn 0), ⟨[]⟩⟩, ⟨(.type "tuple"), none, (.seq ⟨[]⟩ 0), ⟨[]⟩⟩, ⟨zn, none, (.fields ⟨[]⟩), ⟨[]⟩⟩, ⟨(.type "tuple"), none, (.seq ⟨[(zs "items" 617)]⟩ 0), ⟨[]⟩⟩, ⟨(.type "tuple"), none, (.seq ⟨[]⟩ 0), ⟨[]⟩⟩, ⟨zn, none, (zf0 "character" "character" (stm 44)), ⟨[]⟩⟩, ⟨(.type "code"), none, (.fields ⟨[(zs "character" 614), (zs "character" 615), (zs "/claim/cut.py" 616), (zi (262) 0), (zi (1) 0), (zi (0) 0), (zi (0) 0), (zi (3) 0), (zr 316), (.bool true), (zi (181) 0), (zr 317), zn, (zr 318), (zr 319), (zr 320), (zi (618) 0), (zi (262) 0), (zs "/claim/cut.py" 619)]⟩), ⟨[]⟩⟩, ⟨(.type "function"), none, (zf "character" "character" (stm 44) 3 [] zn zn zn (zs "vectorcove.values" 518) none (zr 321) zn 0), ⟨[]⟩⟩, ⟨(.type "tuple"), none, (.seq ⟨[]⟩ 0), ⟨[]⟩⟩, ⟨zn, none, (.fields ⟨[]⟩), ⟨[]⟩⟩, ⟨(.type "tuple"), none, (.seq ⟨[(zs "b" 624)]⟩ 0), ⟨[]⟩⟩, ⟨(.type "tuple"), none, (.seq ⟨[]⟩ 0), ⟨[]⟩⟩, ⟨zn, none, (zf0 "flag" "flag" (stm 45)), ⟨[]⟩⟩, ⟨(.type "code"), none, (.fields ⟨[(zs "flag" 621), (zs "flag" 622), (zs "/claim/cut.py" 623), (zi (264) 0), (zi (1) 0), (zi (0) 0), (zi (0) 0), (zi (3) 0), (zr 323), (.bool true), (zi (181) 0), (zr 324), zn, (zr 325), (zr 326), (zr 327), (zi (625) 0), (zi (264) 0), (zs "/claim/cut.py" 626)]⟩), ⟨[]⟩⟩, ⟨(.type "function"), none, (zf "flag" "flag" (stm 45) 3 [] zn zn zn (zs "vectorcove.values" 518) none (zr 328) zn 0), ⟨[]⟩⟩] 266 (((zT5 P).set 3 (zd [] [ent P "Vector" 592 (zr 290), ent P "room" 599 (zr 301), ent P "logical" 606 (zr 308), ent P "integer" 613 (zr 315), ent P "character" 620 (zr 322), ent P "flag" 627 (zr 329)] 51)).set 12 (zp [(zi (243) 0), (zi (0) 0), (zr 271), (zi (254) 0), (zi (0) 0), (zr 300), (zi (258) 0), (zi (0) 0), (zr 307), (zi (260) 0), (zi (0) 0), (zr 314), (zi (262) 0), (zi (0) 0), (zr 321), (zi (264) 0), (zi (0) 0), (zr 328)]))
noncomputable def zS6 (P : Params) (os : OsState) : SharedT := zST (zT6 P) 330 628 os
noncomputable def zl6 : List Stmt := [stm 40, stm 41, stm 42, stm 43, stm 44, stm 45]
noncomputable def zT7 (P : Params) : BT := insL [⟨(.type "tuple"), none, (.seq ⟨[]⟩ 0), ⟨[]⟩⟩, ⟨zn, none, (.fields ⟨[]⟩), ⟨[]⟩⟩, ⟨(.type "tuple"), none, (.seq ⟨[(zs "v" 631), (zs "kind" 632)]⟩ 0), ⟨[]⟩⟩, ⟨(.type "tuple"), none, (.seq ⟨[]⟩ 0), ⟨[]⟩⟩, ⟨zn, none, (zf0 "length" "length" (stm 46)), ⟨[]⟩⟩, ⟨(.type "code"), none, (.fields ⟨[(zs "length" 628), (zs "length" 629), (zs "/claim/cut.py" 630), (zi (268) 0), (zi (1) 0), (zi (0) 0), (zi (0) 0), (zi (3) 0), (zr 330), (.bool true), (zi (181) 0), (zr 331), zn, (zr 332), (zr 333), (zr 334), (zi (633) 0), (zi (268) 0), (zs "/claim/cut.py" 634)]⟩), ⟨[]⟩⟩, ⟨(.type "function"), none, (zf "length" "length" (stm 46) 3 [] zn zn zn (zs "vectorcove.values" 518) none (zr 335) zn 0), ⟨[]⟩⟩, ⟨(.type "tuple"), none, (.seq ⟨[]⟩ 0), ⟨[]⟩⟩, ⟨zn, none, (.fields ⟨[]⟩), ⟨[]⟩⟩, ⟨(.type "tuple"), none, (.seq ⟨[(zs "v" 639)]⟩ 0), ⟨[]⟩⟩, ⟨(.type "tuple"), none, (.seq ⟨[]⟩ 0), ⟨[]⟩⟩, ⟨zn, none, (zf0 "is_vector" "is_vector" (stm 47)), ⟨[]⟩⟩, ⟨(.type "code"), none, (.fields ⟨[(zs "is_vector" 636), (zs "is_vector" 637), (zs "/claim/cut.py" 638), (zi (279) 0), (zi (1) 0), (zi (0) 0), (zi (0) 0), (zi (3) 0), (zr 337), (.bool true), (zi (181) 0), (zr 338), zn, (zr 339), (zr 340), (zr 341), (zi (640) 0), (zi (279) 0), (zs "/claim/cut.py" 641)]⟩), ⟨[]⟩⟩, ⟨(.type "function"), none, (zf "is_vector" "is_vector" (stm 47) 3 [] zn zn zn (zs "vectorcove.values" 518) none (zr 342) zn 0), ⟨[]⟩⟩, ⟨(.type "tuple"), none, (.seq ⟨[]⟩ 0), ⟨[]⟩⟩, ⟨zn, none, (.fields ⟨[]⟩), ⟨[]⟩⟩, ⟨(.type "tuple"), none, (.seq ⟨[(zs "v" 646)]⟩ 0), ⟨[]⟩⟩, ⟨(.type "tuple"), none, (.seq ⟨[]⟩ 0), ⟨[]⟩⟩, ⟨zn, none, (zf0 "is_atomic" "is_atomic" (stm 48)), ⟨[]⟩⟩, ⟨(.type "code"), none, (.fields ⟨[(zs "is_atomic" 643), (zs "is_atomic" 644), (zs "/claim/cut.py" 645), (zi (281) 0), (zi (1) 0), (zi (0) 0), (zi (0) 0), (zi (3) 0), (zr 344), (.bool true), (zi (181) 0), (zr 345), zn, (zr 346), (zr 347), (zr 348), (zi (647) 0), (zi (281) 0), (zs "/claim/cut.py" 648)]⟩), ⟨[]⟩⟩, ⟨(.type "function"), none, (zf "is_atomic" "is_atomic" (stm 48) 3 [] zn zn zn (zs "vectorcove.values" 518) none (zr 349) zn 0), ⟨[]⟩⟩, ⟨(.type "tuple"), none, (.seq ⟨[]⟩ 0), ⟨[]⟩⟩, ⟨zn, none, (.fields ⟨[]⟩), ⟨[]⟩⟩, ⟨(.type "tuple"), none, (.seq ⟨[(zs "v" 653)]⟩ 0), ⟨[]⟩⟩, ⟨(.type "tuple"), none, (.seq ⟨[]⟩ 0), ⟨[]⟩⟩, ⟨zn, none, (zf0 "share" "share" (stm 49)), ⟨[]⟩⟩, ⟨(.type "code"), none, (.fields ⟨[(zs "share" 650), (zs "share" 651), (zs "/claim/cut.py" 652), (zi (283) 0), (zi (1) 0), (zi (0) 0), (zi (0) 0), (zi (3) 0), (zr 351), (.bool true), (zi (181) 0), (zr 352), zn, (zr 353), (zr 354), (zr 355), (zi (654) 0), (zi (283) 0), (zs "/claim/cut.py" 655)]⟩), ⟨[]⟩⟩, ⟨(.type "function"), none, (zf "share" "share" (stm 49) 3 [] zn zn zn (zs "vectorcove.values" 518) none (zr 356) zn 0), ⟨[]⟩⟩, ⟨(.type "tuple"), none, (.seq ⟨[]⟩ 0), ⟨[]⟩⟩, ⟨zn, none, (.fields ⟨[]⟩), ⟨[]⟩⟩, ⟨(.type "tuple"), none, (.seq ⟨[(zs "v" 662), (zs "name" 663)]⟩ 0), ⟨[]⟩⟩, ⟨(.type "tuple"), none, (.seq ⟨[]⟩ 0), ⟨[]⟩⟩, ⟨zn, none, (zf0 "get_attr" "get_attr" (stm 51)), ⟨[]⟩⟩, ⟨(.type "code"), none, (.fields ⟨[(zs "get_attr" 659), (zs "get_attr" 660), (zs "/claim/cut.py" 661), (zi (288) 0), (zi (2) 0), (zi (0) 0), (zi (0) 0), (zi (3) 0), (zr 358), (.bool true), (zi (181) 0), (zr 359), zn, (zr 360), (zr 361), (zr 362), (zi (664) 0), (zi (288) 0), (zs "/claim/cut.py" 665)]⟩), ⟨[]⟩⟩, ⟨(.type "function"), none, (zf "get_attr" "get_attr" (stm 51) 3 [] zn zn zn (zs "vectorcove.attrs" 657) none (zr 363) zn 0), ⟨[]⟩⟩, ⟨(.type "tuple"), none, (.seq ⟨[]⟩ 0), ⟨[]⟩⟩, ⟨zn, none, (.fields ⟨[]⟩), ⟨[]⟩⟩, ⟨(.type "tuple"), none, (.seq ⟨[(zs "kind" 670), (zs "item" 671)]⟩ 0), ⟨[]⟩⟩, ⟨(.type "tuple"), none, (.seq ⟨[]⟩ 0), ⟨[]⟩⟩, ⟨zn, none, (zf0 "label_text" "label_text" (stm 52)), ⟨[]⟩⟩, ⟨(.type "code"), none, (.fields ⟨[(zs "label_text" 667), (zs "label_text" 668), (zs "/claim/cut.py" 669), (zi (292) 0), (zi (2) 0), (zi (0) 0), (zi (0) 0), (zi (3) 0), (zr 365), (.bool true), (zi (181) 0), (zr 366), zn, (zr 367), (zr 368), (zr 369), (zi (672) 0), (zi (292) 0), (zs "/claim/cut.py" 673)]⟩), ⟨[]⟩⟩, ⟨(.type "function"), none, (zf "label_text" "label_text" (stm 52) 3 [] zn zn zn (zs "vectorcove.attrs" 657) none (zr 370) zn 0), ⟨[]⟩⟩, ⟨(.type "tuple"), none, (.seq ⟨[]⟩ 0), ⟨[]⟩⟩, ⟨zn, none, (.fields ⟨[]⟩), ⟨[]⟩⟩, ⟨(.type "tuple"), none, (.seq ⟨[(zs "texts" 678), (zs "code" 679)]⟩ 0), ⟨[]⟩⟩, ⟨(.type "tuple"), none, (.seq ⟨[]⟩ 0), ⟨[]⟩⟩, ⟨zn, none, (zf0 "level_at" "level_at" (stm 53)), ⟨[]⟩⟩, ⟨(.type "code"), none, (.fields ⟨[(zs "level_at" 675), (zs "level_at" 676), (zs "/claim/cut.py" 677), (zi (300) 0), (zi (2) 0), (zi (0) 0), (zi (0) 0), (zi (3) 0), (zr 372), (.bool true), (zi (181) 0), (zr 373), zn, (zr 374), (zr 375), (zr 376), (zi (680) 0), (zi (300) 0), (zs "/claim/cut.py" 681)]⟩), ⟨[]⟩⟩, ⟨(.type "function"), none, (zf "level_at" "level_at" (stm 53) 3 [] zn zn zn (zs "vectorcove.attrs" 657) none (zr 377) zn 0), ⟨[]⟩⟩, ⟨(.type "tuple"), none, (.seq ⟨[]⟩ 0), ⟨[]⟩⟩, ⟨zn, none, (.fields ⟨[]⟩), ⟨[]⟩⟩, ⟨zn, none, (zf0 "label_texts" "label_texts" (stm 54)), ⟨[]⟩⟩, ⟨(.type "code"), none, (.fields ⟨[(zs "label_texts" 683), (zs "label_texts" 684), (zs "/claim/cut.py" 685), (zi (304) 0), (zi (1) 0), (zi (0) 0), (zi (0) 0), (zi (3) 0), (zr 379), (.bool true), (zi (181) 0), (zr 380), zn, zn, zn, (zr 381), (zi (686) 0), (zi (304) 0), (zs "/claim/cut.py" 687)]⟩), ⟨[]⟩⟩, ⟨(.type "function"), none, (zf "label_texts" "label_texts" (stm 54) 3 [] zn zn zn (zs "vectorcove.attrs" 657) none (zr 382) zn 0), ⟨[]⟩⟩, ⟨(.type "tuple"), none, (.seq ⟨[]⟩ 0), ⟨[]⟩⟩, ⟨zn, none, (.fields ⟨[]⟩), ⟨[]⟩⟩, ⟨zn, none, (zf0 "names_of" "names_of" (stm 55)), ⟨[]⟩⟩, ⟨(.type "code"), none, (.fields ⟨[(zs "names_of" 689), (zs "names_of" 690), (zs "/claim/cut.py" 691), (zi (310) 0), (zi (1) 0), (zi (0) 0), (zi (0) 0), (zi (3) 0), (zr 384), (.bool true), (zi (181) 0), (zr 385), zn, zn, zn, (zr 386), (zi (692) 0), (zi (310) 0), (zs "/claim/cut.py" 693)]⟩), ⟨[]⟩⟩, ⟨(.type "function"), none, (zf "names_of" "names_of" (stm 55) 3 [] zn zn zn (zs "vectorcove.attrs" 657) none (zr 387) zn 0), ⟨[]⟩⟩, ⟨(.type "tuple"), none, (.seq ⟨[]⟩ 0), ⟨[]⟩⟩, ⟨zn, none, (.fields ⟨[]⟩), ⟨[]⟩⟩, ⟨(.type "tuple"), none, (.seq ⟨[(zs "v" 698), (zs "dims" 699)]⟩ 0), ⟨[]⟩⟩, ⟨(.type "tuple"), none, (.seq ⟨[]⟩ 0), ⟨[]⟩⟩, ⟨zn, none, (zf0 "dim_of" "dim_of" (stm 56)), ⟨[]⟩⟩, ⟨(.type "code"), none, (.fields ⟨[(zs "dim_of" 695), (zs "dim_of" 696), (zs "/claim/cut.py" 697), (zi (326) 0), (zi (1) 0), (zi (0) 0), (zi (0) 0), (zi (3) 0), (zr 389), (.bool true), (zi (181) 0), (zr 390), zn, (zr 391), (zr 392), (zr 393), (zi (700) 0), (zi (326) 0), (zs "/claim/cut.py" 701)]⟩), ⟨[]⟩⟩, ⟨(.type "function"), none, (zf "dim_of" "dim_of" (stm 56) 3 [] zn zn zn (zs "vectorcove.attrs" 657) none (zr 394) zn 0), ⟨[]⟩⟩, ⟨(.type "tuple"), none, (.seq ⟨[]⟩ 0), ⟨[]⟩⟩, ⟨zn, none, (.fields ⟨[]⟩), ⟨[]⟩⟩, ⟨zn, none, (zf0 "dimnames_of" "dimnames_of" (stm 57)), ⟨[]⟩⟩, ⟨(.type "code"), none, (.fields ⟨[(zs "dimnames_of" 703), (zs "dimnames_of" 704), (zs "/claim/cut.py" 705), (zi (331) 0), (zi (1) 0), (zi (0) 0), (zi (0) 0), (zi (3) 0), (zr 396), (.bool true), (zi (181) 0), (zr 397), zn, zn, zn, (zr 398), (zi (706) 0), (zi (331) 0), (zs "/claim/cut.py" 707)]⟩), ⟨[]⟩⟩, ⟨(.type "function"), none, (zf "dimnames_of" "dimnames_of" (stm 57) 3 [] zn zn zn (zs "vectorcove.attrs" 657) none (zr 399) zn 0), ⟨[]⟩⟩, ⟨(.type "tuple"), none, (.seq ⟨[]⟩ 0), ⟨[]⟩⟩, ⟨zn, none, (.fields ⟨[]⟩), ⟨[]⟩⟩, ⟨(.type "tuple"), none, (.seq ⟨[(zs "v" 712), (zs "found" 713)]⟩ 0), ⟨[]⟩⟩, ⟨(.type "tuple"), none, (.seq ⟨[]⟩ 0), ⟨[]⟩⟩, ⟨zn, none, (zf0 "class_attr" "class_attr" (stm 58)), ⟨[]⟩⟩, ⟨(.type "code"), none, (.fields ⟨[(zs "class_attr" 709), (zs "class_attr" 710), (zs "/claim/cut.py" 711), (zi (336) 0), (zi (1) 0), (zi (0) 0), (zi (0) 0), (zi (3) 0), (zr 401), (.bool true), (zi (181) 0), (zr 402), zn, (zr 403), (zr 404), (zr 405), (zi (714) 0), (zi (336) 0), (zs "/claim/cut.py" 715)]⟩), ⟨[]⟩⟩, ⟨(.type "function"), none, (zf "class_attr" "class_attr" (stm 58) 3 [] zn zn zn (zs "vectorcove.attrs" 657) none (zr 406) zn 0), ⟨[]⟩⟩] 330 (((zT6 P).set 3 (zd [(0, ent P "__name__" 165 (zs "vectorcove.callargs" 717))] [ent P "length" 635 (zr 336), ent P "is_vector" 642 (zr 343), ent P "is_atomic" 649 (zr 350), ent P "share" 656 (zr 357), ent P "get_attr" 666 (zr 364), ent P "label_text" 674 (zr 371), ent P "level_at" 682 (zr 378), ent P "label_texts" 688 (zr 383), ent P "names_of" 694 (zr 388), ent P "dim_of" 702 (zr 395), ent P "dimnames_of" 708 (zr 400), ent P "class_attr" 716 (zr 407)] 63)).set 12 (zp [(zi (268) 0), (zi (0) 0), (zr 335), (zi (279) 0), (zi (0) 0), (zr 342), (zi (281) 0), (zi (0) 0), (zr 349), (zi (283) 0), (zi (0) 0), (zr 356), (zi (288) 0), (zi (0) 0), (zr 363), (zi (292) 0), (zi (0) 0), (zr 370), (zi (300) 0), (zi (0) 0), (zr 377), (zi (304) 0), (zi (0) 0), (zr 382), (zi (310) 0), (zi (0) 0), (zr 387), (zi (326) 0), (zi (0) 0), (zr 394), (zi (331) 0), (zi (0) 0), (zr 399), (zi (336) 0), (zi (0) 0), (zr 406)]))
noncomputable def zS7 (P : Params) (os : OsState) : SharedT := zST (zT7 P) 408 719 os
noncomputable def zl7 : List Stmt := [stm 46, stm 47, stm 48, stm 49, stm 50, stm 51, stm 52, stm 53, stm 54, stm 55, stm 56, stm 57, stm 58, stm 59]
noncomputable def zT8 (P : Params) : BT := insL [⟨(.type "tuple"), none, (.seq ⟨[]⟩ 0), ⟨[]⟩⟩, ⟨(.type "builtin_function_or_method"), none, (.fields ⟨[(.builtin "type.__prepare__"), (.type "type")]⟩), ⟨[]⟩⟩, ⟨(.type "dict"), none, (.dict ⟨[ent P "__module__" 726 (zs "vectorcove.callargs" 717), ent P "__qualname__" 728 (zs "Matching" 727), ent P "__firstlineno__" 730 (zi (342) 729), ent P "__init__" 739 (zr 421), ent P "exact" 748 (zr 428), ent P "partial" 756 (zr 435), ent P "partial_of" 766 (zr 442), ent P "positional" 775 (zr 449), ent P "is_free" 783 (zr 456), ent P "rest" 789 (zr 461), ent P "__static_attributes__" 794 (zr 462)]⟩ 11), ⟨[]⟩⟩, ⟨(.type "tuple"), none, (.seq ⟨[]⟩ 0), ⟨[]⟩⟩, ⟨zn, none, (.fields ⟨[(zi (344) 0), (zi (4) 0), (zr 420), (zi (350) 0), (zi (4) 0), (zr 427), (zi (360) 0), (zi (4) 0), (zr 434), (zi (367) 0), (zi (4) 0), (zr 441), (zi (378) 0), (zi (4) 0), (zr 448), (zi (390) 0), (zi (4) 0), (zr 455), (zi (393) 0), (zi (4) 0), (zr 460)]⟩), ⟨[]⟩⟩, ⟨(.type "code"), none, (.fields ⟨[(zs "Matching" 721), (zs "Matching" 722), (zs "/claim/cut.py" 723), (zi (342) 0), (zi (0) 0), (zi (0) 0), (zi (0) 0), (zi (0) 0), (zr 411), (.bool false), (zi (181) 0), (zr 412), zn, zn, zn, zn, (zi (724) 0), (zi (342) 0), (zs "/claim/cut.py" 725)]⟩), ⟨[]⟩⟩, ⟨(.type "frame"), none, .plain, ⟨[(some (zr 413)), (some (zr 3)), (some (zr 410)), none, (some (zs "vectorcove.callargs" 717)), none, (some (zr 0))]⟩⟩, ⟨(.type "tuple"), none, (.seq ⟨[]⟩ 0), ⟨[]⟩⟩, ⟨zn, none, (.fields ⟨[]⟩), ⟨[]⟩⟩, ⟨(.type "tuple"), none, (.seq ⟨[(zs "self" 734), (zs "formals" 735), (zs "tags" 736)]⟩ 0), ⟨[]⟩⟩, ⟨(.type "tuple"), none, (.seq ⟨[]⟩ 0), ⟨[]⟩⟩, ⟨zn, none, (zf0 "__init__" "Matching.__init__" (mth 60 0)), ⟨[]⟩⟩, ⟨(.type "code"), none, (.fields ⟨[(zs "__init__" 731), (zs "Matching.__init__" 732), (zs "/claim/cut.py" 733), (zi (344) 0), (zi (3) 0), (zi (0) 0), (zi (0) 0), (zi (3) 0), (zr 415), (.bool true), (zi (181) 0), (zr 416), zn, (zr 417), (zr 418), (zr 419), (zi (737) 0), (zi (344) 0), (zs "/claim/cut.py" 738)]⟩), ⟨[]⟩⟩, ⟨(.type "function"), none, (zf "__init__" "Matching.__init__" (mth 60 0) 3 [] zn zn zn (zs "vectorcove.callargs" 717) none (zr 420) zn 0), ⟨[]⟩⟩, ⟨(.type "tuple"), none, (.seq ⟨[]⟩ 0), ⟨[]⟩⟩, ⟨zn, none, (.fields ⟨[]⟩), ⟨[]⟩⟩, ⟨(.type "tuple"), none, (.seq ⟨[(zs "self" 743), (zs "name" 744), (zs "place" 745)]⟩ 0), ⟨[]⟩⟩, ⟨(.type "tuple"), none, (.seq ⟨[]⟩ 0), ⟨[]⟩⟩, ⟨zn, none, (zf0 "exact" "Matching.exact" (mth 60 1)), ⟨[]⟩⟩, ⟨(.type "code"), none, (.fields ⟨[(zs "exact" 740), (zs "Matching.exact" 741), (zs "/claim/cut.py" 742), (zi (350) 0), (zi (1) 0), (zi (0) 0), (zi (0) 0), (zi (3) 0), (zr 422), (.bool true), (zi (181) 0), (zr 423), zn, (zr 424), (zr 425), (zr 426), (zi (746) 0), (zi (350) 0), (zs "/claim/cut.py" 747)]⟩), ⟨[]⟩⟩, ⟨(.type "function"), none, (zf "exact" "Matching.exact" (mth 60 1) 3 [] zn zn zn (zs "vectorcove.callargs" 717) none (zr 427) zn 0), ⟨[]⟩⟩, ⟨(.type "tuple"), none, (.seq ⟨[]⟩ 0), ⟨[]⟩⟩, ⟨zn, none, (.fields ⟨[]⟩), ⟨[]⟩⟩, ⟨(.type "tuple"), none, (.seq ⟨[(zs "self" 752), (zs "name" 753)]⟩ 0), ⟨[]⟩⟩, ⟨(.type "tuple"), none, (.seq ⟨[]⟩ 0), ⟨[]⟩⟩, ⟨zn, none, (zf0 "partial" "Matching.partial" (mth 60 2)), ⟨[]⟩⟩, ⟨(.type "code"), none, (.fields ⟨[(zs "partial" 749), (zs "Matching.partial" 750), (zs "/claim/cut.py" 751), (zi (360) 0), (zi (1) 0), (zi (0) 0), (zi (0) 0), (zi (3) 0), (zr 429), (.bool true), (zi (181) 0), (zr 430), zn, (zr 431), (zr 432), (zr 433), (zi (754) 0), (zi (360) 0), (zs "/claim/cut.py" 755)]⟩), ⟨[]⟩⟩, ⟨(.type "function"), none, (zf "partial" "Matching.partial" (mth 60 2) 3 [] zn zn zn (zs "vectorcove.callargs" 717) none (zr 434) zn 0), ⟨[]⟩⟩, ⟨(.type "tuple"), none, (.seq ⟨[]⟩ 0), ⟨[]⟩⟩, ⟨zn, none, (.fields ⟨[]⟩), ⟨[]⟩⟩, ⟨(.type "tuple"), none, (.seq ⟨[(zs "self" 760), (zs "name" 761), (zs "place" 762), (zs "tag" 763)]⟩ 0), ⟨[]⟩⟩, ⟨(.type "tuple"), none, (.seq ⟨[]⟩ 0), ⟨[]⟩⟩, ⟨zn, none, (zf0 "partial_of" "Matching.partial_of" (mth 60 3)), ⟨[]⟩⟩, ⟨(.type "code"), none, (.fields ⟨[(zs "partial_of" 757), (zs "Matching.partial_of" 758), (zs "/claim/cut.py" 759), (zi (367) 0), (zi (2) 0), (zi (0) 0), (zi (0) 0), (zi (3) 0), (zr 436), (.bool true), (zi (181) 0), (zr 437), zn, (zr 438), (zr 439), (zr 440), (zi (764) 0), (zi (367) 0), (zs "/claim/cut.py" 765)]⟩), ⟨[]⟩⟩, ⟨(.type "function"), none, (zf "partial_of" "Matching.partial_of" (mth 60 3) 3 [] zn zn zn (zs "vectorcove.callargs" 717) none (zr 441) zn 0), ⟨[]⟩⟩, ⟨(.type "tuple"), none, (.seq ⟨[]⟩ 0), ⟨[]⟩⟩, ⟨zn, none, (.fields ⟨[]⟩), ⟨[]⟩⟩, ⟨(.type "tuple"), none, (.seq ⟨[(zs "self" 770), (zs "place" 771), (zs "name" 772)]⟩ 0), ⟨[]⟩⟩, ⟨(.type "tuple"), none, (.seq ⟨[]⟩ 0), ⟨[]⟩⟩, ⟨zn, none, (zf0 "positional" "Matching.positional" (mth 60 4)), ⟨[]⟩⟩, ⟨(.type "code"), none, (.fields ⟨[(zs "positional" 767), (zs "Matching.positional" 768), (zs "/claim/cut.py" 769), (zi (378) 0), (zi (1) 0), (zi (0) 0), (zi (0) 0), (zi (3) 0), (zr 443), (.bool true), (zi (181) 0), (zr 444), zn, (zr 445), (zr 446), (zr 447), (zi (773) 0), (zi (378) 0), (zs "/claim/cut.py" 774)]⟩), ⟨[]⟩⟩, ⟨(.type "function"), none, (zf "positional" "Matching.positional" (mth 60 4) 3 [] zn zn zn (zs "vectorcove.callargs" 717) none (zr 448) zn 0), ⟨[]⟩⟩, ⟨(.type "tuple"), none, (.seq ⟨[]⟩ 0), ⟨[]⟩⟩, ⟨zn, none, (.fields ⟨[]⟩), ⟨[]⟩⟩, ⟨(.type "tuple"), none, (.seq ⟨[(zs "self" 779), (zs "place" 780)]⟩ 0), ⟨[]⟩⟩, ⟨(.type "tuple"), none, (.seq ⟨[]⟩ 0), ⟨[]⟩⟩, ⟨zn, none, (zf0 "is_free" "Matching.is_free" (mth 60 5)), ⟨[]⟩⟩, ⟨(.type "code"), none, (.fields ⟨[(zs "is_free" 776), (zs "Matching.is_free" 777), (zs "/claim/cut.py" 778), (zi (390) 0), (zi (2) 0), (zi (0) 0), (zi (0) 0), (zi (3) 0), (zr 450), (.bool true), (zi (181) 0), (zr 451), zn, (zr 452), (zr 453), (zr 454), (zi (781) 0), (zi (390) 0), (zs "/claim/cut.py" 782)]⟩), ⟨[]⟩⟩, ⟨(.type "function"), none, (zf "is_free" "Matching.is_free" (mth 60 5) 3 [] zn zn zn (zs "vectorcove.callargs" 717) none (zr 455) zn 0), ⟨[]⟩⟩, ⟨(.type "tuple"), none, (.seq ⟨[]⟩ 0), ⟨[]⟩⟩, ⟨zn, none, (.fields ⟨[]⟩), ⟨[]⟩⟩, ⟨zn, none, (zf0 "rest" "Matching.rest" (mth 60 6)), ⟨[]⟩⟩, ⟨(.type "code"), none, (.fields ⟨[(zs "rest" 784), (zs "Matching.rest" 785), (zs "/claim/cut.py" 786), (zi (393) 0), (zi (1) 0), (zi (0) 0), (zi (0) 0), (zi (3) 0), (zr 457), (.bool true), (zi (181) 0), (zr 458), zn, zn, zn, (zr 459), (zi (787) 0), (zi (393) 0), (zs "/claim/cut.py" 788)]⟩), ⟨[]⟩⟩, ⟨(.type "function"), none, (zf "rest" "Matching.rest" (mth 60 6) 3 [] zn zn zn (zs "vectorcove.callargs" 717) none (zr 460) zn 0), ⟨[]⟩⟩, ⟨(.type "tuple"), none, (.seq ⟨[(zs "formals" 790), (zs "places" 791), (zs "tags" 792), (zs "used" 793)]⟩ 0), ⟨[]⟩⟩, ⟨(.type "dict"), none, (.dict ⟨[ent P "__module__" 726 (zs "vectorcove.callargs" 717), ent P "__firstlineno__" 730 (zi (342) 729), ent P "__init__" 739 (zr 421), ent P "exact" 748 (zr 428), ent P "partial" 756 (zr 435), ent P "partial_of" 766 (zr 442), ent P "positional" 775 (zr 449), ent P "is_free" 783 (zr 456), ent P "rest" 789 (zr 461), ent P "__static_attributes__" 794 (zr 462), ent P "__dict__" 796 (zr 465), ent P "__weakref__" 798 (zr 466), ent P "__doc__" 799 zn]⟩ 4), ⟨[]⟩⟩, ⟨(.type "type"), none, (.cls ⟨"Matching", [(.type "object")], [(zr 464), (.type "object")], 463, "Matching", true, [], [], false, none, false⟩), ⟨[none, none, (some (zs "Matching" 719)), (some (zs "Matching" 727)), (some (.builtin "object.__new__")), (some (.bool true))]⟩⟩, ⟨(.type "getset_descriptor"), none, (.fields ⟨[(zs "__dict__" 795), (zr 464), (.builtin "function.__dict__"), (.builtin "function.__dict__#set")]⟩), ⟨[]⟩⟩, ⟨(.type "getset_descriptor"), none, (.fields ⟨[(zs "__weakref__" 797), (zr 464), (.builtin "ExceptionGroup.__weakref__"), zn]⟩), ⟨[]⟩⟩, ⟨(.type "super"), none, (.fields ⟨[(zr 464), (zr 464), (zr 464)]⟩), ⟨[]⟩⟩, ⟨(.type "builtin_function_or_method"), none, (.fields ⟨[(.builtin "object.__init_subclass__"), (zr 464)]⟩), ⟨[]⟩⟩] 408 (((zT7 P).set 3 (zd [] [ent P "Matching" 801 (zr 464)] 64)).set 12 (zp [(zi (342) 0), (zi (0) 0), (zr 413)]))
noncomputable def zS8 (P : Params) (os : OsState) : SharedT := zST (zT8 P) 469 802 os
noncomputable def zl8 : List Stmt := [stm 60]
noncomputable def zT9 (P : Params) : BT := insL [⟨(.type "tuple"), none, (.seq ⟨[]⟩ 0), ⟨[]⟩⟩, ⟨zn, none, (.fields ⟨[]⟩), ⟨[]⟩⟩, ⟨(.type "tuple"), none, (.seq ⟨[(zs "name" 805)]⟩ 0), ⟨[]⟩⟩, ⟨(.type "tuple"), none, (.seq ⟨[]⟩ 0), ⟨[]⟩⟩, ⟨zn, none, (zf0 "doubled_text" "doubled_text" (stm 61)), ⟨[]⟩⟩, ⟨(.type "code"), none, (.fields ⟨[(zs "doubled_text" 802), (zs "doubled_text" 803), (zs "/claim/cut.py" 804), (zi (395) 0), (zi (1) 0), (zi (0) 0), (zi (0) 0), (zi (3) 0), (zr 469), (.bool true), (zi (181) 0), (zr 470), zn, (zr 471), (zr 472), (zr 473), (zi (806) 0), (zi (395) 0), (zs "/claim/cut.py" 807)]⟩), ⟨[]⟩⟩, ⟨(.type "function"), none, (zf "doubled_text" "doubled_text" (stm 61) 3 [] zn zn zn (zs "vectorcove.callargs" 717) none (zr 474) zn 0), ⟨[]⟩⟩, ⟨(.type "tuple"), none, (.seq ⟨[]⟩ 0), ⟨[]⟩⟩, ⟨zn, none, (.fields ⟨[]⟩), ⟨[]⟩⟩, ⟨(.type "tuple"), none, (.seq ⟨[(zs "args" 812), (zs "place" 813), (zs "show" 814), (zs "tag" 815), (zs "value" 816)]⟩ 0), ⟨[]⟩⟩, ⟨(.type "tuple"), none, (.seq ⟨[]⟩ 0), ⟨[]⟩⟩, ⟨zn, none, (zf0 "argument_text" "argument_text" (stm 62)), ⟨[]⟩⟩, ⟨(.type "code"), none, (.fields ⟨[(zs "argument_text" 809), (zs "argument_text" 810), (zs "/claim/cut.py" 811), (zi (397) 0), (zi (3) 0), (zi (0) 0), (zi (0) 0), (zi (3) 0), (zr 476), (.bool true), (zi (181) 0), (zr 477), zn, (zr 478), (zr 479), (zr 480), (zi (817) 0), (zi (397) 0), (zs "/claim/cut.py" 818)]⟩), ⟨[]⟩⟩, ⟨(.type "function"), none, (zf "argument_text" "argument_text" (stm 62) 3 [] zn zn zn (zs "vectorcove.callargs" 717) none (zr 481) zn 0), ⟨[]⟩⟩, ⟨(.type "tuple"), none, (.seq ⟨[]⟩ 0), ⟨[]⟩⟩, ⟨zn, none, (.fields ⟨[]⟩), ⟨[]⟩⟩, ⟨zn, none, (zf0 "unused_text" "unused_text" (stm 63)), ⟨[]⟩⟩, ⟨(.type "code"), none, (.fields ⟨[(zs "unused_text" 820), (zs "unused_text" 821), (zs "/claim/cut.py" 822), (zi (406) 0), (zi (3) 0), (zi (0) 0), (zi (0) 0), (zi (3) 0), (zr 483), (.bool true), (zi (181) 0), (zr 484), zn, zn, zn, (zr 485), (zi (823) 0), (zi (406) 0), (zs "/claim/cut.py" 824)]⟩), ⟨[]⟩⟩, ⟨(.type "function"), none, (zf "unused_text" "unused_text" (stm 63) 3 [] zn zn zn (zs "vectorcove.callargs" 717) none (zr 486) zn 0), ⟨[]⟩⟩, ⟨(.type "tuple"), none, (.seq ⟨[zn]⟩ 0), ⟨[]⟩⟩, ⟨(.type "tuple"), none, (.seq ⟨[]⟩ 0), ⟨[]⟩⟩, ⟨zn, none, (.fields ⟨[]⟩), ⟨[]⟩⟩, ⟨zn, none, (zf0 "match_names" "match_names" (stm 64)), ⟨[]⟩⟩, ⟨(.type "code"), none, (.fields ⟨[(zs "match_names" 826), (zs "match_names" 827), (zs "/claim/cut.py" 828), (zi (412) 0), (zi (3) 0), (zi (0) 0), (zi (0) 0), (zi (3) 0), (zr 489), (.bool true), (zi (181) 0), (zr 490), zn, zn, zn, (zr 491), (zi (829) 0), (zi (412) 0), (zs "/claim/cut.py" 830)]⟩), ⟨[]⟩⟩, ⟨(.type "function"), none, (zf "match_names" "match_names" (stm 64) 3 [] (zr 488) zn zn (zs "vectorcove.callargs" 717) none (zr 492) zn 0), ⟨[]⟩⟩, ⟨(.type "tuple"), none, (.seq ⟨[]⟩ 0), ⟨[]⟩⟩, ⟨zn, none, (.fields ⟨[]⟩), ⟨[]⟩⟩, ⟨(.type "tuple"), none, (.seq ⟨[(zs "value" 835), (zs "name" 836)]⟩ 0), ⟨[]⟩⟩, ⟨(.type "tuple"), none, (.seq ⟨[]⟩ 0), ⟨[]⟩⟩, ⟨zn, none, (zf0 "needed" "needed" (stm 65)), ⟨[]⟩⟩, ⟨(.type "code"), none, (.fields ⟨[(zs "needed" 832), (zs "needed" 833), (zs "/claim/cut.py" 834), (zi (421) 0), (zi (2) 0), (zi (0) 0), (zi (0) 0), (zi (3) 0), (zr 494), (.bool true), (zi (181) 0), (zr 495), zn, (zr 496), (zr 497), (zr 498), (zi (837) 0), (zi (421) 0), (zs "/claim/cut.py" 838)]⟩), ⟨[]⟩⟩, ⟨(.type "function"), none, (zf "needed" "needed" (stm 65) 3 [] zn zn zn (zs "vectorcove.callargs" 717) none (zr 499) zn 0), ⟨[]⟩⟩, ⟨(.type "tuple"), none, (.seq ⟨[zn]⟩ 0), ⟨[]⟩⟩, ⟨(.type "tuple"), none, (.seq ⟨[]⟩ 0), ⟨[]⟩⟩, ⟨zn, none, (.fields ⟨[]⟩), ⟨[]⟩⟩, ⟨zn, none, (zf0 "take" "take" (stm 66)), ⟨[]⟩⟩, ⟨(.type "code"), none, (.fields ⟨[(zs "take" 840), (zs "take" 841), (zs "/claim/cut.py" 842), (zi (425) 0), (zi (3) 0), (zi (0) 0), (zi (0) 0), (zi (3) 0), (zr 502), (.bool true), (zi (181) 0), (zr 503), zn, zn, zn, (zr 504), (zi (843) 0), (zi (425) 0), (zs "/claim/cut.py" 844)]⟩), ⟨[]⟩⟩, ⟨(.type "function"), none, (zf "take" "take" (stm 66) 3 [] (zr 501) zn zn (zs "vectorcove.callargs" 717) none (zr 505) zn 0), ⟨[]⟩⟩, ⟨(.type "tuple"), none, (.seq ⟨[]⟩ 0), ⟨[]⟩⟩, ⟨zn, none, (.fields ⟨[]⟩), ⟨[]⟩⟩, ⟨(.type "tuple"), none, (.seq ⟨[(zs "u" 851), (zs "v" 852), (zs "left" 853), (zs "right" 854), (zs "name" 855)]⟩ 0), ⟨[]⟩⟩, ⟨(.type "tuple"), none, (.seq ⟨[]⟩ 0), ⟨[]⟩⟩, ⟨zn, none, (zf0 "same_attrs" "same_attrs" (stm 68)), ⟨[]⟩⟩, ⟨(.type "code"), none, (.fields ⟨[(zs "same_attrs" 848), (zs "same_attrs" 849), (zs "/claim/cut.py" 850), (zi (437) 0), (zi (2) 0), (zi (0) 0), (zi (0) 0), (zi (3) 0), (zr 507), (.bool true), (zi (181) 0), (zr 508), zn, (zr 509), (zr 510), (zr 511), (zi (856) 0), (zi (437) 0), (zs "/claim/cut.py" 857)]⟩), ⟨[]⟩⟩, ⟨(.type "function"), none, (zf "same_attrs" "same_attrs" (stm 68) 3 [] zn zn zn (zs "vectorcove.identical" 846) none (zr 512) zn 0), ⟨[]⟩⟩, ⟨(.type "tuple"), none, (.seq ⟨[]⟩ 0), ⟨[]⟩⟩, ⟨zn, none, (.fields ⟨[]⟩), ⟨[]⟩⟩, ⟨(.type "tuple"), none, (.seq ⟨[(zs "u" 862), (zs "v" 863), (zs "same" 864), (zs "place" 865)]⟩ 0), ⟨[]⟩⟩, ⟨(.type "tuple"), none, (.seq ⟨[]⟩ 0), ⟨[]⟩⟩, ⟨zn, none, (zf0 "same_items" "same_items" (stm 69)), ⟨[]⟩⟩, ⟨(.type "code"), none, (.fields ⟨[(zs "same_items" 859), (zs "same_items" 860), (zs "/claim/cut.py" 861), (zi (446) 0), (zi (3) 0), (zi (0) 0), (zi (0) 0), (zi (3) 0), (zr 514), (.bool true), (zi (181) 0), (zr 515), zn, (zr 516), (zr 517), (zr 518), (zi (866) 0), (zi (446) 0), (zs "/claim/cut.py" 867)]⟩), ⟨[]⟩⟩, ⟨(.type "function"), none, (zf "same_items" "same_items" (stm 69) 3 [] zn zn zn (zs "vectorcove.identical" 846) none (zr 519) zn 0), ⟨[]⟩⟩, ⟨(.type "tuple"), none, (.seq ⟨[]⟩ 0), ⟨[]⟩⟩, ⟨zn, none, (.fields ⟨[]⟩), ⟨[]⟩⟩, ⟨(.type "tuple"), none, (.seq ⟨[(zs "u" 872), (zs "v" 873), (zs "place" 874)]⟩ 0), ⟨[]⟩⟩, ⟨(.type "tuple"), none, (.seq ⟨[]⟩ 0), ⟨[]⟩⟩, ⟨zn, none, (zf0 "same_formals" "same_formals" (stm 70)), ⟨[]⟩⟩, ⟨(.type "code"), none, (.fields ⟨[(zs "same_formals" 869), (zs "same_formals" 870), (zs "/claim/cut.py" 871), (zi (453) 0), (zi (2) 0), (zi (0) 0), (zi (0) 0), (zi (3) 0), (zr 521), (.bool true), (zi (181) 0), (zr 522), zn, (zr 523), (zr 524), (zr 525), (zi (875) 0), (zi (453) 0), (zs "/claim/cut.py" 876)]⟩), ⟨[]⟩⟩, ⟨(.type "function"), none, (zf "same_formals" "same_formals" (stm 70) 3 [] zn zn zn (zs "vectorcove.identical" 846) none (zr 526) zn 0), ⟨[]⟩⟩, ⟨(.type "tuple"), none, (.seq ⟨[]⟩ 0), ⟨[]⟩⟩, ⟨zn, none, (.fields ⟨[]⟩), ⟨[]⟩⟩, ⟨(.type "tuple"), none, (.seq ⟨[(zs "u" 881), (zs "v" 882), (zs "name" 883)]⟩ 0), ⟨[]⟩⟩, ⟨(.type "tuple"), none, (.seq ⟨[]⟩ 0), ⟨[]⟩⟩, ⟨zn, none, (zf0 "same_slots" "same_slots" (stm 71)), ⟨[]⟩⟩, ⟨(.type "code"), none, (.fields ⟨[(zs "same_slots" 878), (zs "same_slots" 879), (zs "/claim/cut.py" 880), (zi (460) 0), (zi (2) 0), (zi (0) 0), (zi (0) 0), (zi (3) 0), (zr 528), (.bool true), (zi (181) 0), (zr 529), zn, (zr 530), (zr 531), (zr 532), (zi (884) 0), (zi (460) 0), (zs "/claim/cut.py" 885)]⟩), ⟨[]⟩⟩, ⟨(.type "function"), none, (zf "same_slots" "same_slots" (stm 71) 3 [] zn zn zn (zs "vectorcove.identical" 846) none (zr 533) zn 0), ⟨[]⟩⟩, ⟨(.type "tuple"), none, (.seq ⟨[]⟩ 0), ⟨[]⟩⟩, ⟨zn, none, (.fields ⟨[]⟩), ⟨[]⟩⟩, ⟨(.type "tuple"), none, (.seq ⟨[(zs "u" 890), (zs "v" 891), (zs "place" 892), (zs "tag" 893), (zs "value" 894), (zs "other" 895), (zs "against" 896)]⟩ 0), ⟨[]⟩⟩, ⟨(.type "tuple"), none, (.seq ⟨[]⟩ 0), ⟨[]⟩⟩, ⟨zn, none, (zf0 "same_dots" "same_dots" (stm 72)), ⟨[]⟩⟩, ⟨(.type "code"), none, (.fields ⟨[(zs "same_dots" 887), (zs "same_dots" 888), (zs "/claim/cut.py" 889), (zi (467) 0), (zi (2) 0), (zi (0) 0), (zi (0) 0), (zi (3) 0), (zr 535), (.bool true), (zi (181) 0), (zr 536), zn, (zr 537), (zr 538), (zr 539), (zi (897) 0), (zi (467) 0), (zs "/claim/cut.py" 898)]⟩), ⟨[]⟩⟩, ⟨(.type "function"), none, (zf "same_dots" "same_dots" (stm 72) 3 [] zn zn zn (zs "vectorcove.identical" 846) none (zr 540) zn 0), ⟨[]⟩⟩, ⟨(.type "tuple"), none, (.seq ⟨[]⟩ 0), ⟨[]⟩⟩, ⟨zn, none, (.fields ⟨[]⟩), ⟨[]⟩⟩, ⟨(.type "tuple"), none, (.seq ⟨[(zs "u" 903), (zs "v" 904), (zs "kind" 905), (zs "same_home" 906)]⟩ 0), ⟨[]⟩⟩, ⟨(.type "tuple"), none, (.seq ⟨[]⟩ 0), ⟨[]⟩⟩, ⟨zn, none, (zf0 "same_kernel" "same_kernel" (stm 73)), ⟨[]⟩⟩, ⟨(.type "code"), none, (.fields ⟨[(zs "same_kernel" 900), (zs "same_kernel" 901), (zs "/claim/cut.py" 902), (zi (476) 0), (zi (2) 0), (zi (0) 0), (zi (0) 0), (zi (3) 0), (zr 542), (.bool true), (zi (181) 0), (zr 543), zn, (zr 544), (zr 545), (zr 546), (zi (907) 0), (zi (476) 0), (zs "/claim/cut.py" 908)]⟩), ⟨[]⟩⟩, ⟨(.type "function"), none, (zf "same_kernel" "same_kernel" (stm 73) 3 [] zn zn zn (zs "vectorcove.identical" 846) none (zr 547) zn 0), ⟨[]⟩⟩, ⟨(.type "tuple"), none, (.seq ⟨[]⟩ 0), ⟨[]⟩⟩, ⟨zn, none, (.fields ⟨[]⟩), ⟨[]⟩⟩, ⟨(.type "tuple"), none, (.seq ⟨[(zs "u" 913), (zs "v" 914)]⟩ 0), ⟨[]⟩⟩, ⟨(.type "tuple"), none, (.seq ⟨[]⟩ 0), ⟨[]⟩⟩, ⟨zn, none, (zf0 "identical" "identical" (stm 74)), ⟨[]⟩⟩, ⟨(.type "code"), none, (.fields ⟨[(zs "identical" 910), (zs "identical" 911), (zs "/claim/cut.py" 912), (zi (498) 0), (zi (2) 0), (zi (0) 0), (zi (0) 0), (zi (3) 0), (zr 549), (.bool true), (zi (181) 0), (zr 550), zn, (zr 551), (zr 552), (zr 553), (zi (915) 0), (zi (498) 0), (zs "/claim/cut.py" 916)]⟩), ⟨[]⟩⟩, ⟨(.type "function"), none, (zf "identical" "identical" (stm 74) 3 [] zn zn zn (zs "vectorcove.identical" 846) none (zr 554) zn 0), ⟨[]⟩⟩] 469 (((zT8 P).set 3 (zd [(0, ent P "__name__" 165 (zs "vectorcove.sets" 918))] [ent P "doubled_text" 808 (zr 475), ent P "argument_text" 819 (zr 482), ent P "unused_text" 825 (zr 487), ent P "match_names" 831 (zr 493), ent P "needed" 839 (zr 500), ent P "take" 845 (zr 506), ent P "same_attrs" 858 (zr 513), ent P "same_items" 868 (zr 520), ent P "same_formals" 877 (zr 527), ent P "same_slots" 886 (zr 534), ent P "same_dots" 899 (zr 541), ent P "same_kernel" 909 (zr 548), ent P "identical" 917 (zr 555)] 77)).set 12 (zp [(zi (395) 0), (zi (0) 0), (zr 474), (zi (397) 0), (zi (0) 0), (zr 481), (zi (406) 0), (zi (0) 0), (zr 486), (zi (412) 0), (zi (0) 0), (zr 492), (zi (421) 0), (zi (0) 0), (zr 499), (zi (425) 0), (zi (0) 0), (zr 505), (zi (437) 0), (zi (0) 0), (zr 512), (zi (446) 0), (zi (0) 0), (zr 519), (zi (453) 0), (zi (0) 0), (zr 526), (zi (460) 0), (zi (0) 0), (zr 533), (zi (467) 0), (zi (0) 0), (zr 540), (zi (476) 0), (zi (0) 0), (zr 547), (zi (498) 0), (zi (0) 0), (zr 554)]))
noncomputable def zS9 (P : Params) (os : OsState) : SharedT := zST (zT9 P) 556 920 os
noncomputable def zl9 : List Stmt := [stm 61, stm 62, stm 63, stm 64, stm 65, stm 66, stm 67, stm 68, stm 69, stm 70, stm 71, stm 72, stm 73, stm 74, stm 75]
noncomputable def zT10 (P : Params) : BT := insL [⟨(.type "tuple"), none, (.seq ⟨[]⟩ 0), ⟨[]⟩⟩, ⟨zn, none, (.fields ⟨[]⟩), ⟨[]⟩⟩, ⟨(.type "tuple"), none, (.seq ⟨[(zs "kind" 923), (zs "item" 924)]⟩ 0), ⟨[]⟩⟩, ⟨(.type "tuple"), none, (.seq ⟨[]⟩ 0), ⟨[]⟩⟩, ⟨zn, none, (zf0 "item_key" "item_key" (stm 76)), ⟨[]⟩⟩, ⟨(.type "code"), none, (.fields ⟨[(zs "item_key" 920), (zs "item_key" 921), (zs "/claim/cut.py" 922), (zi (503) 0), (zi (2) 0), (zi (0) 0), (zi (0) 0), (zi (3) 0), (zr 556), (.bool true), (zi (181) 0), (zr 557), zn, (zr 558), (zr 559), (zr 560), (zi (925) 0), (zi (503) 0), (zs "/claim/cut.py" 926)]⟩), ⟨[]⟩⟩, ⟨(.type "function"), none, (zf "item_key" "item_key" (stm 76) 3 [] zn zn zn (zs "vectorcove.sets" 918) none (zr 561) zn 0), ⟨[]⟩⟩, ⟨(.type "tuple"), none, (.seq ⟨[]⟩ 0), ⟨[]⟩⟩, ⟨zn, none, (.fields ⟨[]⟩), ⟨[]⟩⟩, ⟨(.type "tuple"), none, (.seq ⟨[(zs "v" 931)]⟩ 0), ⟨[]⟩⟩, ⟨(.type "tuple"), none, (.seq ⟨[]⟩ 0), ⟨[]⟩⟩, ⟨zn, none, (zf0 "is_listed" "is_listed" (stm 77)), ⟨[]⟩⟩, ⟨(.type "code"), none, (.fields ⟨[(zs "is_listed" 928), (zs "is_listed" 929), (zs "/claim/cut.py" 930), (zi (511) 0), (zi (1) 0), (zi (0) 0), (zi (0) 0), (zi (3) 0), (zr 563), (.bool true), (zi (181) 0), (zr 564), zn, (zr 565), (zr 566), (zr 567), (zi (932) 0), (zi (511) 0), (zs "/claim/cut.py" 933)]⟩), ⟨[]⟩⟩, ⟨(.type "function"), none, (zf "is_listed" "is_listed" (stm 77) 3 [] zn zn zn (zs "vectorcove.sets" 918) none (zr 568) zn 0), ⟨[]⟩⟩, ⟨(.type "tuple"), none, (.seq ⟨[]⟩ 0), ⟨[]⟩⟩, ⟨zn, none, (.fields ⟨[]⟩), ⟨[]⟩⟩, ⟨(.type "tuple"), none, (.seq ⟨[(zs "item" 938), (zs "items" 939), (zs "places" 940), (zs "place" 941)]⟩ 0), ⟨[]⟩⟩, ⟨(.type "tuple"), none, (.seq ⟨[]⟩ 0), ⟨[]⟩⟩, ⟨zn, none, (zf0 "list_place" "list_place" (stm 78)), ⟨[]⟩⟩, ⟨(.type "code"), none, (.fields ⟨[(zs "list_place" 935), (zs "list_place" 936), (zs "/claim/cut.py" 937), (zi (513) 0), (zi (3) 0), (zi (0) 0), (zi (0) 0), (zi (3) 0), (zr 570), (.bool true), (zi (181) 0), (zr 571), zn, (zr 572), (zr 573), (zr 574), (zi (942) 0), (zi (513) 0), (zs "/claim/cut.py" 943)]⟩), ⟨[]⟩⟩, ⟨(.type "function"), none, (zf "list_place" "list_place" (stm 78) 3 [] zn zn zn (zs "vectorcove.sets" 918) none (zr 575) zn 0), ⟨[]⟩⟩, ⟨(.type "tuple"), none, (.seq ⟨[]⟩ 0), ⟨[]⟩⟩, ⟨zn, none, (.fields ⟨[]⟩), ⟨[]⟩⟩, ⟨(.type "tuple"), none, (.seq ⟨[(zs "v" 948), (zs "kept" 949), (zs "found" 950), (zs "place" 951), (zs "first" 952), (zs "known" 953)]⟩ 0), ⟨[]⟩⟩, ⟨(.type "tuple"), none, (.seq ⟨[]⟩ 0), ⟨[]⟩⟩, ⟨zn, none, (zf0 "first_places" "first_places" (stm 79)), ⟨[]⟩⟩, ⟨(.type "code"), none, (.fields ⟨[(zs "first_places" 945), (zs "first_places" 946), (zs "/claim/cut.py" 947), (zi (518) 0), (zi (1) 0), (zi (0) 0), (zi (0) 0), (zi (3) 0), (zr 577), (.bool true), (zi (181) 0), (zr 578), zn, (zr 579), (zr 580), (zr 581), (zi (954) 0), (zi (518) 0), (zs "/claim/cut.py" 955)]⟩), ⟨[]⟩⟩, ⟨(.type "function"), none, (zf "first_places" "first_places" (stm 79) 3 [] zn zn zn (zs "vectorcove.sets" 918) none (zr 582) zn 0), ⟨[]⟩⟩, ⟨(.type "tuple"), none, (.seq ⟨[]⟩ 0), ⟨[]⟩⟩, ⟨zn, none, (.fields ⟨[]⟩), ⟨[]⟩⟩, ⟨zn, none, (zf0 "unique_places" "unique_places" (stm 80)), ⟨[]⟩⟩, ⟨(.type "code"), none, (.fields ⟨[(zs "unique_places" 957), (zs "unique_places" 958), (zs "/claim/cut.py" 959), (zi (534) 0), (zi (1) 0), (zi (0) 0), (zi (0) 0), (zi (3) 0), (zr 584), (.bool true), (zi (181) 0), (zr 585), zn, zn, zn, (zr 586), (zi (960) 0), (zi (534) 0), (zs "/claim/cut.py" 961)]⟩), ⟨[]⟩⟩, ⟨(.type "function"), none, (zf "unique_places" "unique_places" (stm 80) 3 [] zn zn zn (zs "vectorcove.sets" 918) none (zr 587) zn 0), ⟨[]⟩⟩, ⟨(.type "tuple"), none, (.seq ⟨[]⟩ 0), ⟨[]⟩⟩, ⟨zn, none, (.fields ⟨[]⟩), ⟨[]⟩⟩, ⟨(.type "tuple"), none, (.seq ⟨[(zs "notes" 970), (zs "message" 971)]⟩ 0), ⟨[]⟩⟩, ⟨(.type "tuple"), none, (.seq ⟨[]⟩ 0), ⟨[]⟩⟩, ⟨zn, none, (zf0 "note" "note" (stm 83)), ⟨[]⟩⟩, ⟨(.type "code"), none, (.fields ⟨[(zs "note" 967), (zs "note" 968), (zs "/claim/cut.py" 969), (zi (539) 0), (zi (2) 0), (zi (0) 0), (zi (0) 0), (zi (3) 0), (zr 589), (.bool true), (zi (181) 0), (zr 590), zn, (zr 591), (zr 592), (zr 593), (zi (972) 0), (zi (539) 0), (zs "/claim/cut.py" 973)]⟩), ⟨[]⟩⟩, ⟨(.type "function"), none, (zf "note" "note" (stm 83) 3 [] zn zn zn (zs "vectorcove.coerce" 963) none (zr 594) zn 0), ⟨[]⟩⟩, ⟨(.type "tuple"), none, (.seq ⟨[]⟩ 0), ⟨[]⟩⟩, ⟨zn, none, (.fields ⟨[]⟩), ⟨[]⟩⟩, ⟨(.type "tuple"), none, (.seq ⟨[(zs "s" 978)]⟩ 0), ⟨[]⟩⟩, ⟨(.type "tuple"), none, (.seq ⟨[]⟩ 0), ⟨[]⟩⟩, ⟨zn, none, (zf0 "as_logical_text" "as_logical_text" (stm 84)), ⟨[]⟩⟩, ⟨(.type "code"), none, (.fields ⟨[(zs "as_logical_text" 975), (zs "as_logical_text" 976), (zs "/claim/cut.py" 977), (zi (542) 0), (zi (1) 0), (zi (0) 0), (zi (0) 0), (zi (3) 0), (zr 596), (.bool true), (zi (181) 0), (zr 597), zn, (zr 598), (zr 599), (zr 600), (zi (979) 0), (zi (542) 0), (zs "/claim/cut.py" 980)]⟩), ⟨[]⟩⟩, ⟨(.type "function"), none, (zf "as_logical_text" "as_logical_text" (stm 84) 3 [] zn zn zn (zs "vectorcove.coerce" 963) none (zr 601) zn 0), ⟨[]⟩⟩, ⟨(.type "tuple"), none, (.seq ⟨[]⟩ 0), ⟨[]⟩⟩, ⟨zn, none, (.fields ⟨[]⟩), ⟨[]⟩⟩, ⟨(.type "tuple"), none, (.seq ⟨[(zs "x" 985), (zs "notes" 986), (zs "found" 987)]⟩ 0), ⟨[]⟩⟩, ⟨(.type "tuple"), none, (.seq ⟨[]⟩ 0), ⟨[]⟩⟩, ⟨zn, none, (zf0 "double_to_integer" "double_to_integer" (stm 85)), ⟨[]⟩⟩, ⟨(.type "code"), none, (.fields ⟨[(zs "double_to_integer" 982), (zs "double_to_integer" 983), (zs "/claim/cut.py" 984), (zi (548) 0), (zi (2) 0), (zi (0) 0), (zi (0) 0), (zi (3) 0), (zr 603), (.bool true), (zi (181) 0), (zr 604), zn, (zr 605), (zr 606), (zr 607), (zi (988) 0), (zi (548) 0), (zs "/claim/cut.py" 989)]⟩), ⟨[]⟩⟩, ⟨(.type "function"), none, (zf "double_to_integer" "double_to_integer" (stm 85) 3 [] zn zn zn (zs "vectorcove.coerce" 963) none (zr 608) zn 0), ⟨[]⟩⟩, ⟨(.type "tuple"), none, (.seq ⟨[]⟩ 0), ⟨[]⟩⟩, ⟨zn, none, (.fields ⟨[]⟩), ⟨[]⟩⟩, ⟨(.type "tuple"), none, (.seq ⟨[(zs "s" 994), (zs "notes" 995), (zs "ok" 996), (zs "found" 997)]⟩ 0), ⟨[]⟩⟩, ⟨(.type "tuple"), none, (.seq ⟨[]⟩ 0), ⟨[]⟩⟩, ⟨zn, none, (zf0 "text_to_double" "text_to_double" (stm 86)), ⟨[]⟩⟩, ⟨(.type "code"), none, (.fields ⟨[(zs "text_to_double" 991), (zs "text_to_double" 992), (zs "/claim/cut.py" 993), (zi (556) 0), (zi (2) 0), (zi (0) 0), (zi (0) 0), (zi (3) 0), (zr 610), (.bool true), (zi (181) 0), (zr 611), zn, (zr 612), (zr 613), (zr 614), (zi (998) 0), (zi (556) 0), (zs "/claim/cut.py" 999)]⟩), ⟨[]⟩⟩, ⟨(.type "function"), none, (zf "text_to_double" "text_to_double" (stm 86) 3 [] zn zn zn (zs "vectorcove.coerce" 963) none (zr 615) zn 0), ⟨[]⟩⟩, ⟨(.type "tuple"), none, (.seq ⟨[]⟩ 0), ⟨[]⟩⟩, ⟨zn, none, (.fields ⟨[]⟩), ⟨[]⟩⟩, ⟨(.type "tuple"), none, (.seq ⟨[(zs "kind" 1004), (zs "item" 1005)]⟩ 0), ⟨[]⟩⟩, ⟨(.type "tuple"), none, (.seq ⟨[]⟩ 0), ⟨[]⟩⟩, ⟨zn, none, (zf0 "to_logical" "to_logical" (stm 87)), ⟨[]⟩⟩, ⟨(.type "code"), none, (.fields ⟨[(zs "to_logical" 1001), (zs "to_logical" 1002), (zs "/claim/cut.py" 1003), (zi (562) 0), (zi (2) 0), (zi (0) 0), (zi (0) 0), (zi (3) 0), (zr 617), (.bool true), (zi (181) 0), (zr 618), zn, (zr 619), (zr 620), (zr 621), (zi (1006) 0), (zi (562) 0), (zs "/claim/cut.py" 1007)]⟩), ⟨[]⟩⟩, ⟨(.type "function"), none, (zf "to_logical" "to_logical" (stm 87) 3 [] zn zn zn (zs "vectorcove.coerce" 963) none (zr 622) zn 0), ⟨[]⟩⟩, ⟨(.type "tuple"), none, (.seq ⟨[]⟩ 0), ⟨[]⟩⟩, ⟨zn, none, (.fields ⟨[]⟩), ⟨[]⟩⟩, ⟨(.type "tuple"), none, (.seq ⟨[(zs "kind" 1012), (zs "item" 1013), (zs "notes" 1014)]⟩ 0), ⟨[]⟩⟩, ⟨(.type "tuple"), none, (.seq ⟨[]⟩ 0), ⟨[]⟩⟩, ⟨zn, none, (zf0 "to_integer" "to_integer" (stm 88)), ⟨[]⟩⟩, ⟨(.type "code"), none, (.fields ⟨[(zs "to_integer" 1009), (zs "to_integer" 1010), (zs "/claim/cut.py" 1011), (zi (572) 0), (zi (3) 0), (zi (0) 0), (zi (0) 0), (zi (3) 0), (zr 624), (.bool true), (zi (181) 0), (zr 625), zn, (zr 626), (zr 627), (zr 628), (zi (1015) 0), (zi (572) 0), (zs "/claim/cut.py" 1016)]⟩), ⟨[]⟩⟩, ⟨(.type "function"), none, (zf "to_integer" "to_integer" (stm 88) 3 [] zn zn zn (zs "vectorcove.coerce" 963) none (zr 629) zn 0), ⟨[]⟩⟩, ⟨(.type "tuple"), none, (.seq ⟨[]⟩ 0), ⟨[]⟩⟩, ⟨zn, none, (.fields ⟨[]⟩), ⟨[]⟩⟩, ⟨(.type "tuple"), none, (.seq ⟨[(zs "kind" 1021), (zs "item" 1022), (zs "notes" 1023)]⟩ 0), ⟨[]⟩⟩, ⟨(.type "tuple"), none, (.seq ⟨[]⟩ 0), ⟨[]⟩⟩, ⟨zn, none, (zf0 "to_double" "to_double" (stm 89)), ⟨[]⟩⟩, ⟨(.type "code"), none, (.fields ⟨[(zs "to_double" 1018), (zs "to_double" 1019), (zs "/claim/cut.py" 1020), (zi (580) 0), (zi (3) 0), (zi (0) 0), (zi (0) 0), (zi (3) 0), (zr 631), (.bool true), (zi (181) 0), (zr 632), zn, (zr 633), (zr 634), (zr 635), (zi (1024) 0), (zi (580) 0), (zs "/claim/cut.py" 1025)]⟩), ⟨[]⟩⟩, ⟨(.type "function"), none, (zf "to_double" "to_double" (stm 89) 3 [] zn zn zn (zs "vectorcove.coerce" 963) none (zr 636) zn 0), ⟨[]⟩⟩, ⟨(.type "tuple"), none, (.seq ⟨[]⟩ 0), ⟨[]⟩⟩, ⟨zn, none, (.fields ⟨[]⟩), ⟨[]⟩⟩, ⟨(.type "tuple"), none, (.seq ⟨[(zs "kind" 1030), (zs "item" 1031)]⟩ 0), ⟨[]⟩⟩, ⟨(.type "tuple"), none, (.seq ⟨[]⟩ 0), ⟨[]⟩⟩, ⟨zn, none, (zf0 "to_text" "to_text" (stm 90)), ⟨[]⟩⟩, ⟨(.type "code"), none, (.fields ⟨[(zs "to_text" 1027), (zs "to_text" 1028), (zs "/claim/cut.py" 1029), (zi (586) 0), (zi (2) 0), (zi (0) 0), (zi (0) 0), (zi (3) 0), (zr 638), (.bool true), (zi (181) 0), (zr 639), zn, (zr 640), (zr 641), (zr 642), (zi (1032) 0), (zi (586) 0), (zs "/claim/cut.py" 1033)]⟩), ⟨[]⟩⟩, ⟨(.type "function"), none, (zf "to_text" "to_text" (stm 90) 3 [] zn zn zn (zs "vectorcove.coerce" 963) none (zr 643) zn 0), ⟨[]⟩⟩] 556 (((zT9 P).set 3 (zd [(0, ent P "__name__" 165 (zs "vectorcove.coerce" 963))] [ent P "item_key" 927 (zr 562), ent P "is_listed" 934 (zr 569), ent P "list_place" 944 (zr 576), ent P "first_places" 956 (zr 583), ent P "unique_places" 962 (zr 588), ent P "MOST_INTEGER" 966 (zi (2147483647) 965), ent P "note" 974 (zr 595), ent P "as_logical_text" 981 (zr 602), ent P "double_to_integer" 990 (zr 609), ent P "text_to_double" 1000 (zr 616), ent P "to_logical" 1008 (zr 623), ent P "to_integer" 1017 (zr 630), ent P "to_double" 1026 (zr 637), ent P "to_text" 1034 (zr 644)] 91)).set 12 (zp [(zi (503) 0), (zi (0) 0), (zr 561), (zi (511) 0), (zi (0) 0), (zr 568), (zi (513) 0), (zi (0) 0), (zr 575), (zi (518) 0), (zi (0) 0), (zr 582), (zi (534) 0), (zi (0) 0), (zr 587), (zi (539) 0), (zi (0) 0), (zr 594), (zi (542) 0), (zi (0) 0), (zr 601), (zi (548) 0), (zi (0) 0), (zr 608), (zi (556) 0), (zi (0) 0), (zr 615), (zi (562) 0), (zi (0) 0), (zr 622), (zi (572) 0), (zi (0) 0), (zr 629), (zi (580) 0), (zi (0) 0), (zr 636), (zi (586) 0), (zi (0) 0), (zr 643)]))
noncomputable def zS10 (P : Params) (os : OsState) : SharedT := zST (zT10 P) 645 1035 os
noncomputable def zl10 : List Stmt := [stm 76, stm 77, stm 78, stm 79, stm 80, stm 81, stm 82, stm 83, stm 84, stm 85, stm 86, stm 87, stm 88, stm 89, stm 90]
noncomputable def zT11 (P : Params) : BT := insL [⟨(.type "tuple"), none, (.seq ⟨[]⟩ 0), ⟨[]⟩⟩, ⟨zn, none, (.fields ⟨[]⟩), ⟨[]⟩⟩, ⟨(.type "tuple"), none, (.seq ⟨[(zs "kind" 1038), (zs "item" 1039), (zs "to" 1040), (zs "notes" 1041)]⟩ 0), ⟨[]⟩⟩, ⟨(.type "tuple"), none, (.seq ⟨[]⟩ 0), ⟨[]⟩⟩, ⟨zn, none, (zf0 "item_as" "item_as" (stm 91)), ⟨[]⟩⟩, ⟨(.type "code"), none, (.fields ⟨[(zs "item_as" 1035), (zs "item_as" 1036), (zs "/claim/cut.py" 1037), (zi (594) 0), (zi (4) 0), (zi (0) 0), (zi (0) 0), (zi (3) 0), (zr 645), (.bool true), (zi (181) 0), (zr 646), zn, (zr 647), (zr 648), (zr 649), (zi (1042) 0), (zi (594) 0), (zs "/claim/cut.py" 1043)]⟩), ⟨[]⟩⟩, ⟨(.type "function"), none, (zf "item_as" "item_as" (stm 91) 3 [] zn zn zn (zs "vectorcove.coerce" 963) none (zr 650) zn 0), ⟨[]⟩⟩, ⟨(.type "tuple"), none, (.seq ⟨[]⟩ 0), ⟨[]⟩⟩, ⟨zn, none, (.fields ⟨[]⟩), ⟨[]⟩⟩, ⟨(.type "tuple"), none, (.seq ⟨[(zs "kind" 1048)]⟩ 0), ⟨[]⟩⟩, ⟨(.type "tuple"), none, (.seq ⟨[]⟩ 0), ⟨[]⟩⟩, ⟨zn, none, (zf0 "is_atomic_kind" "is_atomic_kind" (stm 92)), ⟨[]⟩⟩, ⟨(.type "code"), none, (.fields ⟨[(zs "is_atomic_kind" 1045), (zs "is_atomic_kind" 1046), (zs "/claim/cut.py" 1047), (zi (608) 0), (zi (1) 0), (zi (0) 0), (zi (0) 0), (zi (3) 0), (zr 652), (.bool true), (zi (181) 0), (zr 653), zn, (zr 654), (zr 655), (zr 656), (zi (1049) 0), (zi (608) 0), (zs "/claim/cut.py" 1050)]⟩), ⟨[]⟩⟩, ⟨(.type "function"), none, (zf "is_atomic_kind" "is_atomic_kind" (stm 92) 3 [] zn zn zn (zs "vectorcove.coerce" 963) none (zr 657) zn 0), ⟨[]⟩⟩, ⟨(.type "tuple"), none, (.seq ⟨[]⟩ 0), ⟨[]⟩⟩, ⟨zn, none, (.fields ⟨[]⟩), ⟨[]⟩⟩, ⟨(.type "tuple"), none, (.seq ⟨[(zs "kind" 1055), (zs "item" 1056), (zs "to" 1057), (zs "notes" 1058)]⟩ 0), ⟨[]⟩⟩, ⟨(.type "tuple"), none, (.seq ⟨[]⟩ 0), ⟨[]⟩⟩, ⟨zn, none, (zf0 "list_item_as" "list_item_as" (stm 93)), ⟨[]⟩⟩, ⟨(.type "code"), none, (.fields ⟨[(zs "list_item_as" 1052), (zs "list_item_as" 1053), (zs "/claim/cut.py" 1054), (zi (610) 0), (zi (4) 0), (zi (0) 0), (zi (0) 0), (zi (3) 0), (zr 659), (.bool true), (zi (181) 0), (zr 660), zn, (zr 661), (zr 662), (zr 663), (zi (1059) 0), (zi (610) 0), (zs "/claim/cut.py" 1060)]⟩), ⟨[]⟩⟩, ⟨(.type "function"), none, (zf "list_item_as" "list_item_as" (stm 93) 3 [] zn zn zn (zs "vectorcove.coerce" 963) none (zr 664) zn 0), ⟨[]⟩⟩, ⟨(.type "tuple"), none, (.seq ⟨[]⟩ 0), ⟨[]⟩⟩, ⟨zn, none, (.fields ⟨[]⟩), ⟨[]⟩⟩, ⟨(.type "tuple"), none, (.seq ⟨[(zs "v" 1065), (zs "kind" 1066)]⟩ 0), ⟨[]⟩⟩, ⟨(.type "tuple"), none, (.seq ⟨[]⟩ 0), ⟨[]⟩⟩, ⟨zn, none, (zf0 "refuse_type" "refuse_type" (stm 94)), ⟨[]⟩⟩, ⟨(.type "code"), none, (.fields ⟨[(zs "refuse_type" 1062), (zs "refuse_type" 1063), (zs "/claim/cut.py" 1064), (zi (616) 0), (zi (2) 0), (zi (0) 0), (zi (0) 0), (zi (3) 0), (zr 666), (.bool true), (zi (181) 0), (zr 667), zn, (zr 668), (zr 669), (zr 670), (zi (1067) 0), (zi (616) 0), (zs "/claim/cut.py" 1068)]⟩), ⟨[]⟩⟩, ⟨(.type "function"), none, (zf "refuse_type" "refuse_type" (stm 94) 3 [] zn zn zn (zs "vectorcove.coerce" 963) none (zr 671) zn 0), ⟨[]⟩⟩, ⟨(.type "tuple"), none, (.seq ⟨[]⟩ 0), ⟨[]⟩⟩, ⟨zn, none, (.fields ⟨[]⟩), ⟨[]⟩⟩, ⟨zn, none, (zf0 "as_vector_kind" "as_vector_kind" (stm 95)), ⟨[]⟩⟩, ⟨(.type "code"), none, (.fields ⟨[(zs "as_vector_kind" 1070), (zs "as_vector_kind" 1071), (zs "/claim/cut.py" 1072), (zi (618) 0), (zi (2) 0), (zi (0) 0), (zi (0) 0), (zi (3) 0), (zr 673), (.bool true), (zi (181) 0), (zr 674), zn, zn, zn, (zr 675), (zi (1073) 0), (zi (618) 0), (zs "/claim/cut.py" 1074)]⟩), ⟨[]⟩⟩, ⟨(.type "function"), none, (zf "as_vector_kind" "as_vector_kind" (stm 95) 3 [] zn zn zn (zs "vectorcove.coerce" 963) none (zr 676) zn 0), ⟨[]⟩⟩, ⟨(.type "tuple"), none, (.seq ⟨[]⟩ 0), ⟨[]⟩⟩, ⟨zn, none, (.fields ⟨[]⟩), ⟨[]⟩⟩, ⟨(.type "tuple"), none, (.seq ⟨[(zs "v" 1079), (zs "names" 1080)]⟩ 0), ⟨[]⟩⟩, ⟨(.type "tuple"), none, (.seq ⟨[]⟩ 0), ⟨[]⟩⟩, ⟨zn, none, (zf0 "with_names" "with_names" (stm 96)), ⟨[]⟩⟩, ⟨(.type "code"), none, (.fields ⟨[(zs "with_names" 1076), (zs "with_names" 1077), (zs "/claim/cut.py" 1078), (zi (632) 0), (zi (2) 0), (zi (0) 0), (zi (0) 0), (zi (3) 0), (zr 678), (.bool true), (zi (181) 0), (zr 679), zn, (zr 680), (zr 681), (zr 682), (zi (1081) 0), (zi (632) 0), (zs "/claim/cut.py" 1082)]⟩), ⟨[]⟩⟩, ⟨(.type "function"), none, (zf "with_names" "with_names" (stm 96) 3 [] zn zn zn (zs "vectorcove.coerce" 963) none (zr 683) zn 0), ⟨[]⟩⟩, ⟨(.type "tuple"), none, (.seq ⟨[]⟩ 0), ⟨[]⟩⟩, ⟨zn, none, (.fields ⟨[]⟩), ⟨[]⟩⟩, ⟨zn, none, (zf0 "as_kind" "as_kind" (stm 97)), ⟨[]⟩⟩, ⟨(.type "code"), none, (.fields ⟨[(zs "as_kind" 1084), (zs "as_kind" 1085), (zs "/claim/cut.py" 1086), (zi (636) 0), (zi (3) 0), (zi (0) 0), (zi (0) 0), (zi (3) 0), (zr 685), (.bool true), (zi (181) 0), (zr 686), zn, zn, zn, (zr 687), (zi (1087) 0), (zi (636) 0), (zs "/claim/cut.py" 1088)]⟩), ⟨[]⟩⟩, ⟨(.type "function"), none, (zf "as_kind" "as_kind" (stm 97) 3 [] zn zn zn (zs "vectorcove.coerce" 963) none (zr 688) zn 0), ⟨[]⟩⟩, ⟨(.type "tuple"), none, (.seq ⟨[]⟩ 0), ⟨[]⟩⟩, ⟨zn, none, (.fields ⟨[]⟩), ⟨[]⟩⟩, ⟨(.type "tuple"), none, (.seq ⟨[(zs "v" 1095), (zs "usual" 1096), (zs "found" 1097)]⟩ 0), ⟨[]⟩⟩, ⟨(.type "tuple"), none, (.seq ⟨[]⟩ 0), ⟨[]⟩⟩, ⟨zn, none, (zf0 "is_true" "is_true" (stm 99)), ⟨[]⟩⟩, ⟨(.type "code"), none, (.fields ⟨[(zs "is_true" 1092), (zs "is_true" 1093), (zs "/claim/cut.py" 1094), (zi (644) 0), (zi (2) 0), (zi (0) 0), (zi (0) 0), (zi (3) 0), (zr 690), (.bool true), (zi (181) 0), (zr 691), zn, (zr 692), (zr 693), (zr 694), (zi (1098) 0), (zi (644) 0), (zs "/claim/cut.py" 1099)]⟩), ⟨[]⟩⟩, ⟨(.type "function"), none, (zf "is_true" "is_true" (stm 99) 3 [] zn zn zn (zs "vectorcove.matargs" 1090) none (zr 695) zn 0), ⟨[]⟩⟩, ⟨(.type "tuple"), none, (.seq ⟨[]⟩ 0), ⟨[]⟩⟩, ⟨zn, none, (.fields ⟨[]⟩), ⟨[]⟩⟩, ⟨(.type "tuple"), none, (.seq ⟨[(zs "names" 1106), (zs "sep" 1107), (zs "taken" 1108), (zs "name" 1109), (zs "seen" 1110), (zs "counts" 1111), (zs "found" 1112), (zs "number" 1113), (zs "fresh" 1114)]⟩ 0), ⟨[]⟩⟩, ⟨(.type "tuple"), none, (.seq ⟨[]⟩ 0), ⟨[]⟩⟩, ⟨zn, none, (zf0 "make_unique" "make_unique" (stm 101)), ⟨[]⟩⟩, ⟨(.type "code"), none, (.fields ⟨[(zs "make_unique" 1103), (zs "make_unique" 1104), (zs "/claim/cut.py" 1105), (zi (652) 0), (zi (2) 0), (zi (0) 0), (zi (0) 0), (zi (3) 0), (zr 697), (.bool true), (zi (181) 0), (zr 698), zn, (zr 699), (zr 700), (zr 701), (zi (1115) 0), (zi (652) 0), (zs "/claim/cut.py" 1116)]⟩), ⟨[]⟩⟩, ⟨(.type "function"), none, (zf "make_unique" "make_unique" (stm 101) 3 [] zn zn zn (zs "vectorcove.texts" 1101) none (zr 702) zn 0), ⟨[]⟩⟩, ⟨(.type "tuple"), none, (.seq ⟨[]⟩ 0), ⟨[]⟩⟩, ⟨zn, none, (.fields ⟨[]⟩), ⟨[]⟩⟩, ⟨(.type "tuple"), none, (.seq ⟨[(zs "v" 1123), (zs "names" 1124), (zs "column" 1125)]⟩ 0), ⟨[]⟩⟩, ⟨(.type "tuple"), none, (.seq ⟨[]⟩ 0), ⟨[]⟩⟩, ⟨zn, none, (zf0 "is_frame" "is_frame" (stm 103)), ⟨[]⟩⟩, ⟨(.type "code"), none, (.fields ⟨[(zs "is_frame" 1120), (zs "is_frame" 1121), (zs "/claim/cut.py" 1122), (zi (674) 0), (zi (1) 0), (zi (0) 0), (zi (0) 0), (zi (3) 0), (zr 704), (.bool true), (zi (181) 0), (zr 705), zn, (zr 706), (zr 707), (zr 708), (zi (1126) 0), (zi (674) 0), (zs "/claim/cut.py" 1127)]⟩), ⟨[]⟩⟩, ⟨(.type "function"), none, (zf "is_frame" "is_frame" (stm 103) 3 [] zn zn zn (zs "vectorcove.frames" 1118) none (zr 709) zn 0), ⟨[]⟩⟩, ⟨(.type "tuple"), none, (.seq ⟨[]⟩ 0), ⟨[]⟩⟩, ⟨zn, none, (.fields ⟨[]⟩), ⟨[]⟩⟩, ⟨zn, none, (zf0 "new_frame" "new_frame" (stm 104)), ⟨[]⟩⟩, ⟨(.type "code"), none, (.fields ⟨[(zs "new_frame" 1129), (zs "new_frame" 1130), (zs "/claim/cut.py" 1131), (zi (684) 0), (zi (3) 0), (zi (0) 0), (zi (0) 0), (zi (3) 0), (zr 711), (.bool true), (zi (181) 0), (zr 712), zn, zn, zn, (zr 713), (zi (1132) 0), (zi (684) 0), (zs "/claim/cut.py" 1133)]⟩), ⟨[]⟩⟩, ⟨(.type "function"), none, (zf "new_frame" "new_frame" (stm 104) 3 [] zn zn zn (zs "vectorcove.frames" 1118) none (zr 714) zn 0), ⟨[]⟩⟩, ⟨(.type "tuple"), none, (.seq ⟨[]⟩ 0), ⟨[]⟩⟩, ⟨zn, none, (.fields ⟨[]⟩), ⟨[]⟩⟩, ⟨(.type "tuple"), none, (.seq ⟨[(zs "count" 1138)]⟩ 0), ⟨[]⟩⟩, ⟨(.type "tuple"), none, (.seq ⟨[]⟩ 0), ⟨[]⟩⟩, ⟨zn, none, (zf0 "plain_rows" "plain_rows" (stm 105)), ⟨[]⟩⟩, ⟨(.type "code"), none, (.fields ⟨[(zs "plain_rows" 1135), (zs "plain_rows" 1136), (zs "/claim/cut.py" 1137), (zi (688) 0), (zi (1) 0), (zi (0) 0), (zi (0) 0), (zi (3) 0), (zr 716), (.bool true), (zi (181) 0), (zr 717), zn, (zr 718), (zr 719), (zr 720), (zi (1139) 0), (zi (688) 0), (zs "/claim/cut.py" 1140)]⟩), ⟨[]⟩⟩, ⟨(.type "function"), none, (zf "plain_rows" "plain_rows" (stm 105) 3 [] zn zn zn (zs "vectorcove.frames" 1118) none (zr 721) zn 0), ⟨[]⟩⟩, ⟨(.type "tuple"), none, (.seq ⟨[]⟩ 0), ⟨[]⟩⟩, ⟨zn, none, (.fields ⟨[]⟩), ⟨[]⟩⟩, ⟨(.type "tuple"), none, (.seq ⟨[(zs "df" 1145)]⟩ 0), ⟨[]⟩⟩, ⟨(.type "tuple"), none, (.seq ⟨[]⟩ 0), ⟨[]⟩⟩, ⟨zn, none, (zf0 "frame_rows" "frame_rows" (stm 106)), ⟨[]⟩⟩, ⟨(.type "code"), none, (.fields ⟨[(zs "frame_rows" 1142), (zs "frame_rows" 1143), (zs "/claim/cut.py" 1144), (zi (690) 0), (zi (1) 0), (zi (0) 0), (zi (0) 0), (zi (3) 0), (zr 723), (.bool true), (zi (181) 0), (zr 724), zn, (zr 725), (zr 726), (zr 727), (zi (1146) 0), (zi (690) 0), (zs "/claim/cut.py" 1147)]⟩), ⟨[]⟩⟩, ⟨(.type "function"), none, (zf "frame_rows" "frame_rows" (stm 106) 3 [] zn zn zn (zs "vectorcove.frames" 1118) none (zr 728) zn 0), ⟨[]⟩⟩] 645 (((zT10 P).set 3 (zd [(0, ent P "__name__" 165 (zs "vectorcove.frames" 1118))] [ent P "item_as" 1044 (zr 651), ent P "is_atomic_kind" 1051 (zr 658), ent P "list_item_as" 1061 (zr 665), ent P "refuse_type" 1069 (zr 672), ent P "as_vector_kind" 1075 (zr 677), ent P "with_names" 1083 (zr 684), ent P "as_kind" 1089 (zr 689), ent P "is_true" 1100 (zr 696), ent P "make_unique" 1117 (zr 703), ent P "is_frame" 1128 (zr 710), ent P "new_frame" 1134 (zr 715), ent P "plain_rows" 1141 (zr 722), ent P "frame_rows" 1148 (zr 729)] 104)).set 12 (zp [(zi (594) 0), (zi (0) 0), (zr 650), (zi (608) 0), (zi (0) 0), (zr 657), (zi (610) 0), (zi (0) 0), (zr 664), (zi (616) 0), (zi (0) 0), (zr 671), (zi (618) 0), (zi (0) 0), (zr 676), (zi (632) 0), (zi (0) 0), (zr 683), (zi (636) 0), (zi (0) 0), (zr 688), (zi (644) 0), (zi (0) 0), (zr 695), (zi (652) 0), (zi (0) 0), (zr 702), (zi (674) 0), (zi (0) 0), (zr 709), (zi (684) 0), (zi (0) 0), (zr 714), (zi (688) 0), (zi (0) 0), (zr 721), (zi (690) 0), (zi (0) 0), (zr 728)]))
noncomputable def zS11 (P : Params) (os : OsState) : SharedT := zST (zT11 P) 730 1149 os
noncomputable def zl11 : List Stmt := [stm 91, stm 92, stm 93, stm 94, stm 95, stm 96, stm 97, stm 98, stm 99, stm 100, stm 101, stm 102, stm 103, stm 104, stm 105, stm 106]
noncomputable def zT12 (P : Params) : BT := insL [⟨(.type "tuple"), none, (.seq ⟨[]⟩ 0), ⟨[]⟩⟩, ⟨zn, none, (.fields ⟨[]⟩), ⟨[]⟩⟩, ⟨zn, none, (zf0 "column_names" "column_names" (stm 107)), ⟨[]⟩⟩, ⟨(.type "code"), none, (.fields ⟨[(zs "column_names" 1149), (zs "column_names" 1150), (zs "/claim/cut.py" 1151), (zi (694) 0), (zi (1) 0), (zi (0) 0), (zi (0) 0), (zi (3) 0), (zr 730), (.bool true), (zi (181) 0), (zr 731), zn, zn, zn, (zr 732), (zi (1152) 0), (zi (694) 0), (zs "/claim/cut.py" 1153)]⟩), ⟨[]⟩⟩, ⟨(.type "function"), none, (zf "column_names" "column_names" (stm 107) 3 [] zn zn zn (zs "vectorcove.frames" 1118) none (zr 733) zn 0), ⟨[]⟩⟩, ⟨(.type "tuple"), none, (.seq ⟨[]⟩ 0), ⟨[]⟩⟩, ⟨zn, none, (.fields ⟨[]⟩), ⟨[]⟩⟩, ⟨(.type "tuple"), none, (.seq ⟨[(zs "df" 1158)]⟩ 0), ⟨[]⟩⟩, ⟨(.type "tuple"), none, (.seq ⟨[]⟩ 0), ⟨[]⟩⟩, ⟨zn, none, (zf0 "row_names" "row_names" (stm 108)), ⟨[]⟩⟩, ⟨(.type "code"), none, (.fields ⟨[(zs "row_names" 1155), (zs "row_names" 1156), (zs "/claim/cut.py" 1157), (zi (697) 0), (zi (1) 0), (zi (0) 0), (zi (0) 0), (zi (3) 0), (zr 735), (.bool true), (zi (181) 0), (zr 736), zn, (zr 737), (zr 738), (zr 739), (zi (1159) 0), (zi (697) 0), (zs "/claim/cut.py" 1160)]⟩), ⟨[]⟩⟩, ⟨(.type "function"), none, (zf "row_names" "row_names" (stm 108) 3 [] zn zn zn (zs "vectorcove.frames" 1118) none (zr 740) zn 0), ⟨[]⟩⟩, ⟨(.type "tuple"), none, (.seq ⟨[]⟩ 0), ⟨[]⟩⟩, ⟨zn, none, (.fields ⟨[]⟩), ⟨[]⟩⟩, ⟨(.type "tuple"), none, (.seq ⟨[(zs "column" 1165), (zs "kept" 1166), (zs "name" 1167)]⟩ 0), ⟨[]⟩⟩, ⟨(.type "tuple"), none, (.seq ⟨[]⟩ 0), ⟨[]⟩⟩, ⟨zn, none, (zf0 "kept_attrs" "kept_attrs" (stm 109)), ⟨[]⟩⟩, ⟨(.type "code"), none, (.fields ⟨[(zs "kept_attrs" 1162), (zs "kept_attrs" 1163), (zs "/claim/cut.py" 1164), (zi (701) 0), (zi (1) 0), (zi (0) 0), (zi (0) 0), (zi (3) 0), (zr 742), (.bool true), (zi (181) 0), (zr 743), zn, (zr 744), (zr 745), (zr 746), (zi (1168) 0), (zi (701) 0), (zs "/claim/cut.py" 1169)]⟩), ⟨[]⟩⟩, ⟨(.type "function"), none, (zf "kept_attrs" "kept_attrs" (stm 109) 3 [] zn zn zn (zs "vectorcove.frames" 1118) none (zr 747) zn 0), ⟨[]⟩⟩, ⟨(.type "tuple"), none, (.seq ⟨[]⟩ 0), ⟨[]⟩⟩, ⟨zn, none, (.fields ⟨[]⟩), ⟨[]⟩⟩, ⟨(.type "tuple"), none, (.seq ⟨[(zs "kind" 1174)]⟩ 0), ⟨[]⟩⟩, ⟨(.type "tuple"), none, (.seq ⟨[]⟩ 0), ⟨[]⟩⟩, ⟨zn, none, (zf0 "lacking" "lacking" (stm 110)), ⟨[]⟩⟩, ⟨(.type "code"), none, (.fields ⟨[(zs "lacking" 1171), (zs "lacking" 1172), (zs "/claim/cut.py" 1173), (zi (709) 0), (zi (1) 0), (zi (0) 0), (zi (0) 0), (zi (3) 0), (zr 749), (.bool true), (zi (181) 0), (zr 750), zn, (zr 751), (zr 752), (zr 753), (zi (1175) 0), (zi (709) 0), (zs "/claim/cut.py" 1176)]⟩), ⟨[]⟩⟩, ⟨(.type "function"), none, (zf "lacking" "lacking" (stm 110) 3 [] zn zn zn (zs "vectorcove.frames" 1118) none (zr 754) zn 0), ⟨[]⟩⟩, ⟨(.type "tuple"), none, (.seq ⟨[]⟩ 0), ⟨[]⟩⟩, ⟨zn, none, (.fields ⟨[]⟩), ⟨[]⟩⟩, ⟨(.type "tuple"), none, (.seq ⟨[(zs "column" 1181), (zs "places" 1182), (zs "items" 1183), (zs "count" 1184), (zs "place" 1185)]⟩ 0), ⟨[]⟩⟩, ⟨(.type "tuple"), none, (.seq ⟨[]⟩ 0), ⟨[]⟩⟩, ⟨zn, none, (zf0 "pick_items" "pick_items" (stm 111)), ⟨[]⟩⟩, ⟨(.type "code"), none, (.fields ⟨[(zs "pick_items" 1178), (zs "pick_items" 1179), (zs "/claim/cut.py" 1180), (zi (713) 0), (zi (2) 0), (zi (0) 0), (zi (0) 0), (zi (3) 0), (zr 756), (.bool true), (zi (181) 0), (zr 757), zn, (zr 758), (zr 759), (zr 760), (zi (1186) 0), (zi (713) 0), (zs "/claim/cut.py" 1187)]⟩), ⟨[]⟩⟩, ⟨(.type "function"), none, (zf "pick_items" "pick_items" (stm 111) 3 [] zn zn zn (zs "vectorcove.frames" 1118) none (zr 761) zn 0), ⟨[]⟩⟩, ⟨(.type "tuple"), none, (.seq ⟨[]⟩ 0), ⟨[]⟩⟩, ⟨zn, none, (.fields ⟨[]⟩), ⟨[]⟩⟩, ⟨(.type "tuple"), none, (.seq ⟨[(zs "columns" 1192), (zs "found" 1193), (zs "column" 1194), (zs "one" 1195)]⟩ 0), ⟨[]⟩⟩, ⟨(.type "tuple"), none, (.seq ⟨[]⟩ 0), ⟨[]⟩⟩, ⟨zn, none, (zf0 "differing_lengths" "differing_lengths" (stm 112)), ⟨[]⟩⟩, ⟨(.type "code"), none, (.fields ⟨[(zs "differing_lengths" 1189), (zs "differing_lengths" 1190), (zs "/claim/cut.py" 1191), (zi (722) 0), (zi (1) 0), (zi (0) 0), (zi (0) 0), (zi (3) 0), (zr 763), (.bool true), (zi (181) 0), (zr 764), zn, (zr 765), (zr 766), (zr 767), (zi (1196) 0), (zi (722) 0), (zs "/claim/cut.py" 1197)]⟩), ⟨[]⟩⟩, ⟨(.type "function"), none, (zf "differing_lengths" "differing_lengths" (stm 112) 3 [] zn zn zn (zs "vectorcove.frames" 1118) none (zr 768) zn 0), ⟨[]⟩⟩, ⟨(.type "tuple"), none, (.seq ⟨[]⟩ 0), ⟨[]⟩⟩, ⟨zn, none, (.fields ⟨[]⟩), ⟨[]⟩⟩, ⟨zn, none, (zf0 "recycled_columns" "recycled_columns" (stm 113)), ⟨[]⟩⟩, ⟨(.type "code"), none, (.fields ⟨[(zs "recycled_columns" 1199), (zs "recycled_columns" 1200), (zs "/claim/cut.py" 1201), (zi (729) 0), (zi (2) 0), (zi (0) 0), (zi (0) 0), (zi (3) 0), (zr 770), (.bool true), (zi (181) 0), (zr 771), zn, zn, zn, (zr 772), (zi (1202) 0), (zi (729) 0), (zs "/claim/cut.py" 1203)]⟩), ⟨[]⟩⟩, ⟨(.type "function"), none, (zf "recycled_columns" "recycled_columns" (stm 113) 3 [] zn zn zn (zs "vectorcove.frames" 1118) none (zr 773) zn 0), ⟨[]⟩⟩, ⟨(.type "tuple"), none, (.seq ⟨[]⟩ 0), ⟨[]⟩⟩, ⟨zn, none, (.fields ⟨[]⟩), ⟨[]⟩⟩, ⟨(.type "tuple"), none, (.seq ⟨[(zs "columns" 1208), (zs "rows" 1209), (zs "column" 1210), (zs "names" 1211), (zs "distinct" 1212), (zs "name" 1213)]⟩ 0), ⟨[]⟩⟩, ⟨(.type "tuple"), none, (.seq ⟨[]⟩ 0), ⟨[]⟩⟩, ⟨zn, none, (zf0 "names_as_rows" "names_as_rows" (stm 114)), ⟨[]⟩⟩, ⟨(.type "code"), none, (.fields ⟨[(zs "names_as_rows" 1205), (zs "names_as_rows" 1206), (zs "/claim/cut.py" 1207), (zi (740) 0), (zi (2) 0), (zi (0) 0), (zi (0) 0), (zi (3) 0), (zr 775), (.bool true), (zi (181) 0), (zr 776), zn, (zr 777), (zr 778), (zr 779), (zi (1214) 0), (zi (740) 0), (zs "/claim/cut.py" 1215)]⟩), ⟨[]⟩⟩, ⟨(.type "function"), none, (zf "names_as_rows" "names_as_rows" (stm 114) 3 [] zn zn zn (zs "vectorcove.frames" 1118) none (zr 780) zn 0), ⟨[]⟩⟩, ⟨(.type "tuple"), none, (.seq ⟨[]⟩ 0), ⟨[]⟩⟩, ⟨zn, none, (.fields ⟨[]⟩), ⟨[]⟩⟩, ⟨(.type "tuple"), none, (.seq ⟨[(zs "columns" 1220), (zs "names" 1221), (zs "row_labels" 1222), (zs "rows" 1223), (zs "column" 1224), (zs "made" 1225), (zs "found" 1226)]⟩ 0), ⟨[]⟩⟩, ⟨(.type "tuple"), none, (.seq ⟨[]⟩ 0), ⟨[]⟩⟩, ⟨zn, none, (zf0 "make_frame" "make_frame" (stm 115)), ⟨[]⟩⟩, ⟨(.type "code"), none, (.fields ⟨[(zs "make_frame" 1217), (zs "make_frame" 1218), (zs "/claim/cut.py" 1219), (zi (750) 0), (zi (3) 0), (zi (0) 0), (zi (0) 0), (zi (3) 0), (zr 782), (.bool true), (zi (181) 0), (zr 783), zn, (zr 784), (zr 785), (zr 786), (zi (1227) 0), (zi (750) 0), (zs "/claim/cut.py" 1228)]⟩), ⟨[]⟩⟩, ⟨(.type "function"), none, (zf "make_frame" "make_frame" (stm 115) 3 [] zn zn zn (zs "vectorcove.frames" 1118) none (zr 787) zn 0), ⟨[]⟩⟩, ⟨(.type "tuple"), none, (.seq ⟨[]⟩ 0), ⟨[]⟩⟩, ⟨zn, none, (.fields ⟨[]⟩), ⟨[]⟩⟩, ⟨(.type "tuple"), none, (.seq ⟨[(zs "labels" 1233), (zs "rows" 1234), (zs "seen" 1235), (zs "item" 1236)]⟩ 0), ⟨[]⟩⟩, ⟨(.type "tuple"), none, (.seq ⟨[]⟩ 0), ⟨[]⟩⟩, ⟨zn, none, (zf0 "check_row_labels" "check_row_labels" (stm 116)), ⟨[]⟩⟩, ⟨(.type "code"), none, (.fields ⟨[(zs "check_row_labels" 1230), (zs "check_row_labels" 1231), (zs "/claim/cut.py" 1232), (zi (762) 0), (zi (2) 0), (zi (0) 0), (zi (0) 0), (zi (3) 0), (zr 789), (.bool true), (zi (181) 0), (zr 790), zn, (zr 791), (zr 792), (zr 793), (zi (1237) 0), (zi (762) 0), (zs "/claim/cut.py" 1238)]⟩), ⟨[]⟩⟩, ⟨(.type "function"), none, (zf "check_row_labels" "check_row_labels" (stm 116) 3 [] zn zn zn (zs "vectorcove.frames" 1118) none (zr 794) zn 0), ⟨[]⟩⟩, ⟨(.type "tuple"), none, (.seq ⟨[]⟩ 0), ⟨[]⟩⟩, ⟨zn, none, (.fields ⟨[]⟩), ⟨[]⟩⟩, ⟨zn, none, (zf0 "picked_labels" "picked_labels" (stm 117)), ⟨[]⟩⟩, ⟨(.type "code"), none, (.fields ⟨[(zs "picked_labels" 1240), (zs "picked_labels" 1241), (zs "/claim/cut.py" 1242), (zi (772) 0), (zi (2) 0), (zi (0) 0), (zi (0) 0), (zi (3) 0), (zr 796), (.bool true), (zi (181) 0), (zr 797), zn, zn, zn, (zr 798), (zi (1243) 0), (zi (772) 0), (zs "/claim/cut.py" 1244)]⟩), ⟨[]⟩⟩, ⟨(.type "function"), none, (zf "picked_labels" "picked_labels" (stm 117) 3 [] zn zn zn (zs "vectorcove.frames" 1118) none (zr 799) zn 0), ⟨[]⟩⟩, ⟨(.type "tuple"), none, (.seq ⟨[]⟩ 0), ⟨[]⟩⟩, ⟨zn, none, (.fields ⟨[]⟩), ⟨[]⟩⟩, ⟨zn, none, (zf0 "pick_rows" "pick_rows" (stm 118)), ⟨[]⟩⟩, ⟨(.type "code"), none, (.fields ⟨[(zs "pick_rows" 1246), (zs "pick_rows" 1247), (zs "/claim/cut.py" 1248), (zi (788) 0), (zi (2) 0), (zi (0) 0), (zi (0) 0), (zi (3) 0), (zr 801), (.bool true), (zi (181) 0), (zr 802), zn, zn, zn, (zr 803), (zi (1249) 0), (zi (788) 0), (zs "/claim/cut.py" 1250)]⟩), ⟨[]⟩⟩, ⟨(.type "function"), none, (zf "pick_rows" "pick_rows" (stm 118) 3 [] zn zn zn (zs "vectorcove.frames" 1118) none (zr 804) zn 0), ⟨[]⟩⟩, ⟨(.type "tuple"), none, (.seq ⟨[]⟩ 0), ⟨[]⟩⟩, ⟨zn, none, (.fields ⟨[]⟩), ⟨[]⟩⟩, ⟨(.type "tuple"), none, (.seq ⟨[(zs "kind" 1257), (zs "item" 1258)]⟩ 0), ⟨[]⟩⟩, ⟨(.type "tuple"), none, (.seq ⟨[]⟩ 0), ⟨[]⟩⟩, ⟨zn, none, (zf0 "is_lacking" "is_lacking" (stm 120)), ⟨[]⟩⟩, ⟨(.type "code"), none, (.fields ⟨[(zs "is_lacking" 1254), (zs "is_lacking" 1255), (zs "/claim/cut.py" 1256), (zi (792) 0), (zi (2) 0), (zi (0) 0), (zi (0) 0), (zi (3) 0), (zr 806), (.bool true), (zi (181) 0), (zr 807), zn, (zr 808), (zr 809), (zr 810), (zi (1259) 0), (zi (792) 0), (zs "/claim/cut.py" 1260)]⟩), ⟨[]⟩⟩, ⟨(.type "function"), none, (zf "is_lacking" "is_lacking" (stm 120) 3 [] zn zn zn (zs "vectorcove.sorting" 1252) none (zr 811) zn 0), ⟨[]⟩⟩] 730 (((zT11 P).set 3 (zd [(0, ent P "__name__" 165 (zs "vectorcove.joins" 1262))] [ent P "column_names" 1154 (zr 734), ent P "row_names" 1161 (zr 741), ent P "kept_attrs" 1170 (zr 748), ent P "lacking" 1177 (zr 755), ent P "pick_items" 1188 (zr 762), ent P "differing_lengths" 1198 (zr 769), ent P "recycled_columns" 1204 (zr 774), ent P "names_as_rows" 1216 (zr 781), ent P "make_frame" 1229 (zr 788), ent P "check_row_labels" 1239 (zr 795), ent P "picked_labels" 1245 (zr 800), ent P "pick_rows" 1251 (zr 805), ent P "is_lacking" 1261 (zr 812)] 117)).set 12 (zp [(zi (694) 0), (zi (0) 0), (zr 733), (zi (697) 0), (zi (0) 0), (zr 740), (zi (701) 0), (zi (0) 0), (zr 747), (zi (709) 0), (zi (0) 0), (zr 754), (zi (713) 0), (zi (0) 0), (zr 761), (zi (722) 0), (zi (0) 0), (zr 768), (zi (729) 0), (zi (0) 0), (zr 773), (zi (740) 0), (zi (0) 0), (zr 780), (zi (750) 0), (zi (0) 0), (zr 787), (zi (762) 0), (zi (0) 0), (zr 794), (zi (772) 0), (zi (0) 0), (zr 799), (zi (788) 0), (zi (0) 0), (zr 804), (zi (792) 0), (zi (0) 0), (zr 811)]))
noncomputable def zS12 (P : Params) (os : OsState) : SharedT := zST (zT12 P) 813 1264 os
noncomputable def zl12 : List Stmt := [stm 107, stm 108, stm 109, stm 110, stm 111, stm 112, stm 113, stm 114, stm 115, stm 116, stm 117, stm 118, stm 119, stm 120, stm 121]
noncomputable def zT13 (P : Params) : BT := insL [⟨(.type "tuple"), none, (.seq ⟨[]⟩ 0), ⟨[]⟩⟩, ⟨zn, none, (.fields ⟨[]⟩), ⟨[]⟩⟩, ⟨(.type "tuple"), none, (.seq ⟨[(zs "df" 1267), (zs "flags" 1268), (zs "column" 1269), (zs "place" 1270)]⟩ 0), ⟨[]⟩⟩, ⟨(.type "tuple"), none, (.seq ⟨[]⟩ 0), ⟨[]⟩⟩, ⟨zn, none, (zf0 "complete_rows" "complete_rows" (stm 122)), ⟨[]⟩⟩, ⟨(.type "code"), none, (.fields ⟨[(zs "complete_rows" 1264), (zs "complete_rows" 1265), (zs "/claim/cut.py" 1266), (zi (795) 0), (zi (1) 0), (zi (0) 0), (zi (0) 0), (zi (3) 0), (zr 813), (.bool true), (zi (181) 0), (zr 814), zn, (zr 815), (zr 816), (zr 817), (zi (1271) 0), (zi (795) 0), (zs "/claim/cut.py" 1272)]⟩), ⟨[]⟩⟩, ⟨(.type "function"), none, (zf "complete_rows" "complete_rows" (stm 122) 3 [] zn zn zn (zs "vectorcove.joins" 1262) none (zr 818) zn 0), ⟨[]⟩⟩, ⟨(.type "tuple"), none, (.seq ⟨[]⟩ 0), ⟨[]⟩⟩, ⟨zn, none, (.fields ⟨[]⟩), ⟨[]⟩⟩, ⟨zn, none, (zf0 "grid_factor" "grid_factor" (stm 124)), ⟨[]⟩⟩, ⟨(.type "code"), none, (.fields ⟨[(zs "grid_factor" 1276), (zs "grid_factor" 1277), (zs "/claim/cut.py" 1278), (zi (803) 0), (zi (1) 0), (zi (0) 0), (zi (0) 0), (zi (3) 0), (zr 820), (.bool true), (zi (181) 0), (zr 821), zn, zn, zn, (zr 822), (zi (1279) 0), (zi (803) 0), (zs "/claim/cut.py" 1280)]⟩), ⟨[]⟩⟩, ⟨(.type "function"), none, (zf "grid_factor" "grid_factor" (stm 124) 3 [] zn zn zn (zs "vectorcove.frameverbs" 1274) none (zr 823) zn 0), ⟨[]⟩⟩, ⟨(.type "tuple"), none, (.seq ⟨[]⟩ 0), ⟨[]⟩⟩, ⟨zn, none, (.fields ⟨[]⟩), ⟨[]⟩⟩, ⟨zn, none, (zf0 "b_expand_grid" "b_expand_grid" (stm 125)), ⟨[]⟩⟩, ⟨(.type "code"), none, (.fields ⟨[(zs "b_expand_grid" 1282), (zs "b_expand_grid" 1283), (zs "/claim/cut.py" 1284), (zi (809) 0), (zi (3) 0), (zi (0) 0), (zi (0) 0), (zi (3) 0), (zr 825), (.bool true), (zi (181) 0), (zr 826), zn, zn, zn, (zr 827), (zi (1285) 0), (zi (809) 0), (zs "/claim/cut.py" 1286)]⟩), ⟨[]⟩⟩, ⟨(.type "function"), none, (zf "b_expand_grid" "b_expand_grid" (stm 125) 3 [] zn zn zn (zs "vectorcove.frameverbs" 1274) none (zr 828) zn 0), ⟨[]⟩⟩, ⟨(.type "tuple"), none, (.seq ⟨[]⟩ 0), ⟨[]⟩⟩, ⟨zn, none, (.fields ⟨[]⟩), ⟨[]⟩⟩, ⟨zn, none, (zf0 "b_complete_cases" "b_complete_cases" (stm 126)), ⟨[]⟩⟩, ⟨(.type "code"), none, (.fields ⟨[(zs "b_complete_cases" 1288), (zs "b_complete_cases" 1289), (zs "/claim/cut.py" 1290), (zi (836) 0), (zi (3) 0), (zi (0) 0), (zi (0) 0), (zi (3) 0), (zr 830), (.bool true), (zi (181) 0), (zr 831), zn, zn, zn, (zr 832), (zi (1291) 0), (zi (836) 0), (zs "/claim/cut.py" 1292)]⟩), ⟨[]⟩⟩, ⟨(.type "function"), none, (zf "b_complete_cases" "b_complete_cases" (stm 126) 3 [] zn zn zn (zs "vectorcove.frameverbs" 1274) none (zr 833) zn 0), ⟨[]⟩⟩, ⟨(.type "tuple"), none, (.seq ⟨[]⟩ 0), ⟨[]⟩⟩, ⟨zn, none, (.fields ⟨[]⟩), ⟨[]⟩⟩, ⟨zn, none, (zf0 "omitted" "omitted" (stm 127)), ⟨[]⟩⟩, ⟨(.type "code"), none, (.fields ⟨[(zs "omitted" 1294), (zs "omitted" 1295), (zs "/claim/cut.py" 1296), (zi (849) 0), (zi (2) 0), (zi (0) 0), (zi (0) 0), (zi (3) 0), (zr 835), (.bool true), (zi (181) 0), (zr 836), zn, zn, zn, (zr 837), (zi (1297) 0), (zi (849) 0), (zs "/claim/cut.py" 1298)]⟩), ⟨[]⟩⟩, ⟨(.type "function"), none, (zf "omitted" "omitted" (stm 127) 3 [] zn zn zn (zs "vectorcove.frameverbs" 1274) none (zr 838) zn 0), ⟨[]⟩⟩, ⟨(.type "tuple"), none, (.seq ⟨[]⟩ 0), ⟨[]⟩⟩, ⟨zn, none, (.fields ⟨[]⟩), ⟨[]⟩⟩, ⟨zn, none, (zf0 "b_na_omit" "b_na_omit" (stm 128)), ⟨[]⟩⟩, ⟨(.type "code"), none, (.fields ⟨[(zs "b_na_omit" 1300), (zs "b_na_omit" 1301), (zs "/claim/cut.py" 1302), (zi (856) 0), (zi (3) 0), (zi (0) 0), (zi (0) 0), (zi (3) 0), (zr 840), (.bool true), (zi (181) 0), (zr 841), zn, zn, zn, (zr 842), (zi (1303) 0), (zi (856) 0), (zs "/claim/cut.py" 1304)]⟩), ⟨[]⟩⟩, ⟨(.type "function"), none, (zf "b_na_omit" "b_na_omit" (stm 128) 3 [] zn zn zn (zs "vectorcove.frameverbs" 1274) none (zr 843) zn 0), ⟨[]⟩⟩, ⟨(.type "tuple"), none, (.seq ⟨[]⟩ 0), ⟨[]⟩⟩, ⟨zn, none, (.fields ⟨[]⟩), ⟨[]⟩⟩, ⟨(.type "tuple"), none, (.seq ⟨[(zs "script" 1311), (zs "row" 1312), (zs "cell" 1313), (zs "rest" 1314), (zs "lap" 1315), (zs "seed" 1316)]⟩ 0), ⟨[]⟩⟩, ⟨(.type "tuple"), none, (.seq ⟨[]⟩ 0), ⟨[]⟩⟩, ⟨zn, none, (zf0 "_law_draws" "_law_draws" (stm 130)), ⟨[]⟩⟩, ⟨(.type "code"), none, (.fields ⟨[(zs "_law_draws" 1308), (zs "_law_draws" 1309), (zs "/claim/cut.py" 1310), (zi (879) 0), (zi (1) 0), (zi (0) 0), (zi (0) 0), (zi (3) 0), (zr 845), (.bool true), (zi (181) 0), (zr 846), zn, (zr 847), (zr 848), (zr 849), (zi (1317) 0), (zi (879) 0), (zs "/claim/cut.py" 1318)]⟩), ⟨[]⟩⟩, ⟨(.type "function"), none, (zf "_law_draws" "_law_draws" (stm 130) 3 [] zn zn zn (zs "law_nz0538_01" 1306) none (zr 850) zn 0), ⟨[]⟩⟩, ⟨(.type "tuple"), none, (.seq ⟨[]⟩ 0), ⟨[]⟩⟩, ⟨zn, none, (.fields ⟨[]⟩), ⟨[]⟩⟩, ⟨(.type "tuple"), none, (.seq ⟨[(zs "state" 1323), (zs "bound" 1324)]⟩ 0), ⟨[]⟩⟩, ⟨(.type "tuple"), none, (.seq ⟨[]⟩ 0), ⟨[]⟩⟩, ⟨zn, none, (zf0 "_law_take" "_law_take" (stm 131)), ⟨[]⟩⟩, ⟨(.type "code"), none, (.fields ⟨[(zs "_law_take" 1320), (zs "_law_take" 1321), (zs "/claim/cut.py" 1322), (zi (894) 0), (zi (2) 0), (zi (0) 0), (zi (0) 0), (zi (3) 0), (zr 852), (.bool true), (zi (181) 0), (zr 853), zn, (zr 854), (zr 855), (zr 856), (zi (1325) 0), (zi (894) 0), (zs "/claim/cut.py" 1326)]⟩), ⟨[]⟩⟩, ⟨(.type "function"), none, (zf "_law_take" "_law_take" (stm 131) 3 [] zn zn zn (zs "law_nz0538_01" 1306) none (zr 857) zn 0), ⟨[]⟩⟩, ⟨(.type "tuple"), none, (.seq ⟨[]⟩ 0), ⟨[]⟩⟩, ⟨zn, none, (.fields ⟨[]⟩), ⟨[]⟩⟩, ⟨zn, none, (zf0 "_law_item" "_law_item" (stm 132)), ⟨[]⟩⟩, ⟨(.type "code"), none, (.fields ⟨[(zs "_law_item" 1328), (zs "_law_item" 1329), (zs "/claim/cut.py" 1330), (zi (900) 0), (zi (3) 0), (zi (0) 0), (zi (0) 0), (zi (3) 0), (zr 859), (.bool true), (zi (181) 0), (zr 860), zn, zn, zn, (zr 861), (zi (1331) 0), (zi (900) 0), (zs "/claim/cut.py" 1332)]⟩), ⟨[]⟩⟩, ⟨(.type "function"), none, (zf "_law_item" "_law_item" (stm 132) 3 [] zn zn zn (zs "law_nz0538_01" 1306) none (zr 862) zn 0), ⟨[]⟩⟩, ⟨(.type "tuple"), none, (.seq ⟨[]⟩ 0), ⟨[]⟩⟩, ⟨zn, none, (.fields ⟨[]⟩), ⟨[]⟩⟩, ⟨zn, none, (zf0 "_law_vector" "_law_vector" (stm 133)), ⟨[]⟩⟩, ⟨(.type "code"), none, (.fields ⟨[(zs "_law_vector" 1334), (zs "_law_vector" 1335), (zs "/claim/cut.py" 1336), (zi (912) 0), (zi (3) 0), (zi (0) 0), (zi (0) 0), (zi (3) 0), (zr 864), (.bool true), (zi (181) 0), (zr 865), zn, zn, zn, (zr 866), (zi (1337) 0), (zi (912) 0), (zs "/claim/cut.py" 1338)]⟩), ⟨[]⟩⟩, ⟨(.type "function"), none, (zf "_law_vector" "_law_vector" (stm 133) 3 [] zn zn zn (zs "law_nz0538_01" 1306) none (zr 867) zn 0), ⟨[]⟩⟩, ⟨(.type "tuple"), none, (.seq ⟨[]⟩ 0), ⟨[]⟩⟩, ⟨zn, none, (.fields ⟨[]⟩), ⟨[]⟩⟩, ⟨(.type "tuple"), none, (.seq ⟨[(zs "kind" 1343), (zs "item" 1344)]⟩ 0), ⟨[]⟩⟩, ⟨(.type "tuple"), none, (.seq ⟨[]⟩ 0), ⟨[]⟩⟩, ⟨zn, none, (zf0 "_law_lacks" "_law_lacks" (stm 134)), ⟨[]⟩⟩, ⟨(.type "code"), none, (.fields ⟨[(zs "_law_lacks" 1340), (zs "_law_lacks" 1341), (zs "/claim/cut.py" 1342), (zi (915) 0), (zi (2) 0), (zi (0) 0), (zi (0) 0), (zi (3) 0), (zr 869), (.bool true), (zi (181) 0), (zr 870), zn, (zr 871), (zr 872), (zr 873), (zi (1345) 0), (zi (915) 0), (zs "/claim/cut.py" 1346)]⟩), ⟨[]⟩⟩, ⟨(.type "function"), none, (zf "_law_lacks" "_law_lacks" (stm 134) 3 [] zn zn zn (zs "law_nz0538_01" 1306) none (zr 874) zn 0), ⟨[]⟩⟩, ⟨(.type "tuple"), none, (.seq ⟨[]⟩ 0), ⟨[]⟩⟩, ⟨zn, none, (.fields ⟨[]⟩), ⟨[]⟩⟩, ⟨zn, none, (zf0 "_law_texts_of" "_law_texts_of" (stm 135)), ⟨[]⟩⟩, ⟨(.type "code"), none, (.fields ⟨[(zs "_law_texts_of" 1348), (zs "_law_texts_of" 1349), (zs "/claim/cut.py" 1350), (zi (917) 0), (zi (1) 0), (zi (0) 0), (zi (0) 0), (zi (3) 0), (zr 876), (.bool true), (zi (181) 0), (zr 877), zn, zn, zn, (zr 878), (zi (1351) 0), (zi (917) 0), (zs "/claim/cut.py" 1352)]⟩), ⟨[]⟩⟩, ⟨(.type "function"), none, (zf "_law_texts_of" "_law_texts_of" (stm 135) 3 [] zn zn zn (zs "law_nz0538_01" 1306) none (zr 879) zn 0), ⟨[]⟩⟩, ⟨(.type "tuple"), none, (.seq ⟨[]⟩ 0), ⟨[]⟩⟩, ⟨zn, none, (.fields ⟨[]⟩), ⟨[]⟩⟩, ⟨(.type "tuple"), none, (.seq ⟨[(zs "choices" 1357), (zs "rows" 1358), (zs "items" 1359), (zs "longer" 1360), (zs "item" 1361), (zs "row" 1362)]⟩ 0), ⟨[]⟩⟩, ⟨(.type "tuple"), none, (.seq ⟨[]⟩ 0), ⟨[]⟩⟩, ⟨zn, none, (zf0 "_law_rows" "_law_rows" (stm 136)), ⟨[]⟩⟩, ⟨(.type "code"), none, (.fields ⟨[(zs "_law_rows" 1354), (zs "_law_rows" 1355), (zs "/claim/cut.py" 1356), (zi (922) 0), (zi (1) 0), (zi (0) 0), (zi (0) 0), (zi (3) 0), (zr 881), (.bool true), (zi (181) 0), (zr 882), zn, (zr 883), (zr 884), (zr 885), (zi (1363) 0), (zi (922) 0), (zs "/claim/cut.py" 1364)]⟩), ⟨[]⟩⟩, ⟨(.type "function"), none, (zf "_law_rows" "_law_rows" (stm 136) 3 [] zn zn zn (zs "law_nz0538_01" 1306) none (zr 886) zn 0), ⟨[]⟩⟩, ⟨(.type "tuple"), none, (.seq ⟨[]⟩ 0), ⟨[]⟩⟩, ⟨zn, none, (.fields ⟨[]⟩), ⟨[]⟩⟩, ⟨zn, none, (zf0 "_law_grid_right" "_law_grid_right" (stm 137)), ⟨[]⟩⟩, ⟨(.type "code"), none, (.fields ⟨[(zs "_law_grid_right" 1366), (zs "_law_grid_right" 1367), (zs "/claim/cut.py" 1368), (zi (931) 0), (zi (2) 0), (zi (0) 0), (zi (0) 0), (zi (3) 0), (zr 888), (.bool true), (zi (181) 0), (zr 889), zn, zn, zn, (zr 890), (zi (1369) 0), (zi (931) 0), (zs "/claim/cut.py" 1370)]⟩), ⟨[]⟩⟩, ⟨(.type "function"), none, (zf "_law_grid_right" "_law_grid_right" (stm 137) 3 [] zn zn zn (zs "law_nz0538_01" 1306) none (zr 891) zn 0), ⟨[]⟩⟩] 813 (((zT12 P).set 3 (zd [(0, ent P "__name__" 165 (zs "law_nz0538_01" 1306))] [ent P "complete_rows" 1273 (zr 819), ent P "grid_factor" 1281 (zr 824), ent P "b_expand_grid" 1287 (zr 829), ent P "b_complete_cases" 1293 (zr 834), ent P "omitted" 1299 (zr 839), ent P "b_na_omit" 1305 (zr 844), ent P "_law_draws" 1319 (zr 851), ent P "_law_take" 1327 (zr 858), ent P "_law_item" 1333 (zr 863), ent P "_law_vector" 1339 (zr 868), ent P "_law_lacks" 1347 (zr 875), ent P "_law_texts_of" 1353 (zr 880), ent P "_law_rows" 1365 (zr 887), ent P "_law_grid_right" 1371 (zr 892)] 131)).set 12 (zp [(zi (795) 0), (zi (0) 0), (zr 818), (zi (803) 0), (zi (0) 0), (zr 823), (zi (809) 0), (zi (0) 0), (zr 828), (zi (836) 0), (zi (0) 0), (zr 833), (zi (849) 0), (zi (0) 0), (zr 838), (zi (856) 0), (zi (0) 0), (zr 843), (zi (879) 0), (zi (0) 0), (zr 850), (zi (894) 0), (zi (0) 0), (zr 857), (zi (900) 0), (zi (0) 0), (zr 862), (zi (912) 0), (zi (0) 0), (zr 867), (zi (915) 0), (zi (0) 0), (zr 874), (zi (917) 0), (zi (0) 0), (zr 879), (zi (922) 0), (zi (0) 0), (zr 886), (zi (931) 0), (zi (0) 0), (zr 891)]))
noncomputable def zS13 (P : Params) (os : OsState) : SharedT := zST (zT13 P) 893 1372 os
noncomputable def zl13 : List Stmt := [stm 122, stm 123, stm 124, stm 125, stm 126, stm 127, stm 128, stm 129, stm 130, stm 131, stm 132, stm 133, stm 134, stm 135, stm 136, stm 137]
noncomputable def zT14 (P : Params) : BT := insL [⟨(.type "tuple"), none, (.seq ⟨[]⟩ 0), ⟨[]⟩⟩, ⟨zn, none, (.fields ⟨[]⟩), ⟨[]⟩⟩, ⟨zn, none, (zf0 "_law_columns" "_law_columns" (stm 138)), ⟨[]⟩⟩, ⟨(.type "code"), none, (.fields ⟨[(zs "_law_columns" 1372), (zs "_law_columns" 1373), (zs "/claim/cut.py" 1374), (zi (960) 0), (zi (2) 0), (zi (0) 0), (zi (0) 0), (zi (3) 0), (zr 893), (.bool true), (zi (181) 0), (zr 894), zn, zn, zn, (zr 895), (zi (1375) 0), (zi (960) 0), (zs "/claim/cut.py" 1376)]⟩), ⟨[]⟩⟩, ⟨(.type "function"), none, (zf "_law_columns" "_law_columns" (stm 138) 3 [] zn zn zn (zs "law_nz0538_01" 1306) none (zr 896) zn 0), ⟨[]⟩⟩, ⟨(.type "tuple"), none, (.seq ⟨[]⟩ 0), ⟨[]⟩⟩, ⟨zn, none, (.fields ⟨[]⟩), ⟨[]⟩⟩, ⟨zn, none, (zf0 "_law_note_right" "_law_note_right" (stm 139)), ⟨[]⟩⟩, ⟨(.type "code"), none, (.fields ⟨[(zs "_law_note_right" 1378), (zs "_law_note_right" 1379), (zs "/claim/cut.py" 1380), (zi (971) 0), (zi (3) 0), (zi (0) 0), (zi (0) 0), (zi (3) 0), (zr 898), (.bool true), (zi (181) 0), (zr 899), zn, zn, zn, (zr 900), (zi (1381) 0), (zi (971) 0), (zs "/claim/cut.py" 1382)]⟩), ⟨[]⟩⟩, ⟨(.type "function"), none, (zf "_law_note_right" "_law_note_right" (stm 139) 3 [] zn zn zn (zs "law_nz0538_01" 1306) none (zr 901) zn 0), ⟨[]⟩⟩, ⟨(.type "tuple"), none, (.seq ⟨[]⟩ 0), ⟨[]⟩⟩, ⟨zn, none, (.fields ⟨[]⟩), ⟨[]⟩⟩, ⟨zn, none, (zf0 "_law_omit_right" "_law_omit_right" (stm 140)), ⟨[]⟩⟩, ⟨(.type "code"), none, (.fields ⟨[(zs "_law_omit_right" 1384), (zs "_law_omit_right" 1385), (zs "/claim/cut.py" 1386), (zi (978) 0), (zi (4) 0), (zi (0) 0), (zi (0) 0), (zi (3) 0), (zr 903), (.bool true), (zi (181) 0), (zr 904), zn, zn, zn, (zr 905), (zi (1387) 0), (zi (978) 0), (zs "/claim/cut.py" 1388)]⟩), ⟨[]⟩⟩, ⟨(.type "function"), none, (zf "_law_omit_right" "_law_omit_right" (stm 140) 3 [] zn zn zn (zs "law_nz0538_01" 1306) none (zr 906) zn 0), ⟨[]⟩⟩, ⟨(.type "tuple"), none, (.seq ⟨[]⟩ 0), ⟨[]⟩⟩, ⟨zn, none, (.fields ⟨[]⟩), ⟨[]⟩⟩, ⟨zn, none, (zf0 "_law_vector_right" "_law_vector_right" (stm 141)), ⟨[]⟩⟩, ⟨(.type "code"), none, (.fields ⟨[(zs "_law_vector_right" 1390), (zs "_law_vector_right" 1391), (zs "/claim/cut.py" 1392), (zi (998) 0), (zi (2) 0), (zi (0) 0), (zi (0) 0), (zi (3) 0), (zr 908), (.bool true), (zi (181) 0), (zr 909), zn, zn, zn, (zr 910), (zi (1393) 0), (zi (998) 0), (zs "/claim/cut.py" 1394)]⟩), ⟨[]⟩⟩, ⟨(.type "function"), none, (zf "_law_vector_right" "_law_vector_right" (stm 141) 3 [] zn zn zn (zs "law_nz0538_01" 1306) none (zr 911) zn 0), ⟨[]⟩⟩, ⟨(.type "tuple"), none, (.seq ⟨[]⟩ 0), ⟨[]⟩⟩, ⟨zn, none, (.fields ⟨[]⟩), ⟨[]⟩⟩, ⟨zn, none, (zf0 "law" "law" (stm 142)), ⟨[]⟩⟩, ⟨(.type "code"), none, (.fields ⟨[(zs "law" 1396), (zs "law" 1397), (zs "/claim/cut.py" 1398), (zi (1016) 0), (zi (1) 0), (zi (0) 0), (zi (0) 0), (zi (3) 0), (zr 913), (.bool true), (zi (181) 0), (zr 914), zn, zn, zn, (zr 915), (zi (1399) 0), (zi (1016) 0), (zs "/claim/cut.py" 1400)]⟩), ⟨[]⟩⟩, ⟨(.type "function"), none, (zf "law" "law" (stm 142) 3 [] zn zn zn (zs "law_nz0538_01" 1306) none (zr 916) zn 0), ⟨[]⟩⟩] 893 (((zT13 P).set 3 (zd [] [ent P "_law_columns" 1377 (zr 897), ent P "_law_note_right" 1383 (zr 902), ent P "_law_omit_right" 1389 (zr 907), ent P "_law_vector_right" 1395 (zr 912), ent P "law" 1401 (zr 917)] 136)).set 12 (zp [(zi (960) 0), (zi (0) 0), (zr 896), (zi (971) 0), (zi (0) 0), (zr 901), (zi (978) 0), (zi (0) 0), (zr 906), (zi (998) 0), (zi (0) 0), (zr 911), (zi (1016) 0), (zi (0) 0), (zr 916)]))
noncomputable def zS14 (P : Params) (os : OsState) : SharedT := zST (zT14 P) 918 1402 os
noncomputable def zl14 : List Stmt := [stm 138, stm 139, stm 140, stm 141, stm 142]
-- GROUPS [(1, (396, (⟨0, 0, 0, 0⟩, (⟨58, 0, 68, 23⟩, 15)))), (2, (416, (⟨58, 0, 68, 23⟩, (⟨156, 0, 159, 13⟩, 95)))), (3, (343, (⟨156, 0, 159, 13⟩, (⟨230, 0, 231, 8⟩, 185)))), (4, (264, (⟨230, 0, 231, 8⟩, (⟨237, 0, 237, 11⟩, 226)))), (5, (223, (⟨237, 0, 237, 11⟩, (⟨238, 0, 242, 25⟩, 245)))), (6, (406, (⟨238, 0, 242, 25⟩, (⟨264, 0, 267, 45⟩, 266)))), (7, (364, (⟨264, 0, 267, 45⟩, (⟨341, 0, 341, 8⟩, 330)))), (8, (419, (⟨341, 0, 341, 8⟩, (⟨342, 0, 394, 82⟩, 408)))), (9, (415, (⟨342, 0, 394, 82⟩, (⟨502, 0, 502, 8⟩, 469)))), (10, (414, (⟨502, 0, 502, 8⟩, (⟨586, 0, 593, 32⟩, 556)))), (11, (416, (⟨586, 0, 593, 32⟩, (⟨690, 0, 693, 43⟩, 645)))), (12, (408, (⟨690, 0, 693, 43⟩, (⟨794, 0, 794, 8⟩, 730)))), (13, (413, (⟨794, 0, 794, 8⟩, (⟨931, 0, 959, 15⟩, 813)))), (14, (131, (⟨931, 0, 959, 15⟩, (⟨1016, 0, 1029, 84⟩, 893))))]
noncomputable def zenv : Env := { scope := pw.main.scope, locals := mainNs, globals := mainNs, cells := [], code := zcode, frame := some zframe }
noncomputable def zcE : Code := .body (behindTheImports pw) zenv
theorem zg1 (w : World) : (fun os => segRunT treeTable pw w zm0 zann 1 396 (zS0 w.params os) (piecesOf zl1 zenv zcE ⟨0, 0, 0, 0⟩ [topFrame zq])) = fun os => some (.next, zS1 w.params os, zcE, ⟨58, 0, 68, 23⟩) := by kernel_rfl
theorem zg2 (w : World) : (fun os => segRunT treeTable pw w zm0 zann 1 416 (zS1 w.params os) (piecesOf zl2 zenv zcE ⟨58, 0, 68, 23⟩ [topFrame zq])) = fun os => some (.next, zS2 w.params os, zcE, ⟨156, 0, 159, 13⟩) := by kernel_rfl
theorem zg3 (w : World) : (fun os => segRunT treeTable pw w zm0 zann 1 343 (zS2 w.params os) (piecesOf zl3 zenv zcE ⟨156, 0, 159, 13⟩ [topFrame zq])) = fun os => some (.next, zS3 w.params os, zcE, ⟨230, 0, 231, 8⟩) := by kernel_rfl
theorem zg4 (w : World) : (fun os => segRunT treeTable pw w zm0 zann 1 264 (zS3 w.params os) (piecesOf zl4 zenv zcE ⟨230, 0, 231, 8⟩ [topFrame zq])) = fun os => some (.next, zS4 w.params os, zcE, ⟨237, 0, 237, 11⟩) := by kernel_rfl
theorem zg5 (w : World) : (fun os => segRunT treeTable pw w zm0 zann 1 223 (zS4 w.params os) (piecesOf zl5 zenv zcE ⟨237, 0, 237, 11⟩ [topFrame zq])) = fun os => some (.next, zS5 w.params os, zcE, ⟨238, 0, 242, 25⟩) := by kernel_rfl
theorem zg6 (w : World) : (fun os => segRunT treeTable pw w zm0 zann 1 406 (zS5 w.params os) (piecesOf zl6 zenv zcE ⟨238, 0, 242, 25⟩ [topFrame zq])) = fun os => some (.next, zS6 w.params os, zcE, ⟨264, 0, 267, 45⟩) := by kernel_rfl
theorem zg7 (w : World) : (fun os => segRunT treeTable pw w zm0 zann 1 364 (zS6 w.params os) (piecesOf zl7 zenv zcE ⟨264, 0, 267, 45⟩ [topFrame zq])) = fun os => some (.next, zS7 w.params os, zcE, ⟨341, 0, 341, 8⟩) := by kernel_rfl
theorem zg8 (w : World) : (fun os => segRunT treeTable pw w zm0 zann 1 419 (zS7 w.params os) (piecesOf zl8 zenv zcE ⟨341, 0, 341, 8⟩ [topFrame zq])) = fun os => some (.next, zS8 w.params os, zcE, ⟨342, 0, 394, 82⟩) := by kernel_rfl
theorem zg9 (w : World) : (fun os => segRunT treeTable pw w zm0 zann 1 415 (zS8 w.params os) (piecesOf zl9 zenv zcE ⟨342, 0, 394, 82⟩ [topFrame zq])) = fun os => some (.next, zS9 w.params os, zcE, ⟨502, 0, 502, 8⟩) := by kernel_rfl
theorem zg10 (w : World) : (fun os => segRunT treeTable pw w zm0 zann 1 414 (zS9 w.params os) (piecesOf zl10 zenv zcE ⟨502, 0, 502, 8⟩ [topFrame zq])) = fun os => some (.next, zS10 w.params os, zcE, ⟨586, 0, 593, 32⟩) := by kernel_rfl
theorem zg11 (w : World) : (fun os => segRunT treeTable pw w zm0 zann 1 416 (zS10 w.params os) (piecesOf zl11 zenv zcE ⟨586, 0, 593, 32⟩ [topFrame zq])) = fun os => some (.next, zS11 w.params os, zcE, ⟨690, 0, 693, 43⟩) := by kernel_rfl
theorem zg12 (w : World) : (fun os => segRunT treeTable pw w zm0 zann 1 408 (zS11 w.params os) (piecesOf zl12 zenv zcE ⟨690, 0, 693, 43⟩ [topFrame zq])) = fun os => some (.next, zS12 w.params os, zcE, ⟨794, 0, 794, 8⟩) := by kernel_rfl
theorem zg13 (w : World) : (fun os => segRunT treeTable pw w zm0 zann 1 413 (zS12 w.params os) (piecesOf zl13 zenv zcE ⟨794, 0, 794, 8⟩ [topFrame zq])) = fun os => some (.next, zS13 w.params os, zcE, ⟨931, 0, 959, 15⟩) := by kernel_rfl
theorem zg14 (w : World) : (fun os => segRunT treeTable pw w zm0 zann 1 131 (zS13 w.params os) (piecesOf zl14 zenv zcE ⟨931, 0, 959, 15⟩ [topFrame zq])) = fun os => some (.next, zS14 w.params os, zcE, ⟨1016, 0, 1029, 84⟩) := by kernel_rfl
end -- H5
section -- H6
set_option maxRecDepth 1000000
set_option maxHeartbeats 0
open PySem.Calls
theorem zpre_ok (w : World) (os : OsState) : topGo treeTable pw w zm0 zann zpre ⟨boot_heap w.params, #[], boot_drawn, boot_toks, os⟩ (topStub pw) = some ((zS0 w.params os).abs, ⟨denote treeTable zcE, zcE, zp0, [topFrame zq]⟩) := by kernel_rfl
theorem zblock_ok (w : World) (os : OsState) : segRun treeTable pw w zm0 zann 1 1 (zS0 w.params os).abs (blockOf (behindTheImports pw) zenv zcE zp0 [topFrame zq]) = some (.next, (zS0 w.params os).abs, zcE, zpb) := by kernel_rfl
theorem zfin_ok (w : World) (os : OsState) : topRun treeTable pw w zm0 zann 2 (zS14 w.params os).abs ⟨doneF .next, zcE, ⟨1016, 0, 1029, 84⟩, [topFrame zq]⟩ = some (zS14 w.params os).abs := by kernel_rfl
theorem zbody : behindTheImports pw = zl1 ++ (zl2 ++ (zl3 ++ (zl4 ++ (zl5 ++ (zl6 ++ (zl7 ++ (zl8 ++ (zl9 ++ (zl10 ++ (zl11 ++ (zl12 ++ (zl13 ++ (zl14 ++ ([])))))))))))))) := by kernel_rfl
noncomputable def zH1 (P : Params) : Heap := absHeap (zT14 P) 918 zlife
noncomputable abbrev zK (w : World) (os : OsState) (n : Nat) (s : SharedT) (l : List Stmt) (p : Pos) : Prop := topRun treeTable pw w zm0 zann n s.abs (restOf l zenv zcE p [topFrame zq]) = some (zS14 w.params os).abs
theorem zk14 (w : World) (os : OsState) : zK w os (2) (zS14 w.params os) ([]) ⟨1016, 0, 1029, 84⟩ := piece_nil (zfin_ok w os)
theorem zk13 (w : World) (os : OsState) : zK w os (131 + (2)) (zS13 w.params os) (zl14 ++ ([])) ⟨931, 0, 959, 15⟩ := piece_app (segRun_of (congrFun (zg14 w) os)) (zk14 w os)
theorem zk12 (w : World) (os : OsState) : zK w os (413 + (131 + (2))) (zS12 w.params os) (zl13 ++ (zl14 ++ ([]))) ⟨794, 0, 794, 8⟩ := piece_app (segRun_of (congrFun (zg13 w) os)) (zk13 w os)
theorem zk11 (w : World) (os : OsState) : zK w os (408 + (413 + (131 + (2)))) (zS11 w.params os) (zl12 ++ (zl13 ++ (zl14 ++ ([])))) ⟨690, 0, 693, 43⟩ := piece_app (segRun_of (congrFun (zg12 w) os)) (zk12 w os)
theorem zk10 (w : World) (os : OsState) : zK w os (416 + (408 + (413 + (131 + (2))))) (zS10 w.params os) (zl11 ++ (zl12 ++ (zl13 ++ (zl14 ++ ([]))))) ⟨586, 0, 593, 32⟩ := piece_app (segRun_of (congrFun (zg11 w) os)) (zk11 w os)
theorem zk9 (w : World) (os : OsState) : zK w os (414 + (416 + (408 + (413 + (131 + (2)))))) (zS9 w.params os) (zl10 ++ (zl11 ++ (zl12 ++ (zl13 ++ (zl14 ++ ([])))))) ⟨502, 0, 502, 8⟩ := piece_app (segRun_of (congrFun (zg10 w) os)) (zk10 w os)
theorem zk8 (w : World) (os : OsState) : zK w os (415 + (414 + (416 + (408 + (413 + (131 + (2))))))) (zS8 w.params os) (zl9 ++ (zl10 ++ (zl11 ++ (zl12 ++ (zl13 ++ (zl14 ++ ([]))))))) ⟨342, 0, 394, 82⟩ := piece_app (segRun_of (congrFun (zg9 w) os)) (zk9 w os)
theorem zk7 (w : World) (os : OsState) : zK w os (419 + (415 + (414 + (416 + (408 + (413 + (131 + (2)))))))) (zS7 w.params os) (zl8 ++ (zl9 ++ (zl10 ++ (zl11 ++ (zl12 ++ (zl13 ++ (zl14 ++ ([])))))))) ⟨341, 0, 341, 8⟩ := piece_app (segRun_of (congrFun (zg8 w) os)) (zk8 w os)
theorem zk6 (w : World) (os : OsState) : zK w os (364 + (419 + (415 + (414 + (416 + (408 + (413 + (131 + (2))))))))) (zS6 w.params os) (zl7 ++ (zl8 ++ (zl9 ++ (zl10 ++ (zl11 ++ (zl12 ++ (zl13 ++ (zl14 ++ ([]))))))))) ⟨264, 0, 267, 45⟩ := piece_app (segRun_of (congrFun (zg7 w) os)) (zk7 w os)
theorem zk5 (w : World) (os : OsState) : zK w os (406 + (364 + (419 + (415 + (414 + (416 + (408 + (413 + (131 + (2)))))))))) (zS5 w.params os) (zl6 ++ (zl7 ++ (zl8 ++ (zl9 ++ (zl10 ++ (zl11 ++ (zl12 ++ (zl13 ++ (zl14 ++ ([])))))))))) ⟨238, 0, 242, 25⟩ := piece_app (segRun_of (congrFun (zg6 w) os)) (zk6 w os)
theorem zk4 (w : World) (os : OsState) : zK w os (223 + (406 + (364 + (419 + (415 + (414 + (416 + (408 + (413 + (131 + (2))))))))))) (zS4 w.params os) (zl5 ++ (zl6 ++ (zl7 ++ (zl8 ++ (zl9 ++ (zl10 ++ (zl11 ++ (zl12 ++ (zl13 ++ (zl14 ++ ([]))))))))))) ⟨237, 0, 237, 11⟩ := piece_app (segRun_of (congrFun (zg5 w) os)) (zk5 w os)
theorem zk3 (w : World) (os : OsState) : zK w os (264 + (223 + (406 + (364 + (419 + (415 + (414 + (416 + (408 + (413 + (131 + (2)))))))))))) (zS3 w.params os) (zl4 ++ (zl5 ++ (zl6 ++ (zl7 ++ (zl8 ++ (zl9 ++ (zl10 ++ (zl11 ++ (zl12 ++ (zl13 ++ (zl14 ++ ([])))))))))))) ⟨230, 0, 231, 8⟩ := piece_app (segRun_of (congrFun (zg4 w) os)) (zk4 w os)
theorem zk2 (w : World) (os : OsState) : zK w os (343 + (264 + (223 + (406 + (364 + (419 + (415 + (414 + (416 + (408 + (413 + (131 + (2))))))))))))) (zS2 w.params os) (zl3 ++ (zl4 ++ (zl5 ++ (zl6 ++ (zl7 ++ (zl8 ++ (zl9 ++ (zl10 ++ (zl11 ++ (zl12 ++ (zl13 ++ (zl14 ++ ([]))))))))))))) ⟨156, 0, 159, 13⟩ := piece_app (segRun_of (congrFun (zg3 w) os)) (zk3 w os)
theorem zk1 (w : World) (os : OsState) : zK w os (416 + (343 + (264 + (223 + (406 + (364 + (419 + (415 + (414 + (416 + (408 + (413 + (131 + (2)))))))))))))) (zS1 w.params os) (zl2 ++ (zl3 ++ (zl4 ++ (zl5 ++ (zl6 ++ (zl7 ++ (zl8 ++ (zl9 ++ (zl10 ++ (zl11 ++ (zl12 ++ (zl13 ++ (zl14 ++ ([])))))))))))))) ⟨58, 0, 68, 23⟩ := piece_app (segRun_of (congrFun (zg2 w) os)) (zk2 w os)
theorem zk0 (w : World) (os : OsState) : zK w os (396 + (416 + (343 + (264 + (223 + (406 + (364 + (419 + (415 + (414 + (416 + (408 + (413 + (131 + (2))))))))))))))) (zS0 w.params os) (zl1 ++ (zl2 ++ (zl3 ++ (zl4 ++ (zl5 ++ (zl6 ++ (zl7 ++ (zl8 ++ (zl9 ++ (zl10 ++ (zl11 ++ (zl12 ++ (zl13 ++ (zl14 ++ ([]))))))))))))))) ⟨0, 0, 0, 0⟩ := piece_app (segRun_of (congrFun (zg1 w) os)) (zk1 w os)
theorem zkb (w : World) (os : OsState) : zK w os (396 + (416 + (343 + (264 + (223 + (406 + (364 + (419 + (415 + (414 + (416 + (408 + (413 + (131 + (2))))))))))))))) (zS0 w.params os) (behindTheImports pw) zpb := Eq.mpr (congrArg (fun l => zK w os (396 + (416 + (343 + (264 + (223 + (406 + (364 + (419 + (415 + (414 + (416 + (408 + (413 + (131 + (2))))))))))))))) (zS0 w.params os) l zpb) zbody) (zk0 w os)
theorem zkc (w : World) (os : OsState) : topRun treeTable pw w zm0 zann (zpre + (1 + (396 + (416 + (343 + (264 + (223 + (406 + (364 + (419 + (415 + (414 + (416 + (408 + (413 + (131 + (2))))))))))))))))) ⟨boot_heap w.params, #[], boot_drawn, boot_toks, os⟩ (topStub pw) = some (zS14 w.params os).abs := go_top (zpre_ok w os) (piece_block (zblock_ok w os) (zkb w os))
theorem zend (w : World) (os : OsState) : (zS14 w.params os).abs = ⟨zH1 w.params, #[], boot_drawn, 1402, os⟩ := by kernel_rfl
theorem zrun (w : World) (os : OsState) : topRun treeTable pw w zm0 zann (zpre + (1 + (396 + (416 + (343 + (264 + (223 + (406 + (364 + (419 + (415 + (414 + (416 + (408 + (413 + (131 + (2))))))))))))))))) ⟨boot_heap w.params, #[], boot_drawn, boot_toks, os⟩ (topStub pw) = some ⟨zH1 w.params, #[], boot_drawn, 1402, os⟩ := (zkc w os).trans (congrArg some (zend w os))
theorem zsize (w : World) : ((boot_heap w.params).isNs mainGlobals && (#[] : Array GenState).size == 0, (boot_heap w.params).objs.size, (boot_heap w.params).nsMap mainGlobals "__annotations__") = (true, zm0, zann) := by kernel_rfl
theorem zlook1 (w : World) (os : OsState) : (staticsOk (importedModules pw.main.body) (boot_heap w.params) (zH1 w.params) && namesBound pw (zH1 w.params) && gensDone ⟨zH1 w.params, #[], boot_drawn, 1402, os⟩ && laidKept (boot_heap w.params) (zH1 w.params)) = true := by kernel_rfl
theorem zlook2 (w : World) (os : OsState) : openSeen q0 loose0 (importedModules pw.main.body) (fun _ => true) true ⟨zH1 w.params, #[], boot_drawn, 1402, os⟩ = openGood q0 loose0 := by kernel_rfl
theorem zlook3 (w : World) (os : OsState) : Yf ⟨zH1 w.params, #[], boot_drawn, 1402, os⟩ = Ya w := by kernel_rfl
theorem zopening : opening pw = plainProg pw.main.scope.names := by kernel_rfl
theorem zfence (s : Shared) : fenceModules? pw s = some s := by kernel_rfl
theorem zopen (w : World) : (fencedOpening treeTable pw w N0).map (fun s => (s.heap, s.gens, s.drawn, s.toks)) = some (boot_heap w.params, Array.mk [], boot_drawn, boot_toks) := boot_open zopening (by decide +kernel) zfence w
theorem left_ok : LeftO pw q0 loose0 (fun _ => true) Yf Ya N0 :=
  LeftO.of_pieces zopen zsize zrun (by decide +kernel) fun w => funext fun os => Prod.ext (zlook1 w os) (Prod.ext (zlook2 w os) (zlook3 w os))
end -- H6
section -- T0
set_option compiler.extract_closed false
/-! The tactic lines of this proof, kept as data: each row is a line's key and its tactic in reverse order, printed by a program from the plain lines (a local macro with a quotation costs some thirty times as much of the compiled file). rd reads a row back; a line named by another (^) is read in its place, one that comes back to itself (~) is left as a call. -/
def rdKind (r : String) : Lean.Name :=
  let k := ((String.Internal.drop r 1).splitOn "/").foldl Lean.Name.mkStr
  match String.Internal.front r with
  | 'T' => k `Lean.Parser.Tactic
  | 'E' => k `Lean.Parser.Term
  | _ => k .anonymous
def rdTok (f : String → Lean.Syntax) (i : Lean.SourceInfo) (st : List Lean.Syntax) (t : String) : List Lean.Syntax :=
  let r := String.Internal.drop t 1
  let n := (String.Internal.front r).toNat - 48
  let a := (st.take n).reverse
  let b := st.drop n
  match String.Internal.front t with
  | ':' => .atom i r :: st
  | '~' => .node i `PySem.W.tacticWtm_at_ #[.atom i "wtm_at", .node i `str #[.atom i ("\"" ++ r ++ "\"")]] :: st
  | '^' => f r :: st
  | '_' => .node i `Lean.Parser.Term.hole #[.atom i "_"] :: st
  | '?' => .node i `Lean.Parser.Term.syntheticHole #[.atom i "?", if r == "_" then .atom i "_" else .ident i r.toRawSubstring r.toName []] :: st
  | ')' => .node i `Lean.Parser.Term.paren #[.node i `Lean.Parser.Term.hygienicLParen #[.atom i "(", .node i `hygieneInfo #[.ident i "".toRawSubstring .anonymous []]], st.headD .missing, .atom i ")"] :: st.tail
  | '!' => .node i `Lean.Parser.Tactic.tacticSeq #[.node i `Lean.Parser.Tactic.tacticSeq1Indented #[.node i `null #[st.headD .missing]]] :: st.tail
  | '@' => .node i `Lean.Parser.Term.app #[b.headD .missing, .node i `null a.toArray] :: b.tail
  | '#' => .node i (rdKind (String.Internal.drop r 1)) a.toArray :: b
  | _ => .ident i t.toRawSubstring t.toName [] :: st
def tacLines : List String := [
  "k1 :case z1 #1/Lean/binderIdent #0/null #2TcaseArg #1/null :=> :kernel_rfl! #1/PyProof/Rows/tacticKernel_rfl! ! #4Tcase",
  "k2 :case z2 #1/Lean/binderIdent #0/null #2TcaseArg #1/null :=> :kernel_rfl! #1/PyProof/Rows/tacticKernel_rfl! ! #4Tcase",
  "k3 :case z3 #1/Lean/binderIdent #0/null #2TcaseArg #1/null :=> :kernel_rfl! #1/PyProof/Rows/tacticKernel_rfl! ! #4Tcase",
  "u1 :case z1 #1/Lean/binderIdent #0/null #2TcaseArg #1/null :=> ~yU ! #4Tcase",
  "u2 :case z2 #1/Lean/binderIdent #0/null #2TcaseArg #1/null :=> ~yU ! #4Tcase",
  "h1 :case z1 #1/Lean/binderIdent #0/null #2TcaseArg #1/null :=> :with_unfolding_all ^yhp ! #2TwithUnfoldingAll ! #4Tcase",
  "yR :rename St _ _ _ _ _ _ _ _ @8 :=> S #4Trename",
  "yas :with_reducible :assumption #1Tassumption ! #2TwithReducible",
  "yo :first :| :decide #0/null #1ToptConfig #2Tdecide ! #2/group :| :( :with_reducible :first :| :assumption #1Tassumption ! #2/group :| :exact Int.natCast_nonneg _ @1 #2Texact ! #2/group :| :exact Nat.le_trans :by ^yas ! #2EbyTactic ) :by :decide #0/null #1ToptConfig #2Tdecide ! #2EbyTactic ) @2 #2Texact ! #2/group :| :exact Nat.lt_of_le_of_lt :by ^yas ! #2EbyTactic ) :by :decide #0/null #1ToptConfig #2Tdecide ! #2EbyTactic ) @2 #2Texact ! #2/group :| :exact Nat.lt_of_lt_of_eq :by ^yas ! #2EbyTactic ) Eq.symm :by ^yas ! #2EbyTactic ) @1 ) @2 #2Texact ! #2/group :| :exact cast_lt :by ^yas ! #2EbyTactic ) :by :decide #0/null #1ToptConfig #2Tdecide ! #2EbyTactic ) @2 #2Texact ! #2/group :| :exact neg_lt_cast :by :decide #0/null #1ToptConfig #2Tdecide ! #2EbyTactic ) @1 #2Texact ! #2/group :| :exact ilt_t :by ^yas ! #2EbyTactic ) :by :decide #0/null #1ToptConfig #2Tdecide ! #2EbyTactic ) @2 #2Texact ! #2/group :| :exact neg0 :by ^yas ! #2EbyTactic ) :by :decide #0/null #1ToptConfig #2Tdecide ! #2EbyTactic ) @2 #2Texact ! #2/group :| :exact Int.le_of_lt :by ^yas ! #2EbyTactic ) @1 #2Texact ! #2/group :| :exact Int.ne_of_gt :by ^yas ! #2EbyTactic ) @1 #2Texact ! #2/group :| :exact Nat.le_trans Nat.le_of_eq :by ^yas ! #2EbyTactic ) @1 ) Nat.le_trans :by ^yas ! #2EbyTactic ) :by :decide #0/null #1ToptConfig #2Tdecide ! #2EbyTactic ) @2 ) @2 #2Texact ! #2/group :| :exact Nat.lt_of_le_of_lt Nat.le_of_eq :by ^yas ! #2EbyTactic ) @1 ) Nat.lt_of_le_of_lt :by ^yas ! #2EbyTactic ) :by :decide #0/null #1ToptConfig #2Tdecide ! #2EbyTactic ) @2 ) @2 #2Texact ! #2/group :| :exact cast_lt Nat.le_trans Nat.le_of_eq :by ^yas ! #2EbyTactic ) @1 ) :by ^yas ! #2EbyTactic ) @2 ) :by :decide #0/null #1ToptConfig #2Tdecide ! #2EbyTactic ) @2 #2Texact ! #2/group #>/null #2Tfirst ! #2TwithReducible ! :) #3Tparen ! #2/group :| :omega #0/null #1ToptConfig #2Tomega ! #2/group #3/null #2Tfirst",
  "yrho :first :| :with_reducible :first :| :assumption #1Tassumption ! #2/group :| :exact IsUpd.self :‹ _ :› #3/term‹_› @1 #2Texact ! #2/group :| :( :apply IsUpd.step :‹ _ :› #3/term‹_› @1 #2Tapply :; :( :focus :kernel_rfl! #1/PyProof/Rows/tacticKernel_rfl! ! #2Tfocus ! :) #3Tparen :; ~yrho #5/null #1TtacticSeq1Indented #1TtacticSeq :) #3Tparen ! #2/group :| :exact upd_self #2Texact ! #2/group :| :( :apply upd_step #2Tapply :; :( :focus :kernel_rfl! #1/PyProof/Rows/tacticKernel_rfl! ! #2Tfocus ! :) #3Tparen :; ~yrho #5/null #1TtacticSeq1Indented #1TtacticSeq :) #3Tparen ! #2/group :| :( :apply rho_comp hρ @1 #2Tapply :; :( :focus :kernel_rfl! #1/PyProof/Rows/tacticKernel_rfl! ! #2Tfocus ! :) #3Tparen :; :( :focus :kernel_rfl! #1/PyProof/Rows/tacticKernel_rfl! ! #2Tfocus ! :) #3Tparen :; ~yrho #7/null #1TtacticSeq1Indented #1TtacticSeq :) #3Tparen ! #2/group #6/null #2Tfirst ! #2TwithReducible ! #2/group #1/null #2Tfirst",
  "ygo :( :( :try :with_reducible :intro Qr hQr hW0 #3/null #2Tintro ! #2TwithReducible ! #2TtacticTry_ ! :) #3Tparen :; ^yR :; :dsimp #0/null #1ToptConfig #0/null :only #1/null :[ #0/null #0/null rho #3TsimpLemma :, #0/null #0/null List.foldl_cons #3TsimpLemma :, #0/null #0/null List.foldl_nil #3TsimpLemma #5/null :] #3/null :at S #1/null #1TlocationHyp #2Tlocation #1/null #6Tdsimp :; :( :with_reducible :refine' enterAs ?e1 ?_ @2 #2Trefine' ! #2TwithReducible ! :) #3Tparen :; :( :case e1 #1/Lean/binderIdent #0/null #2TcaseArg #1/null :=> :conv #0/null #0/null :=> :lhs #1TConv/lhs :; :whnf #1TConv/whnf #3/null #1TConv/convSeq1Indented #1TConv/convSeq #5TConv/conv ! #4Tcase ! :) #3Tparen #9/null #1TtacticSeq1Indented #1TtacticSeq :) #3Tparen",
  "ysv :( ^yR :; :first :| :( :with_reducible :( :refine' stF S ?z2 ?_ @3 #2Trefine' :; ^kp #3/null #1TtacticSeq1Indented #1TtacticSeq :) #3Tparen :; :clear S #1/null #2Tclear :; :intro _ _ _ S #4/null #2Tintro #5/null #1TtacticSeq1Indented #1TtacticSeq #2TwithReducible ! :) #3Tparen ! #2/group :| :( :with_reducible :( :refine' S.st ?z1 ?z2 ?_ @3 #2Trefine' :; ^k1 :; ^k2 #5/null #1TtacticSeq1Indented #1TtacticSeq :) #3Tparen :; ^yS #3/null #1TtacticSeq1Indented #1TtacticSeq #2TwithReducible ! :) #3Tparen ! #2/group #2/null #2Tfirst #3/null #1TtacticSeq1Indented #1TtacticSeq :) #3Tparen",
  "yld :( ^yR :; :first :| :( :refine' ldF S ?z1 ?_ ?z2 @4 #2Trefine' :; ^kp :; ^r1 #5/null #1TtacticSeq1Indented #1TtacticSeq :) #3Tparen ! #2/group :| :( :refine' ldC S ?z1 ?_ ?z2 @4 #2Trefine' :; ^kc :; ^r1 #5/null #1TtacticSeq1Indented #1TtacticSeq :) #3Tparen ! #2/group :| :( :refine' S.ld ?z1 ?_ ?z2 ?z3 @4 #2Trefine' :; ^k2 :; ^k3 :; ^r1 #7/null #1TtacticSeq1Indented #1TtacticSeq :) #3Tparen ! #2/group #3/null #2Tfirst #3/null #1TtacticSeq1Indented #1TtacticSeq :) #3Tparen",
  "yldn :( ^yR :; :with_reducible :( :refine' S.ldn ?z1 ?z2 ?z3 ?_ @4 #2Trefine' :; ^k2 :; ^k3 :; :( :case z1 #1/Lean/binderIdent #0/null #2TcaseArg #1/null :=> ~yrho ! #4Tcase ! :) #3Tparen #7/null #1TtacticSeq1Indented #1TtacticSeq :) #3Tparen ! #2TwithReducible #3/null #1TtacticSeq1Indented #1TtacticSeq :) #3Tparen",
  "yint :( ^yR :; :( :first :| :refine c_int S ?_ @2 #2Trefine ! #2/group :| :refine c_str S ?_ @2 #2Trefine ! #2/group #2/null #2Tfirst ! :) #3Tparen :; ^yS' #5/null #1TtacticSeq1Indented #1TtacticSeq :) #3Tparen",
  "kp :case z2 #1/Lean/binderIdent #0/null #2TcaseArg #1/null :=> :( :intro _ #1/null #2Tintro :; :kernel_rfl! #1/PyProof/Rows/tacticKernel_rfl! #3/null #1TtacticSeq1Indented #1TtacticSeq :) #3Tparen ! #4Tcase",
  "kc :case z2 #1/Lean/binderIdent #0/null #2TcaseArg #1/null :=> :( :intro _ _ #2/null #2Tintro :; :kernel_rfl! #1/PyProof/Rows/tacticKernel_rfl! #3/null #1TtacticSeq1Indented #1TtacticSeq :) #3Tparen ! #4Tcase",
  "r1 :case z1 #1/Lean/binderIdent #0/null #2TcaseArg #1/null :=> ~yrho ! #4Tcase",
  "yx :with_reducible :first :| :( :refine execs_cut ?_ @1 #2Trefine :; :intro Qx hQx #2/null #2Tintro #3/null #1TtacticSeq1Indented #1TtacticSeq :) #3Tparen ! #2/group :| :refine wpAny_execs_nil ?_ @1 #2Trefine ! #2/group :| :refine wpAny_assign_Name ?_ @1 #2Trefine ! #2/group :| :refine wpAny_items_nil ?_ @1 #2Trefine ! #2/group #4/null #2Tfirst ! #2TwithReducible",
  "yt :with_reducible :first :| :( :( :show wpAny _ _ isTrue _ _ _ @3 ) _ _ _ @6 #2Tshow ! :) #3Tparen :; :first :| :refine tcmpX ?_ Eq.refl true @1 ) @2 #2Trefine ! #2/group :| :refine wpAny_isTrue_Not ?_ @1 #2Trefine ! #2/group :| :refine wpAny_isTrue_BoolOp ?_ @1 #2Trefine ! #2/group :| :( :refine' wpAny_isTrue_value ?_ ?z1 @2 #2Trefine' :; ^k1 #3/null #1TtacticSeq1Indented #1TtacticSeq :) #3Tparen ! #2/group #4/null #2Tfirst #3/null #1TtacticSeq1Indented #1TtacticSeq :) #3Tparen ! #2/group :| :refine wpAny_truthy_bool ?_ @1 #2Trefine ! #2/group :| :refine is_none ?_ @1 #2Trefine ! #2/group :| :refine isNot_none ?_ @1 #2Trefine ! #2/group :| :refine not_value ?_ @1 #2Trefine ! #2/group :| :( :( :show wpAny _ _ allTrue _ _ _ @3 ) _ _ _ @6 #2Tshow ! :) #3Tparen :; :first :| :refine wpAny_allTrue_And_cons ?_ @1 #2Trefine ! #2/group :| :refine wpAny_allTrue_Or_cons ?_ @1 #2Trefine ! #2/group :| :refine wpAny_allTrue_And_nil ?_ @1 #2Trefine ! #2/group :| :refine wpAny_allTrue_Or_nil ?_ @1 #2Trefine ! #2/group #4/null #2Tfirst #3/null #1TtacticSeq1Indented #1TtacticSeq :) #3Tparen ! #2/group :| :refine pairTrees_cons_walk ?_ @1 #2Trefine ! #2/group :| :refine pairTrees_nil_walk ?_ @1 #2Trefine ! #2/group #8/null #2Tfirst ! #2TwithReducible",
  "g1 :case z1 #1/Lean/binderIdent #0/null #2TcaseArg #1/null :=> ^ygf ! #4Tcase",
  "yI :( :( :with_reducible :show wpAny _ _ spliced backTo _ starEach _ ::: _ #3/term_::_ ) _ @2 ) @2 ) @1 ) _ _ _ @6 #2Tshow ! #2TwithReducible ! :) #3Tparen :; ^yR :; :with_reducible :first :| :( :( :first :| :refine' ilF S ?z1 ?_ ?z2 @4 #2Trefine' ! #2/group :| :refine' itF S ?z1 ?_ ?z2 @4 #2Trefine' ! #2/group #2/null #2Tfirst ! :) #3Tparen :; ^kp :; ^r1 #5/null #1TtacticSeq1Indented #1TtacticSeq :) #3Tparen ! #2/group :| :( :refine itI S ?_ @2 #2Trefine :; ^yS' #3/null #1TtacticSeq1Indented #1TtacticSeq :) #3Tparen ! #2/group :| :( :refine itS S ?_ @2 #2Trefine :; ^yS' #3/null #1TtacticSeq1Indented #1TtacticSeq :) #3Tparen ! #2/group :| :( :( :first :| :refine' ilC S ?z1 ?_ ?z2 @4 #2Trefine' ! #2/group :| :refine' itC S ?z1 ?_ ?z2 @4 #2Trefine' ! #2/group #2/null #2Tfirst ! :) #3Tparen :; ^kc :; ^r1 #5/null #1TtacticSeq1Indented #1TtacticSeq :) #3Tparen ! #2/group :| :refine itX ?_ Eq.refl true @1 ) @2 #2Trefine ! #2/group #5/null #2Tfirst ! #2TwithReducible #5/null #1TtacticSeq1Indented #1TtacticSeq :) #3Tparen",
  "yE :( :( :with_reducible :show wpAny _ _ eval _ _ @2 ) _ _ _ @6 #2Tshow ! #2TwithReducible ! :) #3Tparen :; :with_reducible :first :| ^yld ! #2/group :| ^yint ! #2/group :| :refine cmpX ?_ Eq.refl true @1 ) @2 #2Trefine ! #2/group :| :refine Subscript_ ?_ @1 #2Trefine ! #2/group :| :refine atX ?_ Eq.refl true @1 ) @2 #2Trefine ! #2/group :| :refine wpAny_BinOp ?_ @1 #2Trefine ! #2/group :| :refine wpAny_Constant_none ?_ @1 #2Trefine ! #2/group :| :refine wpAny_Constant_bool ?_ @1 #2Trefine ! #2/group :| :refine r_list ?_ @1 #2Trefine ! #2/group :| :refine r_tuple ?_ @1 #2Trefine ! #2/group :| :( :refine' Attribute_any_ ?_ ?z1 @2 #2Trefine' :; ^k1 #3/null #1TtacticSeq1Indented #1TtacticSeq :) #3Tparen ! #2/group :| :refine wpAny_IfExp ?_ @1 #2Trefine ! #2/group :| :refine wpAny_UnaryOp ?_ @1 #2Trefine ! #2/group :| :refine wpAny_And2 ?_ @1 #2Trefine ! #2/group :| :refine wpAny_Or2 ?_ @1 #2Trefine ! #2/group :| ^ygl ! #2/group #@/null #2Tfirst ! #2TwithReducible #3/null #1TtacticSeq1Indented #1TtacticSeq :) #3Tparen",
  "yEc :( :( :with_reducible :show wpAny _ _ eval _ _ @2 ) _ _ _ @6 #2Tshow ! #2TwithReducible ! :) #3Tparen :; :first :| ^ycg ! #2/group :| ^ycm ! #2/group :| ^ycl ! #2/group :| ^yde ! #2/group #4/null #2Tfirst #3/null #1TtacticSeq1Indented #1TtacticSeq :) #3Tparen",
  "yX :( :( :with_reducible :show wpAny _ _ exec _ _ @2 ) _ _ _ @6 #2Tshow ! #2TwithReducible ! :) #3Tparen :; :with_reducible :first :| :refine asgX ?_ Eq.refl true @1 ) @2 #2Trefine ! #2/group :| :refine wpAny_If ?_ @1 #2Trefine ! #2/group :| :refine wpAny_Return_some ?_ @1 #2Trefine ! #2/group :| :( :refine' wpAny_Expr ?_ ?z1 ?z2 @3 #2Trefine' :; ^k1 :; ^k2 #5/null #1TtacticSeq1Indented #1TtacticSeq :) #3Tparen ! #2/group :| :( :refine' r_for ?_ ?z1 @2 #2Trefine' :; :( :case z1 #1/Lean/binderIdent #0/null #2TcaseArg #1/null :=> :intro _ #1/null #2Tintro :; :kernel_rfl! #1/PyProof/Rows/tacticKernel_rfl! #3/null #1TtacticSeq1Indented #1TtacticSeq #4Tcase ! :) #3Tparen #3/null #1TtacticSeq1Indented #1TtacticSeq :) #3Tparen ! #2/group :| :( :( :first :| :refine' wpAny_Assign_Name ?_ ?z1 @2 #2Trefine' ! #2/group :| :refine' wpAny_Assign_Subscript ?_ ?z1 @2 #2Trefine' ! #2/group :| :refine' plainObj_wpAny_Assign_Attribute ?_ ?z1 @2 #2Trefine' ! #2/group #3/null #2Tfirst ! :) #3Tparen :; ^k1 #3/null #1TtacticSeq1Indented #1TtacticSeq :) #3Tparen ! #2/group :| :refine wpAny_AugAssign_Name ?_ @1 #2Trefine ! #2/group :| :refine wpAny_Return_none ?_ @1 #2Trefine ! #2/group :| :refine wpAny_Continue ?_ @1 #2Trefine ! #2/group #9/null #2Tfirst ! #2TwithReducible #3/null #1TtacticSeq1Indented #1TtacticSeq :) #3Tparen",
  "ys :first :| ^yE ! #2/group :| ^yI ! #2/group :| ^yx ! #2/group :| ^yX ! #2/group :| ^yt ! #2/group :| ^ysv ! #2/group :| ^yldn ! #2/group #7/null #2Tfirst",
  "yw :repeat :first :| ^ys ! #2/group :| ^yq ! #2/group #2/null #2Tfirst ! #2TtacticRepeat_",
  "ymem :with_reducible :first :| :exact List.mem_cons_self #2Texact ! #2/group :| :( :apply List.mem_cons_of_mem #2Tapply :; ~ymem #3/null #1TtacticSeq1Indented #1TtacticSeq :) #3Tparen ! #2/group #2/null #2Tfirst ! #2TwithReducible",
  "yput :first :| :exact Put.head #2Texact ! #2/group :| :( :apply Put.tail #2Tapply :; ~yput #3/null #1TtacticSeq1Indented #1TtacticSeq :) #3Tparen ! #2/group #2/null #2Tfirst",
  "yhp :first :| :exact St.has S :by ~ymem ! #2EbyTactic ) @2 #2Texact ! #2/group :| :exact Le.at S.z.gs :by ~yU ! #2EbyTactic ) @2 #2Texact ! #2/group #2/null #2Tfirst",
  "ylen :( ^yR :; :with_reducible :( :refine' call_name P.len.up S.le0 @1 ) ?_ ?z1 ?z2 @4 #2Trefine' :; ^k1 :; ^k2 #5/null #1TtacticSeq1Indented #1TtacticSeq :) #3Tparen ! #2TwithReducible #3/null #1TtacticSeq1Indented #1TtacticSeq :) #3Tparen",
  "ysz :first :| ^yo ! #2/group :| :( :simp #0/null #1ToptConfig #0/null :only #1/null :[ #0/null #0/null List.length_append #3TsimpLemma :, #0/null #0/null List.length_cons #3TsimpLemma :, #0/null #0/null List.length_nil #3TsimpLemma :, #0/null #0/null List.length_map #3TsimpLemma :, #0/null #0/null List.length_range #3TsimpLemma :, #0/null #0/null List.length_replicate #3TsimpLemma :, #0/null #0/null sizeLine_eq #3TsimpLemma #=/null :] #3/null #0/null #6Tsimp :; :omega #0/null #1ToptConfig #2Tomega #3/null #1TtacticSeq1Indented #1TtacticSeq :) #3Tparen ! #2/group #2/null #2Tfirst",
  "ylenl :( ^yR :; :with_reducible :refine And.intro kept_builtin ?_ @2 #2Trefine :; :( :( :with_reducible :refine' b_len S ?z1 ?z2 ?_ @4 #2Trefine' ! #2TwithReducible ! :) #3Tparen :; ^h1 :; :( :case z2 #1/Lean/binderIdent #0/null #2TcaseArg #1/null :=> ^ysz ! #4Tcase ! :) #3Tparen #5/null #1TtacticSeq1Indented #1TtacticSeq :) #3Tparen :; ^yS' #5/null #1TtacticSeq1Indented #1TtacticSeq #2TwithReducible #3/null #1TtacticSeq1Indented #1TtacticSeq :) #3Tparen",
  "yS :( :clear S #1/null #2Tclear :; :intro _ S #2/null #2Tintro #3/null #1TtacticSeq1Indented #1TtacticSeq :) #3Tparen",
  "yadd :( ^yR :; :with_reducible :refine w_add S ?_ @2 #2Trefine :; ^yS' #3/null #1TtacticSeq1Indented #1TtacticSeq #2TwithReducible #3/null #1TtacticSeq1Indented #1TtacticSeq :) #3Tparen",
  "ysub :( ^yR :; :with_reducible :refine w_sub S ?_ @2 #2Trefine :; ^yS' #3/null #1TtacticSeq1Indented #1TtacticSeq #2TwithReducible #3/null #1TtacticSeq1Indented #1TtacticSeq :) #3Tparen",
  "ymod :( ^yR :; :( :( :with_reducible :refine' w_mod S ?z1 ?_ @3 #2Trefine' ! #2TwithReducible ! :) #3Tparen :; :( :case z1 #1/Lean/binderIdent #0/null #2TcaseArg #1/null :=> ^yo ! #4Tcase ! :) #3Tparen #3/null #1TtacticSeq1Indented #1TtacticSeq :) #3Tparen :; ^yS' #5/null #1TtacticSeq1Indented #1TtacticSeq :) #3Tparen",
  "ysubl :( :( :with_reducible :refine' sub_list ?z1 ?z2 ?z3 ?z4 ?_ ?z5 @6 #2Trefine' ! #2TwithReducible ! :) #3Tparen :; ^h1 :; :( :case z2 #1/Lean/binderIdent #0/null #2TcaseArg #1/null :=> ^yo ! #4Tcase ! :) #3Tparen :; :( :case z3 #1/Lean/binderIdent #0/null #2TcaseArg #1/null :=> ^yo ! #4Tcase ! :) #3Tparen :; :( :case z4 #1/Lean/binderIdent #0/null #2TcaseArg #1/null :=> :with_unfolding_all :first :| :assumption #1Tassumption ! #2/group :| :rfl #1TtacticRfl ! #2/group #2/null #2Tfirst ! #2TwithUnfoldingAll ! #4Tcase ! :) #3Tparen :; :( :case z5 #1/Lean/binderIdent #0/null #2TcaseArg #1/null :=> :with_unfolding_all :rfl #1TtacticRfl ! #2TwithUnfoldingAll ! #4Tcase ! :) #3Tparen #;/null #1TtacticSeq1Indented #1TtacticSeq :) #3Tparen",
  "ysubt :( :( :with_reducible :refine' sub_tup ?z1 ?z2 ?z3 ?z4 ?_ ?z5 @6 #2Trefine' ! #2TwithReducible ! :) #3Tparen :; ^h1 :; :( :case z2 #1/Lean/binderIdent #0/null #2TcaseArg #1/null :=> ^yo ! #4Tcase ! :) #3Tparen :; :( :case z3 #1/Lean/binderIdent #0/null #2TcaseArg #1/null :=> ^yo ! #4Tcase ! :) #3Tparen :; :( :case z4 #1/Lean/binderIdent #0/null #2TcaseArg #1/null :=> :with_unfolding_all :first :| :assumption #1Tassumption ! #2/group :| :rfl #1TtacticRfl ! #2/group #2/null #2Tfirst ! #2TwithUnfoldingAll ! #4Tcase ! :) #3Tparen :; :( :case z5 #1/Lean/binderIdent #0/null #2TcaseArg #1/null :=> :with_unfolding_all :rfl #1TtacticRfl ! #2TwithUnfoldingAll ! #4Tcase ! :) #3Tparen #;/null #1TtacticSeq1Indented #1TtacticSeq :) #3Tparen",
  "yyes :( :( :with_reducible :refine' ite_yes ?z1 ?_ @2 #2Trefine' ! #2TwithReducible ! :) #3Tparen :; :( :case z1 #1/Lean/binderIdent #0/null #2TcaseArg #1/null :=> :first :| :rfl #1TtacticRfl ! #2/group :| :exact decide_eq_true :by ^yo ! #2EbyTactic ) @1 #2Texact ! #2/group :| :assumption #1Tassumption ! #2/group :| :( :simp #0/null #1ToptConfig #0/null #0/null #0/null #0/null #6Tsimp :; :done #1Tdone #3/null #1TtacticSeq1Indented #1TtacticSeq :) #3Tparen ! #2/group :| :( :simp #0/null #1ToptConfig #0/null #0/null #0/null #0/null #6Tsimp :; :omega #0/null #1ToptConfig #2Tomega #3/null #1TtacticSeq1Indented #1TtacticSeq :) #3Tparen ! #2/group #5/null #2Tfirst ! #4Tcase ! :) #3Tparen #3/null #1TtacticSeq1Indented #1TtacticSeq :) #3Tparen",
  "yno :( :( :with_reducible :refine' ite_no ?z1 ?_ @2 #2Trefine' ! #2TwithReducible ! :) #3Tparen :; :( :case z1 #1/Lean/binderIdent #0/null #2TcaseArg #1/null :=> :first :| :exact Bool.false_ne_true #2Texact ! #2/group :| :exact of_decide_false' :by ^yo ! #2EbyTactic ) @1 #2Texact ! #2/group :| :assumption #1Tassumption ! #2/group :| :( :simp #0/null #1ToptConfig #0/null #0/null #0/null #0/null #6Tsimp :; :done #1Tdone #3/null #1TtacticSeq1Indented #1TtacticSeq :) #3Tparen ! #2/group :| :( :simp #0/null #1ToptConfig #0/null #0/null #0/null #0/null #6Tsimp :; :omega #0/null #1ToptConfig #2Tomega #3/null #1TtacticSeq1Indented #1TtacticSeq :) #3Tparen ! #2/group #5/null #2Tfirst ! #4Tcase ! :) #3Tparen #3/null #1TtacticSeq1Indented #1TtacticSeq :) #3Tparen",
  "yS' :( :clear S #1/null #2Tclear :; :intro _ _ S #3/null #2Tintro #3/null #1TtacticSeq1Indented #1TtacticSeq :) #3Tparen",
  "yH :with_unfolding_all ^yhp ! #2TwithUnfoldingAll",
  "ycm :with_reducible :( :refine' call_meth ?z1 ?z2 ?_ @3 #2Trefine' :; ^k2 :; :( :case z1 #1/Lean/binderIdent #0/null #2TcaseArg #1/null :=> :with_unfolding_all :rfl #1TtacticRfl ! #2TwithUnfoldingAll ! #4Tcase ! :) #3Tparen #5/null #1TtacticSeq1Indented #1TtacticSeq :) #3Tparen ! #2TwithReducible",
  "ybind :exact :fun nm q kV doc pm an cdv ct #8/null #0/null :=> BindsTo.of_eq :by :kernel_rfl! #1/PyProof/Rows/tacticKernel_rfl! ! #2EbyTactic ) @1 #4EbasicFun #2Efun #2Texact",
  "ycg :( ^yR :; :with_reducible :first :| :( :refine' cnF S ?z1 ?_ ?z2 @4 #2Trefine' :; ^kp :; ^g1 #5/null #1TtacticSeq1Indented #1TtacticSeq :) #3Tparen ! #2/group :| :( :refine' cnC S ?z1 ?_ ?z2 @4 #2Trefine' :; ^kc :; ^g1 #5/null #1TtacticSeq1Indented #1TtacticSeq :) #3Tparen ! #2/group :| :( :refine' call_name Glob.up ?z1 S.le0 @2 ) ?_ ?z2 ?z3 @4 #2Trefine' :; ^k2 :; ^k3 :; ^g1 #7/null #1TtacticSeq1Indented #1TtacticSeq :) #3Tparen ! #2/group #3/null #2Tfirst ! #2TwithReducible #3/null #1TtacticSeq1Indented #1TtacticSeq :) #3Tparen",
  "ykind :( ^yR :; :with_reducible :( :refine' fv_kind S ?z1 ?z2 ?_ @4 #2Trefine' :; ^u1 :; :( :case z2 #1/Lean/binderIdent #0/null #2TcaseArg #1/null :=> :with_unfolding_all ~yF ! #2TwithUnfoldingAll ! #4Tcase ! :) #3Tparen #5/null #1TtacticSeq1Indented #1TtacticSeq :) #3Tparen :; ^yS' #3/null #1TtacticSeq1Indented #1TtacticSeq #2TwithReducible #3/null #1TtacticSeq1Indented #1TtacticSeq :) #3Tparen",
  "yitems :( ^yR :; :with_reducible :( :refine' fv_items S ?z1 ?z2 ?_ @4 #2Trefine' :; ^u1 :; :( :case z2 #1/Lean/binderIdent #0/null #2TcaseArg #1/null :=> :with_unfolding_all ~yF ! #2TwithUnfoldingAll ! #4Tcase ! :) #3Tparen #5/null #1TtacticSeq1Indented #1TtacticSeq :) #3Tparen :; ^yS #3/null #1TtacticSeq1Indented #1TtacticSeq #2TwithReducible #3/null #1TtacticSeq1Indented #1TtacticSeq :) #3Tparen",
  "yattrs :( ^yR :; :with_reducible :( :refine' fv_attrs S ?z1 ?z2 ?_ @4 #2Trefine' :; ^u1 :; :( :case z2 #1/Lean/binderIdent #0/null #2TcaseArg #1/null :=> :with_unfolding_all ~yF ! #2TwithUnfoldingAll ! #4Tcase ! :) #3Tparen #5/null #1TtacticSeq1Indented #1TtacticSeq :) #3Tparen :; ^yS #3/null #1TtacticSeq1Indented #1TtacticSeq #2TwithReducible #3/null #1TtacticSeq1Indented #1TtacticSeq :) #3Tparen",
  "yF :first :| :assumption #1Tassumption ! #2/group :| :exact FV.up' :by :assumption #1Tassumption ! #2EbyTactic ) :by ~yF ! #2EbyTactic ) @2 #2Texact ! #2/group #2/null #2Tfirst",
  "ygl :( ^yR :; :with_reducible :( :refine' ldG Glob.up ?z1 S.le0 @2 ) ?_ ?z2 ?z3 @4 #2Trefine' :; ^k2 :; ^k3 :; ^g1 #7/null #1TtacticSeq1Indented #1TtacticSeq :) #3Tparen ! #2TwithReducible #3/null #1TtacticSeq1Indented #1TtacticSeq :) #3Tparen",
  "ynl :( ^yR :; :( :( :with_reducible :refine' c_list S ?z1 ?_ @3 #2Trefine' ! #2TwithReducible ! :) #3Tparen :; :( :case z1 #1/Lean/binderIdent #0/null #2TcaseArg #1/null :=> ^ysz ! #4Tcase ! :) #3Tparen #3/null #1TtacticSeq1Indented #1TtacticSeq :) #3Tparen :; :clear S #1/null #2Tclear :; :intro ln _ n0 S #4/null #2Tintro #7/null #1TtacticSeq1Indented #1TtacticSeq :) #3Tparen",
  "yfz :( :replace S #1EletId #0/null #0/null ::= S.freeze n0 @1 #5EletIdDecl #1EletDecl #2Treplace :; :obtain :⟨ :_ #1TrcasesPat/ignore #1/null #1TrcasesPatMed #0/null #2TrcasesPatLo :, :_ #1TrcasesPat/ignore #1/null #1TrcasesPatMed #0/null #2TrcasesPatLo :, :_ #1TrcasesPat/ignore #1/null #1TrcasesPatMed #0/null #2TrcasesPatLo :, S #1TrcasesPat/one #1/null #1TrcasesPatMed #0/null #2TrcasesPatLo #7/null :⟩ #3TrcasesPat/tuple #1/null #1TrcasesPatMed #1/null #0/null ::= S #1/null #2/null #4Tobtain :; :clear n0 #1/null #2Tclear #5/null #1TtacticSeq1Indented #1TtacticSeq :) #3Tparen",
  "ynt :( ^yR :; :( :( :with_reducible :refine' c_tuple S ?z1 ?_ @3 #2Trefine' ! #2TwithReducible ! :) #3Tparen :; :( :case z1 #1/Lean/binderIdent #0/null #2TcaseArg #1/null :=> ^ysz ! #4Tcase ! :) #3Tparen #3/null #1TtacticSeq1Indented #1TtacticSeq :) #3Tparen :; :clear S #1/null #2Tclear :; :intro tn _ _ _ _ _ S #7/null #2Tintro #7/null #1TtacticSeq1Indented #1TtacticSeq :) #3Tparen",
  "yqk :( :with_reducible :( :refine' q_eq false KOk.ne hk ?z1 @2 ) ?_ @3 #2Trefine' :; ^k1 #3/null #1TtacticSeq1Indented #1TtacticSeq :) #3Tparen ! #2TwithReducible ! :) #3Tparen",
  "yqt :( :with_reducible :( :refine' q_eq true ?z1 ?_ @3 #2Trefine' :; ^k1 #3/null #1TtacticSeq1Indented #1TtacticSeq :) #3Tparen ! #2TwithReducible ! :) #3Tparen",
  "yqf :( :with_reducible :( :refine' q_eq false ?z1 ?_ @3 #2Trefine' :; ^k1 #3/null #1TtacticSeq1Indented #1TtacticSeq :) #3Tparen ! #2TwithReducible ! :) #3Tparen",
  "yif :first :| :( :( :with_reducible :refine' ite_yes ?z1 ?_ @2 #2Trefine' ! #2TwithReducible ! :) #3Tparen :; :( :case z1 #1/Lean/binderIdent #0/null #2TcaseArg #1/null :=> :first :| :rfl #1TtacticRfl ! #2/group :| :assumption #1Tassumption ! #2/group :| :exact decide_eq_true :by ^yo ! #2EbyTactic ) @1 #2Texact ! #2/group #3/null #2Tfirst ! #4Tcase ! :) #3Tparen #3/null #1TtacticSeq1Indented #1TtacticSeq :) #3Tparen ! #2/group :| :( :( :with_reducible :refine' ite_no ?z1 ?_ @2 #2Trefine' ! #2TwithReducible ! :) #3Tparen :; :( :case z1 #1/Lean/binderIdent #0/null #2TcaseArg #1/null :=> :first :| :exact Bool.false_ne_true #2Texact ! #2/group :| :assumption #1Tassumption ! #2/group :| :exact of_decide_false' :by ^yo ! #2EbyTactic ) @1 #2Texact ! #2/group #3/null #2Tfirst ! #4Tcase ! :) #3Tparen #3/null #1TtacticSeq1Indented #1TtacticSeq :) #3Tparen ! #2/group #2/null #2Tfirst",
  "ycl :with_reducible :( :refine' r_comp ?z1 ?_ ?z2 @3 #2Trefine' :; ^k1 :; :( :case z2 #1/Lean/binderIdent #0/null #2TcaseArg #1/null :=> :intro _ #1/null #2Tintro :; :kernel_rfl! #1/PyProof/Rows/tacticKernel_rfl! #3/null #1TtacticSeq1Indented #1TtacticSeq #4Tcase ! :) #3Tparen #5/null #1TtacticSeq1Indented #1TtacticSeq :) #3Tparen ! #2TwithReducible",
  "yac :with_reducible :( :refine' r_acomp ?z1 ?z2 ?_ ?z3 @4 #2Trefine' :; ^k1 :; ^k2 :; :( :case z3 #1/Lean/binderIdent #0/null #2TcaseArg #1/null :=> :intro _ #1/null #2Tintro :; :kernel_rfl! #1/PyProof/Rows/tacticKernel_rfl! #3/null #1TtacticSeq1Indented #1TtacticSeq #4Tcase ! :) #3Tparen #7/null #1TtacticSeq1Indented #1TtacticSeq :) #3Tparen ! #2TwithReducible",
  "ycmp :with_reducible :first :| :refine r_lt ?_ @1 #2Trefine ! #2/group :| :refine r_gt ?_ @1 #2Trefine ! #2/group :| :refine r_le ?_ @1 #2Trefine ! #2/group :| :refine r_ge ?_ @1 #2Trefine ! #2/group :| :refine r_eqi ?_ @1 #2Trefine ! #2/group :| :refine r_nei ?_ @1 #2Trefine ! #2/group :| :refine r_nes ?_ @1 #2Trefine ! #2/group :| :refine q_eq _ rfl ?_ @3 #2Trefine ! #2/group #8/null #2Tfirst ! #2TwithReducible",
  "yde :( ^yR :; :with_reducible :refine d_empty S ?_ @2 #2Trefine :; :clear S #1/null #2Tclear :; :intro dn _ nd0 S #4/null #2Tintro #5/null #1TtacticSeq1Indented #1TtacticSeq #2TwithReducible #3/null #1TtacticSeq1Indented #1TtacticSeq :) #3Tparen",
  "yq :( :( :fail_if_success :( :with_reducible :show wpAny _ _ _ _ _ _ @6 #2Tshow ! #2TwithReducible ! :) #3Tparen ! #2TfailIfSuccess ! :) #3Tparen :; :with_reducible :first :| :refine Cont.next :‹ _ :› #3/term‹_› ?_ @2 #2Trefine ! #2/group :| :refine Cont.ret :‹ _ :› #3/term‹_› ?_ @2 #2Trefine ! #2/group :| :refine Cont.retR :‹ _ :› #3/term‹_› ?_ @2 #2Trefine ! #2/group :| :refine Cont.retL :‹ _ :› #3/term‹_› ?_ @2 #2Trefine ! #2/group :| :refine Cont.nextR :‹ _ :› #3/term‹_› ?_ @2 #2Trefine ! #2/group :| :refine Cont.cnt :‹ _ :› #3/term‹_› ?_ @2 #2Trefine ! #2/group :| :refine Cont.brk :‹ _ :› #3/term‹_› ?_ @2 #2Trefine ! #2/group :| :refine Cont.brkL :‹ _ :› #3/term‹_› ?_ @2 #2Trefine ! #2/group #8/null #2Tfirst ! #2TwithReducible #3/null #1TtacticSeq1Indented #1TtacticSeq :) #3Tparen",
  "yqs :repeat :( ^yq ! :) #3Tparen ! #2TtacticRepeat_",
  "yb :first :| ^ys ! #2/group :| ^yq ! #2/group :| ^yEc ! #2/group :| ^yac ! #2/group :| ^yif ! #2/group :| ^ykind ! #2/group :| ^yitems ! #2/group :| ^yattrs ! #2/group :| ^yqt ! #2/group :| ^yqf ! #2/group :| ^yqk ! #2/group :| ^ylenl ! #2/group :| ^yadd ! #2/group :| ^ysub ! #2/group :| ^ysubl ! #2/group :| ^ysubt ! #2/group :| ^ynt ! #2/group :| ^ynl ! #2/group :| ^ycmp ! #2/group #C/null #2Tfirst",
  "ya :repeat :( ^yb ! :) #3Tparen ! #2TtacticRepeat_",
  "yV :first :| :apply Le.at' #2Tapply ! #2/group :| :apply PG.up' #2Tapply ! #2/group :| :apply FnAt.up' #2Tapply ! #2/group :| :apply FV.up' #2Tapply ! #2/group :| :apply VV.up' #2Tapply ! #2/group :| :apply ATT.up' #2Tapply ! #2/group :| :apply AD.up' #2Tapply ! #2/group :| :apply Its.up' #2Tapply ! #2/group :| :apply AllV.up' #2Tapply ! #2/group :| :apply ItV.up' #2Tapply ! #2/group :| :apply VVs.up' #2Tapply ! #2/group :| :apply VF.up' #2Tapply ! #2/group :| :apply FM.up' #2Tapply ! #2/group :| :apply AllVV.up' #2Tapply ! #2/group :| :apply Glob.up' #2Tapply ! #2/group #?/null #2Tfirst",
  "yU1 :with_reducible :first :| :assumption #1Tassumption ! #2/group :| :( ^yV :; :( :focus :assumption #1Tassumption ! #2Tfocus ! :) #3Tparen :; ~yU1 #5/null #1TtacticSeq1Indented #1TtacticSeq :) #3Tparen ! #2/group #2/null #2Tfirst ! #2TwithReducible",
  "yU :with_reducible :first :| :assumption #1Tassumption ! #2/group :| :( ^yV :; :( :focus :exact S.z.g0 #2Texact ! #2Tfocus ! :) #3Tparen :; ~yU1 #5/null #1TtacticSeq1Indented #1TtacticSeq :) #3Tparen ! #2/group :| :( ^yV :; :( :focus :assumption #1Tassumption ! #2Tfocus ! :) #3Tparen :; ~yU #5/null #1TtacticSeq1Indented #1TtacticSeq :) #3Tparen ! #2/group #3/null #2Tfirst ! #2TwithReducible",
  "yP :( :rename PG _ _ @2 :=> P #4Trename :; :replace P #1EletId #0/null #0/null ::= PG.up' :by :assumption #1Tassumption ! #2EbyTactic ) P @2 #5EletIdDecl #1EletDecl #2Treplace #3/null #1TtacticSeq1Indented #1TtacticSeq :) #3Tparen",
  "ygf :first :| ~yU ! #2/group :| :( :( :with_reducible :first :| :apply PG.len #2Tapply ! #2/group :| :apply PG.range #2Tapply ! #2/group :| :apply PG.str #2Tapply ! #2/group :| :apply PG.int #2Tapply ! #2/group :| :apply PG.abs #2Tapply ! #2/group :| :apply PG.list #2Tapply ! #2/group :| :apply PG.max #2Tapply ! #2/group :| :apply PG.isin #2Tapply ! #2/group :| :apply PG.vec #2Tapply ! #2/group :| :apply PG.mat #2Tapply ! #2/group #:/null #2Tfirst ! #2TwithReducible ! :) #3Tparen :; ~yU #3/null #1TtacticSeq1Indented #1TtacticSeq :) #3Tparen ! #2/group #2/null #2Tfirst",
  "yap1 :( :intro pl #1/null #2Tintro :; :with_reducible :( :refine' meth_list ?z1 PySem.F.slot_list_append ?z2 ?_ @4 #2Trefine' :; ^k2 :; :( :case z1 #1/Lean/binderIdent #0/null #2TcaseArg #1/null :=> ^yH ! #4Tcase ! :) #3Tparen #5/null #1TtacticSeq1Indented #1TtacticSeq :) #3Tparen :; ^ya #3/null #1TtacticSeq1Indented #1TtacticSeq #2TwithReducible #3/null #1TtacticSeq1Indented #1TtacticSeq :) #3Tparen",
  "yap2 :( :refine :⟨ kept_builtin :, ?_ #3/null :⟩ #3EanonymousCtor #2Trefine :; :refine m_append S :by ~ymem ! #2EbyTactic ) :by ^ysz ! #2EbyTactic ) ?_ @4 #2Trefine :; :intro _ _ hpu #3/null #2Tintro :; :replace S #1EletId #0/null #0/null ::= hpu _ :by ~yput ! #2EbyTactic ) @2 #5EletIdDecl #1EletDecl #2Treplace :; :clear hpu #1/null #2Tclear :; ^ya #;/null #1TtacticSeq1Indented #1TtacticSeq :) #3Tparen",
  "yrd :first :| :exact IsUpd.self :by :assumption #1Tassumption ! #2EbyTactic ) @1 #2Texact ! #2/group :| :( :apply IsUpd.step :by :assumption #1Tassumption ! #2EbyTactic ) @1 #2Tapply :; :( :focus :kernel_rfl! #1/PyProof/Rows/tacticKernel_rfl! ! #2Tfocus ! :) #3Tparen :; ~yrd #5/null #1TtacticSeq1Indented #1TtacticSeq :) #3Tparen ! #2/group #2/null #2Tfirst",
  "yinv :first :| :assumption #1Tassumption ! #2/group :| :rfl #1TtacticRfl ! #2/group :| ~yrho ! #2/group :| :exact :⟨ _ :, :by ~yrho ! #2EbyTactic #3/null :⟩ #3EanonymousCtor #2Texact ! #2/group :| ~yU ! #2/group :| ~yrd ! #2/group :| :exact :⟨ _ :, :by ~yrd ! #2EbyTactic #3/null :⟩ #3EanonymousCtor #2Texact ! #2/group #7/null #2Tfirst",
  "ydict :( :refine d_show strKind pw w @2 ) :by :kernel_rfl! #1/PyProof/Rows/tacticKernel_rfl! ! #2EbyTactic ) ?_ S @4 #2Trefine :; :intro an _ na0 _ SS #5/null #2Tintro :; :replace S #1EletId #0/null #0/null ::= SS _ S @2 #5EletIdDecl #1EletDecl #2Treplace :; :clear SS #1/null #2Tclear :; ^ya #9/null #1TtacticSeq1Indented #1TtacticSeq :) #3Tparen",
  "yrange :( :refine :⟨ kept_type :, ?_ #3/null :⟩ #3EanonymousCtor #2Trefine :; :refine b_range O.h S :by ^ysz ! #2EbyTactic ) :by ^ysz ! #2EbyTactic ) ?_ @5 #2Trefine :; :intro rv _ hr #3/null #2Tintro :; ^ya :; :refine hr _ _ ?_ @3 #2Trefine :; :clear hr #1/null #2Tclear :; :intro itR _ TI #3/null #2Tintro :; :try :rw #0/null #1ToptConfig :[ #0/null Int.toNat_natCast #2TrwRule #1/null :] #3TrwRuleSeq :at TI #1/null #1TlocationHyp #2Tlocation #1/null #4TrwSeq ! #2TtacticTry_ #?/null #1TtacticSeq1Indented #1TtacticSeq :) #3Tparen",
  "yva :with_reducible :first :| :exact va_head #2Texact ! #2/group :| :( :apply va_tail #2Tapply :; :( :focus :kernel_rfl! #1/PyProof/Rows/tacticKernel_rfl! ! #2Tfocus ! :) #3Tparen :; ~yva #5/null #1TtacticSeq1Indented #1TtacticSeq :) #3Tparen ! #2/group #2/null #2Tfirst ! #2TwithReducible",
  "yin :( ^yR :; :( :with_reducible :first :| :( :refine' ad_notin_b false S ?z1 ?z2 ?_ @5 #2Trefine' :; ^u1 :; ^k2 #5/null #1TtacticSeq1Indented #1TtacticSeq :) #3Tparen ! #2/group :| :( :refine' ad_notin_b true S ?z1 ?z2 ?_ @5 #2Trefine' :; ^u1 :; ^k2 #5/null #1TtacticSeq1Indented #1TtacticSeq :) #3Tparen ! #2/group :| :( :refine' ad_in_b true S ?z1 ?z2 ?_ @5 #2Trefine' :; ^u1 :; ^k2 #5/null #1TtacticSeq1Indented #1TtacticSeq :) #3Tparen ! #2/group :| :( :refine' ad_in_b false S ?z1 ?z2 ?_ @5 #2Trefine' :; ^u1 :; ^k2 #5/null #1TtacticSeq1Indented #1TtacticSeq :) #3Tparen ! #2/group #4/null #2Tfirst ! #2TwithReducible ! :) #3Tparen :; ^yS #5/null #1TtacticSeq1Indented #1TtacticSeq :) #3Tparen",
  "yad :( ^yR :; :with_reducible :( :refine' ad_sub S ?z1 ?z2 ?_ ?z3 @5 #2Trefine' :; ^u1 :; :( :case z2 #1/Lean/binderIdent #0/null #2TcaseArg #1/null :=> ~yva ! #4Tcase ! :) #3Tparen :; :( :case z3 #1/Lean/binderIdent #0/null #2TcaseArg #1/null :=> :with_unfolding_all :rfl #1TtacticRfl ! #2TwithUnfoldingAll ! #4Tcase ! :) #3Tparen #7/null #1TtacticSeq1Indented #1TtacticSeq :) #3Tparen :; ^yS #3/null #1TtacticSeq1Indented #1TtacticSeq #2TwithReducible #3/null #1TtacticSeq1Indented #1TtacticSeq :) #3Tparen",
  "yA :repeat :first :| ^yb ! #2/group :| ^yin ! #2/group :| ^yad ! #2/group #3/null #2Tfirst ! #2TtacticRepeat_",
  "yL :with_reducible :first :| :assumption #1Tassumption ! #2/group :| :exact Le.rfl #2Texact ! #2/group :| :( :apply Le.trans' #2Tapply :; :( :focus :assumption #1Tassumption ! #2Tfocus ! :) #3Tparen :; ~yL #5/null #1TtacticSeq1Indented #1TtacticSeq :) #3Tparen ! #2/group #3/null #2Tfirst ! #2TwithReducible",
  "ymf :( ^yR :; :with_reducible :( :( :first :| :refine' m_formals ?z1 S ?z2 ?_ @4 #2Trefine' ! #2/group :| :refine' m_tags ?z1 S ?z2 ?_ @4 #2Trefine' ! #2/group :| :refine' m_used ?z1 S ?z2 ?_ @4 #2Trefine' ! #2/group :| :refine' m_places ?z1 S ?z2 ?_ @4 #2Trefine' ! #2/group #4/null #2Tfirst ! :) #3Tparen :; ^u1 :; ^u2 #5/null #1TtacticSeq1Indented #1TtacticSeq :) #3Tparen :; ^yS #3/null #1TtacticSeq1Indented #1TtacticSeq #2TwithReducible #3/null #1TtacticSeq1Indented #1TtacticSeq :) #3Tparen",
  "yM :repeat :first :| ^yb ! #2/group :| ^yin ! #2/group :| ^yad ! #2/group :| ^ymf ! #2/group #4/null #2Tfirst ! #2TtacticRepeat_",
  "yat :( :with_reducible :( :refine' Assign_Tuple ?_ ?z1 ?z2 @3 #2Trefine' :; ^k1 :; ^k2 #5/null #1TtacticSeq1Indented #1TtacticSeq :) #3Tparen :; ^yM #3/null #1TtacticSeq1Indented #1TtacticSeq #2TwithReducible ! :) #3Tparen",
  "yslice :( ^yR :; :with_reducible :( :refine' r_upto S ?z1 ?_ ?z2 @4 #2Trefine' :; :( :case z1 #1/Lean/binderIdent #0/null #2TcaseArg #1/null :=> :with_unfolding_all :decide #0/null #1ToptConfig #2Tdecide ! #2TwithUnfoldingAll ! #4Tcase ! :) #3Tparen :; :( :case z2 #1/Lean/binderIdent #0/null #2TcaseArg #1/null :=> :intro _ _ #2/null #2Tintro :; :kernel_rfl! #1/PyProof/Rows/tacticKernel_rfl! #3/null #1TtacticSeq1Indented #1TtacticSeq #4Tcase ! :) #3Tparen #5/null #1TtacticSeq1Indented #1TtacticSeq :) #3Tparen ! #2TwithReducible #3/null #1TtacticSeq1Indented #1TtacticSeq :) #3Tparen",
  "yW :repeat :first :| ^yslice ! #2/group :| ^yb ! #2/group :| ^yin ! #2/group :| ^yad ! #2/group #4/null #2Tfirst ! #2TtacticRepeat_"]
def rdRow (i : Lean.SourceInfo) : Nat → String → Option Lean.Syntax
  | 0, _ => none
  | d + 1, key => (tacLines.find? (String.Internal.isPrefixOf (key ++ " "))).bind fun row => ((row.splitOn " ").tail.foldl (rdTok (fun k => (rdRow i d k).getD .missing) i) []).head?
def rd (s : Lean.TSyntax `str) : Lean.MacroM (Lean.TSyntax `tactic) := do
  match rdRow (.fromRef (← Lean.MonadRef.getRef)) 20 s.getString with
  | some t => return ⟨t⟩
  | none => Lean.Macro.throwUnsupported
end -- T0
section -- L11
open PySem.Calls

/-- an attribute of one's own is read and written plainly -/
noncomputable def getOk (K : Frag) (C : Addr) (name : Str) : Bool := plainGet K C name && hasDictIn K C && findIn K (.ref C) name == some none
noncomputable def setOk (K : Frag) (C : Addr) (name : Str) : Bool := plainOver K C && takerIn K C name == some none && hasDictIn K C && findIn K (.ref C) "__setattr__" == some (some (.builtin "object.__setattr__"))
noncomputable def mthOk (K : Frag) (C : Addr) (name : Str) (f : Addr) : Bool := plainGet K C name && findIn K (.ref C) name == some (some (.ref f)) && typeIn K (.ref f) == some (.type "function")

section
variable {prog : Program} {w : World} {A : Around} {E : Value → Shared → Prop} {s0 s : Shared} {G0 G : Heap} {W0 : List Addr} {mu mu' : List (Addr × Obj)} {env : Env} {ρ : Str → Option Value}
  {K : Frag} {C x d : Addr} {es : List DictEntry} {n : Nat} {name : Str} {v : Value}

theorem instAt (hx : s.heap.get? x = some (instObj C d)) (hd : s.heap.get? d = some (dictOf es n)) : InstAt s.heap x (instObj C d) C (some (dictOf es n)) := ⟨hx, rfl, rfl, hd⟩

theorem a_get {Q : Value → Shared → Prop} {ex : Bool} (S : St s0 G0 W0 G mu env ρ s) (X : K.In G0) (hx : s.heap.get? x = some (instObj C d)) (hd : s.heap.get? d = some (dictOf es n)) (hc : getOk K C name = true)
    (hl : getL name es = some (some v)) (hv : handedIn v = true) (h : ∀ s', St s0 G0 W0 G mu env ρ s' → Q v s') : wpAny (model prog w) A (getAttr (.ref x) name ex) Q E s := by
  simp only [getOk, Bool.and_eq_true, beq_iff_eq] at hc
  refine ob_cl hc ?_; try clear hc; rintro ⟨a, b⟩ c
  exact get_value (X.keeps S.le0) (instAt hx hd) (plainGet_of a).1 (findObj_own b c rfl (by rw [lookIn_dict]; exact hl)) hv (h _ (S.toks _))

theorem a_set {Q : Unit → Shared → Prop} (S : St s0 G0 W0 G mu env ρ s) (X : K.In G0) (hx : s.heap.get? x = some (instObj C d)) (hm : (d, dictOf es n) ∈ mu) (hc : setOk K C name = true)
    (hl : (getL name es).isSome = true) (hz : ∀ h t, (putL name h (.str name t) v es).length ≤ 1000)
    (h : ∀ s' hs t n', (∀ mu', Put d (dictOf es n) (dictOf (putL name hs (.str name t) v es) n') mu mu' → St s0 G0 W0 G mu' env ρ s') → Q () s') : wpAny (model prog w) A (setAttr (.ref x) name v) Q E s := unus (by exact trivial : Us (by
  simp only [setOk, Bool.and_eq_true, beq_iff_eq] at hc
  refine ob_cl hc ?_; try clear hc; rintro ⟨⟨hp, ht⟩, hh⟩ hs
  have X := X.keeps S.le0
  have D : s.heap.get? d = some (dictOf es n) := S.z.has hm
  have I := instAt hx D
  refine set_plain X I hs (osa_open (s := { s with toks := s.toks + 1 }) X I hp ht fun b => ?_)
  refine ob_ecl (any_some hh) ?_; intro cd hcd hd'
  have D' := Heap.get?_update_self (h := s.heap) (a := d) (Obj.putName name (PyData.keyHash w.params name) (.str name (s.toks + 1)) v) D (by rw [putName_dict]; rfl)
  rw [putName_dict] at D'
  refine wpAny_bind (wpAny_pure (wpAny_bind (wpAny_bind (wpAny_loadPart hx (wpAny_bind (looks_clsIn X hcd _ _ _ _ (fun _ _ e => e) ?_))))))
  rw [hd']
  refine wpAny_pure (a := some d) (wpAny_bind (wpAny_pure (wpAny_bind ?_)))
  unfold nsSet
  refine wpAny_bind (wpAny_bind (wpAny_askSetting (wpAny_pure (wpAny_bind (wpAny_mkText (wpAny_bind (wpAny_loadPart (s := { s with toks := s.toks + 1 + 1 }) D ?_)))))))
  have c : (!es.toArray.any (·.key.isStr name) && es.toArray.any (·.refKey)) = false := by
    rw [← Array.any_toList, ← Array.any_toList]
    unfold getL at hl
    split at hl
    · rename_i en he
      rw [List.any_eq_true.mpr ⟨en, List.mem_of_find?_eq_some he, List.find?_some he⟩]; rfl
    · split at hl
      · cases hl
      · rename_i z; rw [Bool.not_eq_true] at z; rw [z, Bool.and_false]
  show wpAny _ _ (if aRefKeyMayBeTheName name es.toArray = true then _ else _) _ _ _
  rw [aRefKeyMayBeTheName_at, c]
  refine wpAny_updatePart (s := { s with toks := s.toks + 1 + 1 }) D ?_
  refine wpAny_bind (wpAny_lookBehind (s := { s with heap := _, toks := s.toks + 1 + 1 }) D' (pastItsLine_dict (by rw [List.size_toArray, sizeLine_eq]; have := hz (PyData.keyHash w.params name) (s.toks + 1); omega)) ?_)
  exact wpAny_pure (h _ _ _ _ fun mu' P => (S.put (s' := { s with heap := s.heap.update d (Obj.putName name (PyData.keyHash w.params name) (.str name (s.toks + 1)) v) }) P rfl rfl (Heap.SameBut.update ..) D').keeps rfl rfl Le.rfl)))

theorem a_meth {Q : Value × List Value → Shared → Prop} {pl : Sem Bool} {f : Addr} (X : K.In s.heap) (hx : s.heap.get? x = some (instObj C d)) (hd : s.heap.get? d = some (dictOf es n)) (hc : mthOk K C name f = true)
    (hl : getL name es = some none) (h : Q (.ref f, [.ref x]) s) : wpAny (model prog w) A (getMethod (.ref x) name pl) Q E s := by
  simp only [mthOk, Bool.and_eq_true, beq_iff_eq] at hc
  refine ob_cl hc ?_; try clear hc; rintro ⟨a, b⟩ c
  exact method_fn X (instAt hx hd) (plainGet_of a).1 (plainGet_of a).2 b c (by show (lookIn name (dictOf es n)).map _ = _; rw [lookIn_dict, hl]; rfl) h

/-- a new object of a class: its init does the rest -/
theorem new_inst {Cn : Addr} {vs : List Value} {W Rs : List (Addr × Obj)} {f : Addr} {Pi : Addr → Addr → Heap → List (Addr × Obj) → Prop} {Q : Value → Shared → Prop} (S : St s0 G0 W0 G (W ++ Rs) env ρ s) (X : K.In G) (hm : makesIn K Cn = true)
    (hi : (findIn K (.ref Cn) "__init__" == some (some (.ref f)) && typeIn K (.ref f) == some (.type "function")) = true)
    (hinit : ∀ (A' : Around) (x d : Addr) (G1 : Heap) (s1 : Shared), (∀ m, Ok A (m + 1) → Ok A' m) → Le G G1 → G1.get? x = some (instObj Cn d) → Le G1 s1.heap → (∀ p ∈ ((d, emptyDict) :: W), s1.heap.get? p.1 = some p.2 ∧ G1.get? p.1 = none) →
      (((d, emptyDict) :: W).map Prod.fst).Nodup → codeAny (model prog w) A' (.call (.ref f) ⟨.ref x :: vs, []⟩) (Back s1 G1 (((d, emptyDict) :: W).map Prod.fst) fun G' W' v => v = .none ∧ Pi x d G' W') s1)
    (h : ∀ x d G' W' s', Le G G' → G'.get? x = some (instObj Cn d) → s0.heap.get? d = none → Pi x d G' W' → St s0 G0 W0 G' (W' ++ Rs) env ρ s' → Q (.ref x) s') :
    wpAny (model prog w) A (call (.ref Cn) vs) Q E s := unus (by exact trivial : Us (by
  simp only [Bool.and_eq_true, beq_iff_eq] at hi
  have S1 := S.push emptyDict rfl
  have S2 := S1.push (instObj Cn s.heap.objs.size) rfl
  have n0 : s0.heap.get? s.heap.objs.size = none := by
    cases e : s0.heap.get? s.heap.objs.size with
    | none => rfl
    | some o => exact absurd (get_ge (Nat.le_refl _)) (S.z.dom _ (ne_none e))
  have n1 : s0.heap.get? (s.heap.push emptyDict).objs.size = none := by
    cases e : s0.heap.get? (s.heap.push emptyDict).objs.size with
    | none => rfl
    | some o => exact absurd (get_ge (Nat.le_refl _)) (S1.z.dom _ (ne_none e))
  refine ob_eccl (S2.freeze n1) ?_; intro G1 g1 g2 S3
  have hsz : (s.heap.push emptyDict).objs.size = s.heap.objs.size + 1 := Heap.size_push ..
  obtain ⟨hh, gg, dd, tt, oo⟩ := s
  refine wpAny_call (make_core (makes_of (X.keeps S.z.gs) hm) (looks_findIn (X.keeps S.z.gs) hi.1) (fun self => bind_fn (X.keeps S.z.gs) self hi.2) (.inl rfl) ?_)
  have S3' : St s0 G0 W0 G1 (((hh.objs.size, emptyDict) :: W) ++ Rs) env ρ ⟨(hh.push emptyDict).push (instObj Cn hh.objs.size), gg, dd, tt, oo⟩ := S3
  have sub := S3'.sub (List.sublist_append_left ((hh.objs.size, emptyDict) :: W) Rs)
  refine codeAny_mono (hinit (A.under (.builtin "type.__call__" ⟨.ref Cn :: vs, []⟩)) (hh.objs.size + 1) hh.objs.size G1 _ (fun m O => ⟨O.h, ?_, ?_⟩) g1 (by rw [← hsz]; exact g2) sub.z.gs (fun p hp => ⟨(sub.z.mt p hp).1, (sub.z.mt p hp).2.1⟩) sub.z.md) fun r s' hr => ?_
  · have := O.d
    have e : (Code.builtin "type.__call__" ⟨.ref Cn :: vs, []⟩).weight ≤ 1 := Nat.le_of_ble_eq_true (by kernel_rfl!)
    show A.depth + _ + m < _
    omega
  · have := O.u
    have e : (Code.builtin "type.__call__" ⟨.ref Cn :: vs, []⟩).cUnits ≤ 20 := Nat.le_of_ble_eq_true (by kernel_rfl!)
    show A.units + _ + 20 * m + 200 < _
    omega
  · refine ob_eeecccl hr ?_; try clear hr; rintro v G' W' rfl T rfl hp
    refine ⟨rfl, ?_⟩
    exact h _ _ G' W' s' (g1.trans T.g0) (T.g0 _ _ (by rw [← hsz]; exact g2)) n0 hp (S3'.back T)))
end
end -- L11
section -- L12
open PySem.Calls PySem.Spec

section
variable {prog : Program} {w : World} {A : Around} {E : Value → Shared → Prop} {s0 s : Shared} {G0 G : Heap} {W0 : List Addr} {mu mu' : List (Addr × Obj)} {env : Env} {ρ : Str → Option Value}
  {K : Type} [DecidableEq K] {knd : KeyKind prog w K} {d : Addr} {o : Obj} {kvs : List (K × Value)} {k : K} {key v dflt : Value}

theorem dOf {h : Heap} (hd : h.get? d = some o) (ho : o.IsDictOf knd kvs) : h.DictOf knd d kvs := Heap.dictOf_iff.mpr ⟨o, hd, ho⟩
theorem sysNe (hd : d ≠ sysModules) : (d == sysModules) = false := by simpa using hd

theorem d_sub {value slice : Expr} {Q : Value → Shared → Prop} (S : St s0 G0 W0 G mu env ρ s) (hd : s.heap.get? d = some o) (ho : o.IsDictOf knd kvs) (hk : knd.is k key = true) (hl : valueAt kvs k = some v) (h : ∀ s', St s0 G0 W0 G mu env ρ s' → Q v s')
    (hs : subscripted slice false (.ref d) key = operate [.ref d, key] (getItem (.ref d) key)) : wpAny (model prog w) A (subscriptTail value slice (.ref d) key) Q E s :=
  tail_any (dOf hd ho).typeIs slot_dict_getitem.lookup (wpAny_getItem_of hk (dOf hd ho).mapOf hl (h _ (S.toks _))) hs
theorem d_in {Q : Value → Shared → Prop} (S : St s0 G0 W0 G mu env ρ s) (hd : s.heap.get? d = some o) (ho : o.IsDictOf knd kvs) (hn : d ≠ sysModules) (hk : knd.is k key = true) (h : ∀ s', St s0 G0 W0 G mu env ρ s' → Q (.bool (valueAt kvs k).isSome) s') :
    wpAny (model prog w) A (compareOp .In key (.ref d)) Q E s := wpAny_in_of hk (sysNe hn) (dOf hd ho).mapOf (h _ (S.toks _))
theorem d_notin {Q : Value → Shared → Prop} (S : St s0 G0 W0 G mu env ρ s) (hd : s.heap.get? d = some o) (ho : o.IsDictOf knd kvs) (hn : d ≠ sysModules) (hk : knd.is k key = true) (h : ∀ s', St s0 G0 W0 G mu env ρ s' → Q (.bool (!(valueAt kvs k).isSome)) s') :
    wpAny (model prog w) A (compareOp .NotIn key (.ref d)) Q E s := wpAny_notIn_of hk (sysNe hn) (dOf hd ho).mapOf (h _ (S.toks _))
theorem d_len {Q : Value → Shared → Prop} (S : St s0 G0 W0 G mu env ρ s) (hd : s.heap.get? d = some o) (ho : o.IsDictOf knd kvs) (hn : d ≠ sysModules) (hz : kvs.length < 2 ^ 62) (h : ∀ t s', St s0 G0 W0 G mu env ρ s' → Q (.int kvs.length t) s') :
    wpAny (model prog w) A (call (.builtin "len") [.ref d]) Q E s := call_len_dict (sysNe hn) (dOf hd ho) (by omega) (h _ _ (S.toks _))
theorem d_meth {name : Str} {id : String} {pl : Sem Bool} {Q : Value × List Value → Shared → Prop} (slot : Slot "dict" name id) (ty : typeOf (.builtin id) = pure (.type "method_descriptor")) (hd : s.heap.get? d = some o) (ho : o.IsDictOf knd kvs) (h : Q (.builtin id, [.ref d]) s) :
    wpAny (model prog w) A (getMethod (.ref d) name pl) Q E s := getMethod_builtin (dOf hd ho).typeIs PySem.F.plainAttrs_dict slot ty (dOf hd ho).mapOf.noDict h
theorem d_get {Q : Value → Shared → Prop} (S : St s0 G0 W0 G mu env ρ s) (hd : s.heap.get? d = some o) (ho : o.IsDictOf knd kvs) (hn : d ≠ sysModules) (hk : knd.is k key = true) (h : ∀ s', St s0 G0 W0 G mu env ρ s' → Q ((valueAt kvs k).getD .none) s') :
    wpAny (model prog w) A (call (.builtin "dict.get") [.ref d, key]) Q E s :=
  call_meetsIn PySem.F.slot_dict_get (dOf hd ho).typeIs PySem.F.entry_dict_get (PySem.F.args_dict_get_2 _ _) (meets_dict_get knd d hk (sysNe hn)) ⟨_, (dOf hd ho).mapOf, h _ (S.toks _)⟩

theorem d_put {h' : Heap} {tk : Nat} {kvs' : List (K × Value)} (S : St s0 G0 W0 G mu env ρ s) (hm : h'.DictOf knd d kvs') (hs : Heap.SameBut d s.heap h') :
    ∃ o', o'.IsDictOf knd kvs' ∧ ∀ mu', Put d o o' mu mu' → St s0 G0 W0 G mu' env ρ { s with heap := h', toks := tk } := by
  refine ob_ecl (Heap.dictOf_iff.mp hm) ?_; intro o' e ho'
  exact ⟨o', ho', fun mu' P => (S.put (s' := { s with heap := h' }) P rfl rfl hs e).keeps rfl rfl Le.rfl⟩
theorem d_set {Q : Unit → Shared → Prop} (S : St s0 G0 W0 G mu env ρ s) (hm : (d, o) ∈ mu) (ho : o.IsDictOf knd kvs) (hk : knd.is k key = true) (hz : kvs.length ≤ sizeLine)
    (h : ∀ s' o', o'.IsDictOf knd (stored kvs k v) → (∀ mu', Put d o o' mu mu' → St s0 G0 W0 G mu' env ρ s') → Q () s') : wpAny (model prog w) A (setItem (.ref d) key v) Q E s := by
  refine wpAny_setItem_pairs (hsz := hz) hk (dOf (S.z.has hm) ho) fun h' hmm hs => ?_
  refine ob_ecl (d_put (o := o) (tk := s.toks + 1) S hmm hs) ?_; intro o' a b
  exact h _ o' a b
theorem d_setdef {Q : Value → Shared → Prop} (S : St s0 G0 W0 G mu env ρ s) (hm : (d, o) ∈ mu) (ho : o.IsDictOf knd kvs) (hn : d ≠ sysModules) (hk : knd.is k key = true) (hargs : argsOk "dict.setdefault" ⟨[.ref d, key, dflt], []⟩) (hz : kvs.length ≤ sizeLine)
    (h1 : ∀ v s', valueAt kvs k = some v → St s0 G0 W0 G mu env ρ s' → Q v s')
    (h2 : valueAt kvs k = none → ∀ s' o', o'.IsDictOf knd (stored kvs k dflt) → (∀ mu', Put d o o' mu mu' → St s0 G0 W0 G mu' env ρ s') → Q dflt s') : wpAny (model prog w) A (call (.builtin "dict.setdefault") [.ref d, key, dflt]) Q E s := by
  have hD := dOf (S.z.has hm) ho
  refine call_meetsIn PySem.F.slot_dict_setdefault hD.typeIs PySem.F.entry_dict_setdefault hargs (kt_meets_setdefault knd d hk (sysNe hn) dflt) ⟨kvs, hD, hz, fun v hv => h1 v _ hv (S.toks _), fun hv h' hmm hs => ?_⟩
  refine ob_ecl (d_put (o := o) (tk := s.toks + 1) S hmm hs) ?_; intro o' a b
  exact h2 hv _ o' a b
theorem d_update {e : Addr} {oe : Obj} {more : List (K × Value)} {Q : Value → Shared → Prop} (S : St s0 G0 W0 G mu env ρ s) (hm : (d, o) ∈ mu) (ho : o.IsDictOf knd kvs) (he : s.heap.get? e = some oe) (hoe : oe.IsDictOf knd more) (hne : d ≠ e) (hn : e ≠ sysModules)
    (hz : kvs.length + more.length ≤ sizeLine) (h : ∀ s' o', o'.IsDictOf knd (merged kvs more) → (∀ mu', Put d o o' mu mu' → St s0 G0 W0 G mu' env ρ s') → Q .none s') : wpAny (model prog w) A (call (.builtin "dict.update") [.ref d, .ref e]) Q E s := by
  have hD := dOf (S.z.has hm) ho
  refine call_meetsIn PySem.F.slot_dict_update hD.typeIs PySem.F.entry_dict_update (PySem.F.args_dict_update_2 _ _) (meets_dict_update knd d e hne (sysNe hn)) ⟨kvs, more, hD, dOf he hoe, hz, fun h' hmm _ hs => ?_⟩
  refine ob_ecl (d_put (o := o) (tk := s.toks) S hmm hs) ?_; intro o' a b
  exact h _ o' a b

theorem dict_nil : (knd : KeyKind prog w K) → ({ cls := .type "dict", data := .dict #[] } : Obj).IsDictOf knd ([] : List (K × Value)) := fun _ => ⟨#[], 0, ⟨rfl, rfl, rfl⟩, rfl, fun _ h => by simp at h, .nil, by simp⟩
theorem d_empty {pos : Pos} {Q : Value → Shared → Prop} (S : St s0 G0 W0 G mu env ρ s) (h : ∀ a s', s0.heap.get? a = none → St s0 G0 W0 G ((a, emptyDict) :: mu) env ρ s' → Q (.ref a) s') : wpAny (model prog w) A (eval (.Dict [] [] pos) env) Q E s :=
  wpAny_Dict_empty (h _ _ (S.new (get_ge (Nat.le_refl _))) (S.push _ rfl))
/-- a display: the values first -/
theorem d_show {keys : List (Option Expr)} {values : List Expr} {pos : Pos} {Q : Value → Shared → Prop} (knd : KeyKind prog w K) (hall : (keys.all (·.isSome) && keys.length == values.length && !keys.isEmpty && decide (keys.length ≤ 15)) = true)
    (h : ∀ a s', s0.heap.get? a = none → s'.heap.get? a = some emptyDict → (∀ mu, St s0 G0 W0 G mu env ρ s → St s0 G0 W0 G ((a, emptyDict) :: mu) env ρ s') →
      wpAny (model prog w) A (evalPairs (pairTrees keys values env pos)) (fun vs s₁ => ∃ kvs G1 mu1, Carries knd vs kvs ∧ St s0 G0 W0 G1 ((a, emptyDict) :: mu1) env ρ s₁ ∧ ∀ s₂ o, o.IsDictOf knd (merged [] kvs) → St s0 G0 W0 G1 ((a, o) :: mu1) env ρ s₂ → Q (.ref a) s₂) E s')
    (S : St s0 G0 W0 G mu env ρ s) : wpAny (model prog w) A (eval (.Dict keys values pos) env) Q E s := unus (by exact trivial : Us (by
  simp only [Bool.and_eq_true, beq_iff_eq, Bool.not_eq_true', List.isEmpty_eq_false_iff, decide_eq_true_eq] at hall
  refine ob_cl hall ?_; try clear hall; rintro ⟨⟨a, b⟩, c⟩ e
  have nn := S.new (get_ge (Nat.le_refl s.heap.objs.size))
  refine wpAny_Dict_walk (knd := knd) a b c e (wpAny_mono (h s.heap.objs.size _ nn (Heap.get?_push_size _ rfl) fun mu S => S.push _ rfl) (fun vs s₁ h₁ => ?_) fun _ _ x => x)
  refine ob_eeeccl h₁ ?_; try clear h₁; intro kvs G1 mu1 hc S1 hQ
  refine ⟨kvs, hc, dOf (S1.z.has (.head _)) (dict_nil knd), fun h' hmm hs => ?_⟩
  refine ob_ecl (d_put (o := emptyDict) (tk := s₁.toks + vs.length) S1 hmm hs) ?_; intro o' a b
  exact hQ _ o' a (b _ .head)))
end
end -- L12
section -- L13
open PySem.Calls PySem.Spec

noncomputable def okDict (d : Addr) (n ep : Nat) (i : Nat) (o : Obj) : Prop := o.cls = .type "dict_keyiterator" ∧ o.data = .fields #[.ref d, .int i 0, .int n 0, .int ep 0]
theorem Steps.dict {prog : Program} {w : World} {A : Around} {K : Type} [DecidableEq K] {knd : KeyKind prog w K} (hh : A.handled = none) (d I : Addr) (kvs : List (K × Value)) (ep : Nat) :
    Steps prog w A (fun h => h.DictAt knd d kvs ep) I kvs.length (fun i v => ∃ k x, kvs[i]? = some (k, x) ∧ knd.is k v = true) (okDict d kvs.length ep) where
  item := fun i s o Q E hi hl ho hk hQ => by
    obtain ⟨⟨k, x⟩, hx⟩ : ∃ p, kvs[i]? = some p := ⟨kvs[i], by simp [hi]⟩
    refine wpAny_pyNext_dict_item (i := i) ⟨o, ho, hk.1, hk.2⟩ hl hx fun key h' hkey hit' hs' => ?_
    refine ob_eccl hit' ?_; try clear hit'; intro o' e a b
    exact hQ _ h' s.toks o' ⟨k, x, hx, hkey⟩ hs' e ⟨a, b⟩
  done := fun s o Q E hl ho hk hQ => wpAny_pyNext_dict_end hh ⟨o, ho, hk.1, hk.2⟩ hl (by simp) fun h' he' => hQ h' s.toks he'
  go := fun i s o target v Q E ho hk h => go_any ho hk.1 hk.2 (by decide) h
  self := fun i s o Q E ho hk h => by
    have hT : s.TypeIs (.ref I) "dict_keyiterator" := ⟨o, ho, hk.1⟩
    exact wpAny_pyIter_slot hT PySem.F.slot_dict_keyiterator_iter (wpAny_call_entry PySem.F.slot_dict_keyiterator_iter hT PySem.F.entry_dict_keyiterator_iter (wpAny_pure ⟨_, rfl, "dict_keyiterator", _, hT, PySem.F.slot_dict_keyiterator_next.lookup, h⟩) (PySem.F.args_dict_keyiterator_iter_1 _))

noncomputable abbrev Run (w : World) (A : Around) (s : Shared) (G : Heap) (W : List (Addr × Obj)) (a : Addr) (vs : List Value) (P : Heap → List (Addr × Obj) → Value → Prop) : Prop :=
  Le G s.heap → (∀ p ∈ W, s.heap.get? p.1 = some p.2 ∧ G.get? p.1 = none) → (W.map Prod.fst).Nodup → codeAny (model pw w) A (.call (.ref a) ⟨vs, []⟩) (Back s G (W.map Prod.fst) P) s

/-- what is left to do, as one letter -/
noncomputable def Cont (P Q : Flow → Shared → Prop) : Prop := ∀ f s, P f s → Q f s
/-- the rest of a block -/
noncomputable def Seqs (w : World) (A : Around) (rest : List Stmt) (env : Env) (Q : Flow → Shared → Prop) (E : Value → Shared → Prop) : Flow → Shared → Prop :=
  fun f s' => match f with | .next => wpAny (model pw w) A (execs rest env) Q E s' | f => Q f s'
theorem execs_cut {w : World} {A : Around} {x : Stmt} {rest : List Stmt} {env : Env} {Q : Flow → Shared → Prop} {E : Value → Shared → Prop} {s : Shared}
    (h : ∀ Qx, Cont (Seqs w A rest env Q E) Qx → wpAny (model pw w) A (exec x env) Qx E s) : wpAny (model pw w) A (execs (x :: rest) env) Q E s := wpAny_execs_cons (h _ fun _ _ e => e)
theorem Cont.next {w : World} {A : Around} {rest : List Stmt} {env : Env} {Q Qx : Flow → Shared → Prop} {E : Value → Shared → Prop} {s : Shared} (c : Cont (Seqs w A rest env Q E) Qx) (h : wpAny (model pw w) A (execs rest env) Q E s) : Qx .next s := c .next s h
theorem Cont.ret {w : World} {A : Around} {rest : List Stmt} {env : Env} {Q Qx : Flow → Shared → Prop} {E : Value → Shared → Prop} {s : Shared} {v : Value} (c : Cont (Seqs w A rest env Q E) Qx) (h : Q (.ret v) s) : Qx (.ret v) s := c (.ret v) s h
theorem Cont.cnt {w : World} {A : Around} {rest : List Stmt} {env : Env} {Q Qx : Flow → Shared → Prop} {E : Value → Shared → Prop} {s : Shared} (c : Cont (Seqs w A rest env Q E) Qx) (h : Q .cont s) : Qx .cont s := c .cont s h
theorem Cont.brk {w : World} {A : Around} {rest : List Stmt} {env : Env} {Q Qx : Flow → Shared → Prop} {E : Value → Shared → Prop} {s : Shared} (c : Cont (Seqs w A rest env Q E) Qx) (h : Q .brk s) : Qx .brk s := c .brk s h
/-- a def's end -/
noncomputable def RetQ (s0 : Shared) (G0 : Heap) (W0 : List Addr) (P : Heap → List (Addr × Obj) → Value → Prop) : Flow → Shared → Prop := fun f s' => Back s0 G0 W0 P (.ok (.ret (match f with | .ret v => v | _ => .none))) s'
theorem Cont.retR {s0 s : Shared} {G0 : Heap} {W0 : List Addr} {P : Heap → List (Addr × Obj) → Value → Prop} {Q : Flow → Shared → Prop} {v : Value} (c : Cont (RetQ s0 G0 W0 P) Q) (h : Back s0 G0 W0 P (.ok (.ret v)) s) : Q (.ret v) s := c (.ret v) s h
theorem Cont.nextR {s0 s : Shared} {G0 : Heap} {W0 : List Addr} {P : Heap → List (Addr × Obj) → Value → Prop} {Q : Flow → Shared → Prop} (c : Cont (RetQ s0 G0 W0 P) Q) (h : Back s0 G0 W0 P (.ok (.ret .none)) s) : Q .next s := c .next s h
/-- a loop's turn's end -/
noncomputable def LoopK (s0 : Shared) (G0 : Heap) (W0 : List Addr) (env : Env) (it : Addr × Obj) (Inv : Heap → List (Addr × Obj) → (Str → Option Value) → Prop) (G : Heap) (Q : Flow → Shared → Prop) : Flow → Shared → Prop :=
  fun f s => match f with
    | .next | .cont => ∃ G' mu ρ, Le G G' ∧ Inv G' mu ρ ∧ St s0 G0 W0 G' (it :: mu) env ρ s
    | .brk => Q .next s
    | .ret v => Q (.ret v) s
noncomputable def goes : Flow → Bool
  | .next => true
  | .cont => true
  | _ => false
section
variable {s0 s : Shared} {G0 G G' : Heap} {W0 : List Addr} {env : Env} {it : Addr × Obj} {Inv : Heap → List (Addr × Obj) → (Str → Option Value) → Prop} {Q Qb : Flow → Shared → Prop} {mu : List (Addr × Obj)} {ρ : Str → Option Value} {f : Flow} {v : Value}
theorem Cont.go (c : Cont (LoopK s0 G0 W0 env it Inv G Q) Qb) (hf : goes f = true) (hg : Le G G') (hI : Inv G' mu ρ) (S : St s0 G0 W0 G' (it :: mu) env ρ s) : Qb f s := unus (by exact trivial : Us (by
  cases f with
  | next => exact c .next s ⟨_, _, _, hg, hI, S⟩
  | cont => exact c .cont s ⟨_, _, _, hg, hI, S⟩
  | brk => cases hf
  | ret v => cases hf))
theorem Cont.retL (c : Cont (LoopK s0 G0 W0 env it Inv G Q) Qb) (h : Q (.ret v) s) : Qb (.ret v) s := c (.ret v) s h
theorem Cont.brkL (c : Cont (LoopK s0 G0 W0 env it Inv G Q) Qb) (h : Q .next s) : Qb .brk s := c .brk s h
end
/-- a loop that is to be walked -/
noncomputable def ForGoal (w : World) (A : Around) (target : Expr) (body : List Stmt) (env : Env) (Q : Flow → Shared → Prop) (E : Value → Shared → Prop) (it : Value) (s : Shared) : Prop :=
  codeAny (model pw w) A (.forLoop target it body [] env) (fun r s' => match r with | .ok f => Q f s' | .error e => cameBackBy (model pw w) A env E e s') s
theorem r_for {w : World} {A : Around} {target iter : Expr} {body : List Stmt} {pos : Pos} {env : Env} {Q : Flow → Shared → Prop} {E : Value → Shared → Prop} {s : Shared}
    (h : wpAny (model pw w) A (eval iter env) (fun x s₁ => wpAny (model pw w) A (pyIter x) (ForGoal w A target body env Q E) E s₁) E s) (hs : ∀ x, foldedSetIterable iter env x = pure x) :
    wpAny (model pw w) A (exec (.For target iter body [] pos) env) Q E s := wpAny_For h hs

section
variable {w : World} {A : Around} {E : Value → Shared → Prop} {s0 s : Shared} {G0 G : Heap} {W0 : List Addr} {mu mu' : List (Addr × Obj)} {env : Env} {ρ : Str → Option Value}

theorem Run.enter {a : Addr} {st : Stmt} {n : Nat} {W : List (Addr × Obj)} {vs : List Value} {P : Heap → List (Addr × Obj) → Value → Prop} (X : FnAt G a st) (hlim : G.NoLimit) (O : Ok A (n + 1)) (binds : List (Str × Value))
    (hbind : ∀ nm q kV doc pm an cdv ct, BindsTo s (fnOf nm q (prmOf st) (bdyOf st) (scpOf st) .none kV doc pm an cdv ct) ⟨vs, []⟩ binds) (hb : (okBinds (scpOf st) binds && okScope (scpOf st) && dflN st == 0) = true)
    (h : ∀ {A' : Around} {W0 : List Addr} fp s₁, St s G W0 G W (fenv st fp) (rho binds) s₁ → Ok A' n → ∀ Qr, Cont (RetQ s G W0 P) Qr → W0 = W.map Prod.fst →
      wpAny (model pw w) A' (execs (bdyOf st) (fenv st fp)) Qr (fun _ _ => False) s₁) : Run w A s G W a vs P := unus (by exact trivial : Us (by
  intro hG hm hd
  simp only [Bool.and_eq_true, beq_iff_eq] at hb
  refine ob_cl hb ?_; try clear hb; rintro ⟨b1, b2⟩ b3
  refine Mine.enter X hG hlim (by have := O.d; omega) (fun nm q dV kV doc pm an cdv ct h0 _ => ?_) b1 b2 hm hd fun q cdv s₁ S => h ⟨q, cdv, _, a⟩ s₁ S O.deeper _ (fun _ _ e => e) rfl
  obtain rfl := h0 b3
  exact hbind nm q kV doc pm an cdv ct))

theorem St.call {a : Addr} {st : Stmt} {vs : List Value} {W Rs : List (Addr × Obj)} {P : Heap → List (Addr × Obj) → Value → Prop} {Q : Value → Shared → Prop} (S : St s0 G0 W0 G (W ++ Rs) env ρ s) (X : FnAt G a st) (hc : Run w A s G W a vs P)
    (h : ∀ v G' W' s', Le G G' → St s0 G0 W0 G' (W' ++ Rs) env ρ s' → P G' W' v → (∀ p ∈ W', p.1 ∈ W.map Prod.fst ∨ s0.heap.get? p.1 = none) → Q v s') : Kept (.ref a) s ∧ wpAny (model pw w) A (call (.ref a) vs) Q E s := unus (by exact trivial : Us (by
  have sub := S.sub (List.sublist_append_left W Rs)
  refine ⟨kept_fn (X.up S.z.gs), wpAny_call (codeAny_mono (hc S.z.gs (fun p hp => ⟨(sub.z.mt p hp).1, (sub.z.mt p hp).2.1⟩) sub.z.md) fun r s' hr => ?_)⟩
  refine ob_eeeccl hr ?_; try clear hr; rintro v G' W' rfl T hp
  refine h v G' W' s' T.g0 (S.back T) hp fun p hp => ?_
  rcases (T.mt p hp).2.2 with q | q
  · exact .inl q
  · refine .inr ?_
    cases e : s0.heap.get? p.1 with
    | none => rfl
    | some o => exact absurd q (S.z.dom _ (ne_none e))))

theorem for_it {target : Expr} {body : List Stmt} {n : Nat} {P : Nat → Value → Prop} {it : Value} {Q : Flow → Shared → Prop}
    (T : IterFor (model pw w).prog w A s0 G0 W0 G mu env ρ n P it s)
    (Inv : Nat → Heap → List (Addr × Obj) → (Str → Option Value) → Prop) (h0 : Inv 0 G mu ρ)
    (turn : ∀ i v G' mu' ρ' s' it E', i < n → P i v → Le G G' → Inv i G' mu' ρ' → St s0 G0 W0 G' (it :: mu') env ρ' s' → ∀ Qb, Cont (LoopK s0 G0 W0 env it (Inv (i + 1)) G' Q) Qb →
      wpAny (model pw w) A (assign target env v) (fun _ s₂ => wpAny (model pw w) A (execs body env) Qb E' s₂) E' s')
    (fin : ∀ G' mu' ρ' s', Le G G' → Inv n G' mu' ρ' → St s0 G0 W0 G' mu' env ρ' s' → Q .next s') : ForGoal w A target body env Q E it s := by
  refine ob_eeeecccccl T ?_; try clear T; rintro I o Gq ok rfl W hG hI hok S
  refine for_walk W hG S hI hok Inv h0 (fun i v G' mu' ρ' s' it E' hi hP hg hinv S => turn i v G' mu' ρ' s' it E' hi hP hg hinv S _ fun f s₃ h => ?_) fin
  cases f <;> exact h

theorem iter_dict {K : Type} [DecidableEq K] {knd : KeyKind pw w K} {d : Addr} {od : Obj} {kvs : List (K × Value)} (hh : A.handled = none) {Q : Value → Shared → Prop} (S : St s0 G0 W0 G mu env ρ s) (hl : G.get? d = some od) (ho : od.IsDictOf knd kvs) (hn : d ≠ sysModules)
    (h : ∀ it s', IterFor pw w A s0 G0 W0 G mu env ρ kvs.length (fun i v => ∃ k x, kvs[i]? = some (k, x) ∧ knd.is k v = true) it s' → Q it s') : wpAny (model pw w) A (pyIter (.ref d)) Q E s := by
  refine ob_el ((dOf hl ho).dictAt) ?_; intro ep hd
  refine wpAny_pyIter_dict (sysNe hn) (hd.keep S.z.gs) (h _ _ ⟨_, _, _, _, rfl, Steps.dict (knd := knd) hh d _ kvs ep, fun h k => hd.keep k, S.new (get_ge (Nat.le_refl _)), ⟨rfl, rfl⟩, S.push _ rfl⟩)

/-- let a tuple go apart into names -/
theorem assign_tup {elts : List Expr} {k : Nat} {pos : Pos} {t : Addr} {vs : List Value} {Q : Unit → Shared → Prop} (hh : A.handled = none) (S : St s0 G0 W0 G mu env ρ s) (ht : s.heap.get? t = some (tup vs)) (hn : (assignEach elts env).length = vs.length)
    (hs : (assignEach elts env).findIdx? (·.1) = none) (h : ∀ s', St s0 G0 W0 G mu env ρ s' → wpAny (model pw w) A (assignInOrder ((assignEach elts env).map (·.2)) vs) Q E s') : wpAny (model pw w) A (assign (.Tuple elts k pos) env (.ref t)) Q E s := unus (by exact trivial : Us (by
  refine wpAny_assign_Tuple hh ⟨_, ht, rfl, _, rfl⟩ (by simpa using hn) hs fun h' he => ?_
  have S1 := S.push emptyDict rfl
  have n0 := S.new (get_ge (Nat.le_refl s.heap.objs.size))
  have S2 : St s0 G0 W0 G mu env ρ { s with heap := h' } := by
    have md := S1.z.md
    rw [List.map_cons, List.nodup_cons] at md
    refine S.ext rfl rfl he n0 (S1.z.mt _ (.head _)).2.1 (fun q hq e => md.1 (List.mem_map.mpr ⟨q, hq, e⟩)) (Ne.symm (S1.f.lm _ (.head _))) fun x c h nl => Ne.symm (S1.f.cm x c h nl _ (.head _))
  exact h _ S2))

/-- two names out of a pair -/
theorem assign_two {x y : Str} {px py : Pos} {k : Nat} {pos : Pos} {t : Addr} {a b : Value} {Q : Unit → Shared → Prop} (hh : A.handled = none) (S : St s0 G0 W0 G mu env ρ s) (ht : s.heap.get? t = some (tup [a, b])) (hk : env.scope.kind = .function) (hx : isOwn env x = true) (hy : isOwn env y = true)
    (h : ∀ s', St s0 G0 W0 G mu env (upd (upd ρ x a) y b) s' → Q () s') : wpAny (model pw w) A (assign (.Tuple [.Name x px, .Name y py] k pos) env (.ref t)) Q E s := by
  refine assign_tup hh S ht rfl rfl fun s' S' => ?_
  refine assignInOrder_cons (wpAny_assign_Name (S'.st hk hx fun s1 S1 => ?_))
  exact assignInOrder_cons (wpAny_assign_Name (S1.st hk hy fun s2 S2 => assignInOrder_nil (h s2 S2)))
theorem assign_three {x y z : Str} {px py pz : Pos} {k : Nat} {pos : Pos} {t : Addr} {a b c : Value} {Q : Unit → Shared → Prop} (hh : A.handled = none) (S : St s0 G0 W0 G mu env ρ s) (ht : s.heap.get? t = some (tup [a, b, c])) (hk : env.scope.kind = .function)
    (hx : isOwn env x = true) (hy : isOwn env y = true) (hz : isOwn env z = true)
    (h : ∀ s', St s0 G0 W0 G mu env (upd (upd (upd ρ x a) y b) z c) s' → Q () s') : wpAny (model pw w) A (assign (.Tuple [.Name x px, .Name y py, .Name z pz] k pos) env (.ref t)) Q E s := by
  refine assign_tup hh S ht rfl rfl fun s' S' => ?_
  refine assignInOrder_cons (wpAny_assign_Name (S'.st hk hx fun s1 S1 => ?_))
  refine assignInOrder_cons (wpAny_assign_Name (S1.st hk hy fun s2 S2 => ?_))
  exact assignInOrder_cons (wpAny_assign_Name (S2.st hk hz fun s3 S3 => assignInOrder_nil (h s3 S3)))
end
end -- L13
section -- L14
open PySem.Calls PySem.Spec

theorem PG.at {w : World} {G : Heap} (P : PG w G) (n : Str) (i : Nat) (h : fnTab.contains (n, i) = true) : ∃ a, Glob G n (.ref a) ∧ FnAt G a (stm i) := P.fn n i (List.contains_iff_mem.mp h)

theorem Le.at {G H : Heap} (k : Le G H) {a : Addr} {o : Obj} (h : G.get? a = some o) : H.get? a = some o := k a o h
theorem of_decide_false' {p : Prop} [Decidable p] (h : ¬ p) : ¬ (decide p = true) := fun q => h (of_decide_eq_true q)
section
variable {w : World} {G : Heap}
theorem PG.len (P : PG w G) : Glob G "len" (.builtin "len") := P.blt _ _ (by simp [bltV])
theorem PG.range (P : PG w G) : Glob G "range" (.type "range") := P.blt _ _ (by simp [bltV])
theorem PG.str (P : PG w G) : Glob G "str" (.type "str") := P.blt _ _ (by simp [bltV])
theorem PG.int (P : PG w G) : Glob G "int" (.type "int") := P.blt _ _ (by simp [bltV])
theorem PG.abs (P : PG w G) : Glob G "abs" (.builtin "abs") := P.blt _ _ (by simp [bltV])
theorem PG.list (P : PG w G) : Glob G "list" (.type "list") := P.blt _ _ (by simp [bltV])
theorem PG.max (P : PG w G) : Glob G "max" (.builtin "max") := P.blt _ _ (by simp [bltV])
theorem PG.isin (P : PG w G) : Glob G "isinstance" (.builtin "isinstance") := P.blt _ _ (by simp [bltV])
end
noncomputable def ves (h : Nat → Int) (t : Nat → Tok) (k it at' sh lo : Value) : List DictEntry :=
  [⟨h 0, .str "kind" (t 0), k⟩, ⟨h 1, .str "items" (t 1), it⟩, ⟨h 2, .str "attrs" (t 2), at'⟩, ⟨h 3, .str "shared" (t 3), sh⟩, ⟨h 4, .str "loose" (t 4), lo⟩]
theorem St.has {s0 s : Shared} {G0 G : Heap} {W0 : List Addr} {mu : List (Addr × Obj)} {env : Env} {ρ : Str → Option Value} (S : St s0 G0 W0 G mu env ρ s) {a : Addr} {o : Obj} (h : (a, o) ∈ mu) : s.heap.get? a = some o := S.z.has h
/-- a vector's own dict -/
structure VD (o : Obj) (k : Str) (l : Addr) (at' : Value) : Prop where
  ex : ∃ h t tk sh lo n, o = dictOf (ves h t (.str k tk) (.ref l) at' sh lo) n
  nn : at' = .none ∨ ∃ a, at' = .ref a
theorem VD.hand {o : Obj} {k : Str} {l : Addr} {at' : Value} (V : VD o k l at') : handedIn at' = true := by rcases V.nn with rfl | ⟨a, rfl⟩ <;> rfl

noncomputable abbrev vobj (d : Addr) : Obj := instObj 290 d

section
variable {w : World} {A : Around} {E : Value → Shared → Prop} {s0 s : Shared} {G0 G : Heap} {W0 : List Addr} {mu mu' : List (Addr × Obj)} {env : Env} {ρ : Str → Option Value} {x d l : Addr} {o : Obj} {k : Str} {at' : Value}

theorem v_kind {Q : Value → Shared → Prop} {ex : Bool} (S : St s0 G0 W0 G mu env ρ s) (P : PG w G0) (hx : s.heap.get? x = some (vobj d)) (hd : s.heap.get? d = some o) (V : VD o k l at') (h : ∀ t s', St s0 G0 W0 G mu env ρ s' → Q (.str k t) s') :
    wpAny (model pw w) A (getAttr (.ref x) "kind" ex) Q E s := by
  obtain ⟨⟨h', t, tk, sh, lo, n, rfl⟩, _⟩ := V
  exact a_get S P.K hx hd (by kernel_rfl!) (by kernel_rfl!) rfl (h tk)
theorem v_items {Q : Value → Shared → Prop} {ex : Bool} (S : St s0 G0 W0 G mu env ρ s) (P : PG w G0) (hx : s.heap.get? x = some (vobj d)) (hd : s.heap.get? d = some o) (V : VD o k l at') (h : ∀ s', St s0 G0 W0 G mu env ρ s' → Q (.ref l) s') :
    wpAny (model pw w) A (getAttr (.ref x) "items" ex) Q E s := by
  obtain ⟨⟨h', t, tk, sh, lo, n, rfl⟩, _⟩ := V
  exact a_get S P.K hx hd (by kernel_rfl!) (by kernel_rfl!) rfl h
theorem v_attrs {Q : Value → Shared → Prop} {ex : Bool} (S : St s0 G0 W0 G mu env ρ s) (P : PG w G0) (hx : s.heap.get? x = some (vobj d)) (hd : s.heap.get? d = some o) (V : VD o k l at') (h : ∀ s', St s0 G0 W0 G mu env ρ s' → Q at' s') :
    wpAny (model pw w) A (getAttr (.ref x) "attrs" ex) Q E s := by
  have hh := V.hand
  obtain ⟨⟨h', t, tk, sh, lo, n, rfl⟩, _⟩ := V
  exact a_get S P.K hx hd (by kernel_rfl!) (by kernel_rfl!) hh h
theorem v_share {Q : Unit → Shared → Prop} {v : Value} (S : St s0 G0 W0 G mu env ρ s) (P : PG w G0) (hx : s.heap.get? x = some (vobj d)) (hm : (d, o) ∈ mu) (V : VD o k l at')
    (h : ∀ s' o', VD o' k l at' → (∀ mu', Put d o o' mu mu' → St s0 G0 W0 G mu' env ρ s') → Q () s') : wpAny (model pw w) A (setAttr (.ref x) "shared" v) Q E s := by
  have nn := V.nn
  obtain ⟨⟨h', t, tk, sh, lo, n, rfl⟩, _⟩ := V
  exact a_set S P.K hx hm (by kernel_rfl!) (by kernel_rfl!) (fun _ _ => Nat.le_of_ble_eq_true (by kernel_rfl!)) fun s' hs t' n' hp => h s' _ ⟨⟨h', t, tk, v, lo, n', rfl⟩, nn⟩ hp
theorem v_set {Q : Unit → Shared → Prop} {v : Value} (S : St s0 G0 W0 G mu env ρ s) (P : PG w G0) (hx : s.heap.get? x = some (vobj d)) (hm : (d, o) ∈ mu) (V : VD o k l at') (hv : v = .none ∨ ∃ a, v = .ref a)
    (h : ∀ s' o', VD o' k l v → (∀ mu', Put d o o' mu mu' → St s0 G0 W0 G mu' env ρ s') → Q () s') : wpAny (model pw w) A (setAttr (.ref x) "attrs" v) Q E s := by
  obtain ⟨⟨h', t, tk, sh, lo, n, rfl⟩, _⟩ := V
  exact a_set S P.K hx hm (by kernel_rfl!) (by kernel_rfl!) (fun _ _ => Nat.le_of_ble_eq_true (by kernel_rfl!)) fun s' hs t' n' hp => h s' _ ⟨⟨h', t, tk, sh, lo, n', rfl⟩, hv⟩ hp

theorem Run.enterD {a : Addr} {st : Stmt} {n : Nat} {W : List (Addr × Obj)} {vs : List Value} {P : Heap → List (Addr × Obj) → Value → Prop} (X : FnAt G a st) (hlim : G.NoLimit) (O : Ok A (n + 1)) (binds : List (Str × Value))
    (hbind : ∀ nm q T ot m kV doc pm an cdv ct, s.heap.get? T = some ot → ot.data = .seq #[.none] m → BindsTo s (fnOf nm q (prmOf st) (bdyOf st) (scpOf st) (.ref T) kV doc pm an cdv ct) ⟨vs, []⟩ binds) (hb : (okBinds (scpOf st) binds && okScope (scpOf st) && dflN st == 1) = true)
    (h : ∀ {A' : Around} {W0 : List Addr} fp s₁, St s G W0 G W (fenv st fp) (rho binds) s₁ → Ok A' n → ∀ Qr, Cont (RetQ s G W0 P) Qr → W0 = W.map Prod.fst →
      wpAny (model pw w) A' (execs (bdyOf st) (fenv st fp)) Qr (fun _ _ => False) s₁) : Run w A s G W a vs P := unus (by exact trivial : Us (by
  intro hG hm hd
  simp only [Bool.and_eq_true, beq_iff_eq] at hb
  refine ob_cl hb ?_; try clear hb; rintro ⟨b1, b2⟩ b3
  refine Mine.enter X hG hlim (by have := O.d; omega) (fun nm q dV kV doc pm an cdv ct _ h1 => ?_) b1 b2 hm hd fun q cdv s₁ S => h ⟨q, cdv, _, a⟩ s₁ S O.deeper _ (fun _ _ e => e) rfl
  refine ob_eeeccl (h1 b3) ?_; rintro T ot m rfl h2 h3
  exact hbind nm q T ot m kV doc pm an cdv ct h2 h3))
end
end -- L14
section -- L36
open PySem.Calls PySem.Spec
section
variable {w : World} {A : Around} {E : Value → Shared → Prop} {s0 s : Shared} {G0 G : Heap} {W0 : List Addr} {mu mu' : List (Addr × Obj)} {env : Env} {ρ : Str → Option Value}
  {st : Stmt} {fp : FP} {sc : Scope} {C : Addr} {x : Str} {pos pos' : Pos} {v : Value} {rest : List Expr}
/-- a name of one's own, seen from the def's text alone -/
noncomputable abbrev VarE (env : Env) (x : Str) : Bool := isVar env x && !(x == ("__debug__" : Str)) && env.scope.kind == .function
theorem ldE {Q : Value → Shared → Prop} (S : St s0 G0 W0 G mu env ρ s) (hv : ρ x = some v) (h : Q v s) (hx : VarE env x = true) : wpAny (model pw w) A (eval (.Name x pos) env) Q E s := by
  obtain ⟨a, b⟩ := Bool.and_eq_true_iff.mp hx
  exact S.ld hv h (beq_iff_eq.mp b) a
theorem itE {Q : List Value → Shared → Prop} (S : St s0 G0 W0 G mu env ρ s) (hv : ρ x = some v) (h : wpAny (model pw w) A (spliced (backTo pos' (starEach rest env))) (fun vs s' => Q (v :: vs) s') E s) (hx : VarE env x = true) :
    wpAny (model pw w) A (spliced (backTo pos' (starEach (.Name x pos :: rest) env))) Q E s := wpAny_items_cons (ldE S hv h hx)
theorem ilE {Q : List Value → Shared → Prop} (S : St s0 G0 W0 G mu env ρ s) (hv : ρ x = some v) (h : Q [v] s) (hx : VarE env x = true) :
    wpAny (model pw w) A (spliced (backTo pos' (starEach [.Name x pos] env))) Q E s := itE S hv (wpAny_items_nil h) hx
noncomputable abbrev cEnv (sc : Scope) (st : Stmt) (p : FP) (C : Addr) : Env := compEnvC sc (closOf sc (fenv st p)) C (fenv st p)
theorem ldF {Q : Value → Shared → Prop} (S : St s0 G0 W0 G mu (fenv st fp) ρ s) (hv : ρ x = some v) (h : Q v s) (hx : ∀ p, VarE (fenv st p) x = true) : wpAny (model pw w) A (eval (.Name x pos) (fenv st fp)) Q E s := ldE S hv h (hx fp)
theorem ldC {Q : Value → Shared → Prop} (S : St s0 G0 W0 G mu (compEnvC sc (closOf sc (fenv st fp)) C (fenv st fp)) ρ s) (hv : ρ x = some v) (h : Q v s) (hx : ∀ p C, VarE (cEnv sc st p C) x = true) : wpAny (model pw w) A (eval (.Name x pos) (compEnvC sc (closOf sc (fenv st fp)) C (fenv st fp))) Q E s := ldE S hv h (hx fp C)
theorem itF {Q : List Value → Shared → Prop} (S : St s0 G0 W0 G mu (fenv st fp) ρ s) (hv : ρ x = some v) (h : wpAny (model pw w) A (spliced (backTo pos' (starEach rest (fenv st fp)))) (fun vs s' => Q (v :: vs) s') E s) (hx : ∀ p, VarE (fenv st p) x = true) :
    wpAny (model pw w) A (spliced (backTo pos' (starEach (.Name x pos :: rest) (fenv st fp)))) Q E s := itE S hv h (hx fp)
theorem itC {Q : List Value → Shared → Prop} (S : St s0 G0 W0 G mu (compEnvC sc (closOf sc (fenv st fp)) C (fenv st fp)) ρ s) (hv : ρ x = some v) (h : wpAny (model pw w) A (spliced (backTo pos' (starEach rest (compEnvC sc (closOf sc (fenv st fp)) C (fenv st fp))))) (fun vs s' => Q (v :: vs) s') E s) (hx : ∀ p C, VarE (cEnv sc st p C) x = true) :
    wpAny (model pw w) A (spliced (backTo pos' (starEach (.Name x pos :: rest) (compEnvC sc (closOf sc (fenv st fp)) C (fenv st fp))))) Q E s := itE S hv h (hx fp C)
theorem ilF {Q : List Value → Shared → Prop} (S : St s0 G0 W0 G mu (fenv st fp) ρ s) (hv : ρ x = some v) (h : Q [v] s) (hx : ∀ p, VarE (fenv st p) x = true) :
    wpAny (model pw w) A (spliced (backTo pos' (starEach [.Name x pos] (fenv st fp)))) Q E s := ilE S hv h (hx fp)
theorem ilC {Q : List Value → Shared → Prop} (S : St s0 G0 W0 G mu (compEnvC sc (closOf sc (fenv st fp)) C (fenv st fp)) ρ s) (hv : ρ x = some v) (h : Q [v] s) (hx : ∀ p C, VarE (cEnv sc st p C) x = true) :
    wpAny (model pw w) A (spliced (backTo pos' (starEach [.Name x pos] (compEnvC sc (closOf sc (fenv st fp)) C (fenv st fp))))) Q E s := ilE S hv h (hx fp C)
/-- a constant among the items -/
theorem itI {i : Int} {k : Nat} {Q : List Value → Shared → Prop} (S : St s0 G0 W0 G mu env ρ s) (h : ∀ t s', St s0 G0 W0 G mu env ρ s' → wpAny (model pw w) A (spliced (backTo pos' (starEach rest env))) (fun vs s'' => Q (.int i t :: vs) s'') E s') :
    wpAny (model pw w) A (spliced (backTo pos' (starEach (.Constant (.int i) k pos :: rest) env))) Q E s := wpAny_items_cons (c_int S h)
theorem itS {y : Str} {k : Nat} {Q : List Value → Shared → Prop} (S : St s0 G0 W0 G mu env ρ s) (h : ∀ t s', St s0 G0 W0 G mu env ρ s' → wpAny (model pw w) A (spliced (backTo pos' (starEach rest env))) (fun vs s'' => Q (.str y t :: vs) s'') E s') :
    wpAny (model pw w) A (spliced (backTo pos' (starEach (.Constant (.str y) k pos :: rest) env))) Q E s := wpAny_items_cons (c_str S h)
theorem enterAs {b b' : List Stmt} {Q : Flow → Shared → Prop} (e : b = b') (h : wpAny (model pw w) A (execs b' env) Q E s) : wpAny (model pw w) A (execs b env) Q E s := e ▸ h
@[reducible] noncomputable def notStar : Expr → Bool
  | .Starred _ _ => false
  | _ => true
theorem itX {e : Expr} {Q : List Value → Shared → Prop} (h : wpAny (model pw w) A (eval e env) (fun v s₁ => wpAny (model pw w) A (spliced (backTo pos' (starEach rest env))) (fun vs s₂ => Q (v :: vs) s₂) E s₁) E s) (hn : notStar e = true) :
    wpAny (model pw w) A (spliced (backTo pos' (starEach (e :: rest) env))) Q E s := wpAny_items_cons h (by cases e <;> first | rfl | cases hn)
/-- a call of a name that all know -/
theorem cnF {id : Str} {p : Pos} {args : List Expr} {f : Value} {Q : Value → Shared → Prop} (S : St s0 G0 W0 G mu (fenv st fp) ρ s) (g : Glob G0 id f)
    (h : wpAny (model pw w) A (spliced (backTo pos (starEach args (fenv st fp)))) (fun vs s₁ => Kept f s₁ ∧ wpAny (model pw w) A (call f vs) Q E s₁) E s)
    (hx : ∀ p, (isGlo (fenv st p) id && noStar args && (fenv st p).scope.kind == .function) = true) : wpAny (model pw w) A (eval (.Call (.Name id p) args [] pos) (fenv st fp)) Q E s := by
  obtain ⟨a, b⟩ := Bool.and_eq_true_iff.mp (hx fp)
  exact call_name (g.up S.le0) h (beq_iff_eq.mp b) a
theorem cnC {id : Str} {p : Pos} {args : List Expr} {f : Value} {Q : Value → Shared → Prop} (S : St s0 G0 W0 G mu (compEnvC sc (closOf sc (fenv st fp)) C (fenv st fp)) ρ s) (g : Glob G0 id f)
    (h : wpAny (model pw w) A (spliced (backTo pos (starEach args (compEnvC sc (closOf sc (fenv st fp)) C (fenv st fp))))) (fun vs s₁ => Kept f s₁ ∧ wpAny (model pw w) A (call f vs) Q E s₁) E s)
    (hx : ∀ p C, (isGlo (cEnv sc st p C) id && noStar args && (cEnv sc st p C).scope.kind == .function) = true) : wpAny (model pw w) A (eval (.Call (.Name id p) args [] pos) (compEnvC sc (closOf sc (fenv st fp)) C (fenv st fp))) Q E s := by
  obtain ⟨a, b⟩ := Bool.and_eq_true_iff.mp (hx fp C)
  exact call_name (g.up S.le0) h (beq_iff_eq.mp b) a
/-- a name set anew -/
noncomputable def IsUpd (ρ' ρ : Str → Option Value) (x : Str) (v : Value) : Prop := ρ' = upd ρ x v
theorem IsUpd.self {ρ' : Str → Option Value} (e : IsUpd ρ' ρ x v) : ρ' x = some v := (congrFun e x).trans upd_self
theorem IsUpd.step {ρ' : Str → Option Value} {y : Str} {z : Value} (e : IsUpd ρ' ρ x v) (h : (y == x) = false) (q : ρ y = some z) : ρ' y = some z := (congrFun e y).trans (upd_step h q)
theorem stF {Q : Unit → Shared → Prop} (S : St s0 G0 W0 G mu (fenv st fp) ρ s) (hx : ∀ p, (isOwn (fenv st p) x && (fenv st p).scope.kind == .function) = true)
    (h : ∀ ρ' s', IsUpd ρ' ρ x v → St s0 G0 W0 G mu (fenv st fp) ρ' s' → Q () s') : wpAny (model pw w) A (storeName (fenv st fp) x v) Q E s := by
  obtain ⟨a, b⟩ := Bool.and_eq_true_iff.mp (hx fp)
  exact S.st (beq_iff_eq.mp b) a fun s' S' => h _ s' rfl S'
@[reducible] noncomputable def notComp : Expr → Bool
  | .ListComp .. => false
  | .SetComp .. => false
  | .DictComp .. => false
  | _ => true
theorem asgX {value : Expr} {Q : Flow → Shared → Prop} (h : wpAny (model pw w) A (eval value env) (fun v s₁ => wpAny (model pw w) A (storeName env x v) (fun _ => Q .next) E s₁) E s) (hn : notComp value = true) :
    wpAny (model pw w) A (exec (.Assign [.Name x pos'] value pos) env) Q E s := wpAny_Assign_Name h (by cases value <;> first | rfl | cases hn)
@[reducible] noncomputable def notCall : Expr → Bool
  | .Call .. => false
  | _ => true
theorem atX {value : Expr} {attr : Str} {Q : Value → Shared → Prop} (h : wpAny (model pw w) A (eval value env) (fun o s₁ => wpAny (model pw w) A (getAttr o attr true) Q E s₁) E s) (hn : notCall value = true) :
    wpAny (model pw w) A (eval (.Attribute value attr pos) env) Q E s := Attribute_any_ h (by cases value <;> first | rfl | cases hn)
@[reducible] noncomputable def notSet : Expr → Bool
  | .Set .. => false
  | _ => true
theorem marks {op : CmpOp} {r : Expr} (hn : notSet r = true) : behindInMarks op r = false := by cases r <;> first | rfl | cases hn
theorem cmpX {l r : Expr} {op : CmpOp} {Q : Value → Shared → Prop} (h : wpAny (model pw w) A (eval l env) (fun a s₁ => wpAny (model pw w) A (eval r env) (fun b s₂ => wpAny (model pw w) A (compareOp op a b) Q E s₂) E s₁) E s) (hn : notSet r = true) :
    wpAny (model pw w) A (eval (.Compare l [op] [r] pos) env) Q E s := wpAny_Compare1 h (marks hn)
theorem tcmpX {l r : Expr} {op : CmpOp} {whole : Sem Value} {Q : Bool → Shared → Prop} (h : wpAny (model pw w) A (eval l env) (fun a s₁ => wpAny (model pw w) A (eval r env) (fun b s₂ => wpAny (model pw w) A (compareOp op a b)
    (fun c s₃ => wpAny (model pw w) A (truthy c) Q E s₃) E s₂) E s₁) E s) (hn : notSet r = true) : wpAny (model pw w) A (isTrue (.Compare l [op] [r] pos) env whole) Q E s := wpAny_isTrue_Compare1 h (marks hn)
end
end -- L36
local macro_rules | `(tactic| wtm_at $s:str) => rd s
section -- L15
open PySem.Calls PySem.Spec
section
variable {w : World} {A : Around} {E : Value → Shared → Prop} {s0 s : Shared} {G0 G : Heap} {W0 : List Addr} {mu mu' : List (Addr × Obj)} {env : Env} {ρ : Str → Option Value} {x d l : Addr} {k : Str} {at' : Value}

theorem initBody {x d l : Addr} {k : Str} {tk : Tok} {n : Nat} {P : Heap → List (Addr × Obj) → Value → Prop} {fp : FP} (PG0 : PG w G0) (O : Ok A n) (hn : at' = .none ∨ ∃ a, at' = .ref a)
    (S : St s0 G0 W0 G0 [(d, emptyDict)] (fenv (mth 40 0) fp) (rho [("self", .ref x), ("kind", .str k tk), ("items", .ref l), ("attrs", at')]) s) (hx : G0.get? x = some (vobj d)) {Qr : Flow → Shared → Prop} (hQr : Cont (RetQ s0 G0 W0 P) Qr)
    (h : ∀ s' o, VD o k l at' → St s0 G0 W0 G0 [(d, o)] (fenv (mth 40 0) fp) (rho [("self", .ref x), ("kind", .str k tk), ("items", .ref l), ("attrs", at')]) s' → Back s0 G0 W0 P (.ok (.ret .none)) s') :
    wpAny (model pw w) A (execs (bdyOf (mth 40 0)) (fenv (mth 40 0) fp)) Qr (fun _ _ => False) s := unus (by exact trivial : Us (by
  wtm_at "ygo"
  have X := fun {s' : Shared} {mu : List (Addr × Obj)} {ρ} (S : St s0 G0 W0 G0 mu (fenv (mth 40 0) fp) ρ s') => S.z.gs _ _ hx
  wtm_at "yw"
  refine a_set (es := []) (n := 0) S PG0.K (X S) (.head _) (by kernel_rfl!) (by kernel_rfl!) (fun _ _ => Nat.le_of_ble_eq_true (by kernel_rfl!)) fun s1 h1 t1 n1 p1 => ?_
  replace S := p1 _ .head
  wtm_at "yw"
  refine a_set S PG0.K (X S) (.head _) (by kernel_rfl!) (by kernel_rfl!) (fun _ _ => Nat.le_of_ble_eq_true (by kernel_rfl!)) fun s2 h2 t2 n2 p2 => ?_
  replace S := p2 _ .head
  wtm_at "yw"
  refine a_set S PG0.K (X S) (.head _) (by kernel_rfl!) (by kernel_rfl!) (fun _ _ => Nat.le_of_ble_eq_true (by kernel_rfl!)) fun s3 h3 t3 n3 p3 => ?_
  replace S := p3 _ .head
  wtm_at "yw"
  refine a_set S PG0.K (X S) (.head _) (by kernel_rfl!) (by kernel_rfl!) (fun _ _ => Nat.le_of_ble_eq_true (by kernel_rfl!)) fun s4 h4 t4 n4 p4 => ?_
  replace S := p4 _ .head
  wtm_at "yw"
  refine a_set S PG0.K (X S) (.head _) (by kernel_rfl!) (by kernel_rfl!) (fun _ _ => Nat.le_of_ble_eq_true (by kernel_rfl!)) fun s5 h5 t5 n5 p5 => ?_
  replace S := p5 _ .head
  wtm_at "yw"
  refine h _ _ ?_ S
  exact ⟨⟨fun i => [h1, h2, h3, h4, h5].getD i 0, fun i => [t1, t2, t3, t4, t5].getD i 0, tk, .bool false, .bool false, _, rfl⟩, hn⟩))

theorem new_vec2 {vs : List Value} {Rs : List (Addr × Obj)} {Q : Value → Shared → Prop} {tk : Tok} (P : PG w G0) (O : Ok A 3) (S : St s0 G0 W0 G Rs env ρ s)
    (h : ∀ x d o G' s', Le G G' → G'.get? x = some (vobj d) → s0.heap.get? d = none → VD o k l .none → St s0 G0 W0 G' ((d, o) :: Rs) env ρ s' → Q (.ref x) s') :
    wpAny (model pw w) A (call (.ref 290) [.str k tk, .ref l]) Q E s := unus (by exact trivial : Us (by
  have PG1 := P.up S.z.g0
  refine new_inst (W := []) (Rs := Rs) (f := 280) (Pi := fun x d G' W' => ∃ o, VD o k l .none ∧ W' = [(d, o)]) S PG1.K (by kernel_rfl!) (by kernel_rfl!) (fun A' x d G1 s1 OO g1 hx hs1 hm hnd => ?_)
    fun x d G' W' s' g hx hd ⟨o, V, e⟩ S' => by subst e; exact h x d o G' s' g hx hd V S'
  have P1 := PG1.up g1
  refine Run.enterD (P1.mt 280 40 0 (by decide)) P1.lim (OO 2 O) [("self", .ref x), ("kind", .str k tk), ("items", .ref l), ("attrs", .none)]
    (fun nm q T ot m kV doc pm an cdv ct h1 h2 => BindsTo.of_defaults rfl h1 h2 rfl (by kernel_rfl!)) (by kernel_rfl!) (fun fp s₁ S O Qr hQr _ => ?_) hs1 hm hnd
  exact initBody P1 O (.inl rfl) S hx hQr fun s' o V S' => S'.out (.refl _) ⟨rfl, o, V, rfl⟩))
theorem new_vec3 {vs : List Value} {Rs : List (Addr × Obj)} {Q : Value → Shared → Prop} {tk : Tok} (P : PG w G0) (O : Ok A 3) (hn : at' = .none ∨ ∃ a, at' = .ref a) (S : St s0 G0 W0 G Rs env ρ s)
    (h : ∀ x d o G' s', Le G G' → G'.get? x = some (vobj d) → s0.heap.get? d = none → VD o k l at' → St s0 G0 W0 G' ((d, o) :: Rs) env ρ s' → Q (.ref x) s') :
    wpAny (model pw w) A (call (.ref 290) [.str k tk, .ref l, at']) Q E s := unus (by exact trivial : Us (by
  have PG1 := P.up S.z.g0
  refine new_inst (W := []) (Rs := Rs) (f := 280) (Pi := fun x d G' W' => ∃ o, VD o k l at' ∧ W' = [(d, o)]) S PG1.K (by kernel_rfl!) (by kernel_rfl!) (fun A' x d G1 s1 OO g1 hx hs1 hm hnd => ?_)
    fun x d G' W' s' g hx hd ⟨o, V, e⟩ S' => by subst e; exact h x d o G' s' g hx hd V S'
  have P1 := PG1.up g1
  refine Run.enterD (P1.mt 280 40 0 (by decide)) P1.lim (OO 2 O) [("self", .ref x), ("kind", .str k tk), ("items", .ref l), ("attrs", at')]
    (fun nm q T ot m kV doc pm an cdv ct h1 h2 => BindsTo.of_defaults rfl h1 h2 rfl (by kernel_rfl!)) (by kernel_rfl!) (fun fp s₁ S O Qr hQr _ => ?_) hs1 hm hnd
  exact initBody P1 O hn S hx hQr fun s' o V S' => S'.out (.refl _) ⟨rfl, o, V, rfl⟩))
end
end -- L15
section -- L16
open PySem.Calls PySem.Spec

section
variable {w : World} {A : Around} {E : Value → Shared → Prop} {s0 s : Shared} {G0 G : Heap} {W0 : List Addr} {mu mu' : List (Addr × Obj)} {env : Env} {ρ : Str → Option Value}

/-- a new thing at the heap's end, all else kept -/
theorem St.grow (S : St s0 G0 W0 G mu env ρ s) {s' : Shared} {o : Obj} (hg : s'.gens = s.gens) (ho : s'.os = s.os) (k : Le s.heap s'.heap) (e : s'.heap.get? s.heap.objs.size = some o) : St s0 G0 W0 G ((s.heap.objs.size, o) :: mu) env ρ s' := unus (by exact trivial : Us (by
  have T := S.keeps hg ho k
  have n := get_ge (Nat.le_refl s.heap.objs.size)
  have lt : ∀ b, s.heap.get? b ≠ none → b ≠ s.heap.objs.size := fun b h e => h (e ▸ n)
  refine ⟨⟨T.z.gens, T.z.os, T.z.keep, T.z.dom, T.z.g0, T.z.gs, T.z.gn, fun p hp => ?_, ?_⟩, T.f.loc, T.f.cel, T.f.ap, T.f.lc, T.f.lf, T.f.lG, fun p hp => ?_, T.f.cG, fun x c hc nl p hp => ?_, T.f.cf⟩
  · rcases List.mem_cons.mp hp with rfl | hp
    · exact ⟨e, none_of_le S.z.gs n, .inr (S.new n)⟩
    · exact T.z.mt p hp
  · rw [List.map_cons, List.nodup_cons]
    refine ⟨fun h => ?_, S.z.md⟩
    refine ob_ecl (List.mem_map.mp h) ?_; intro p hp e
    exact lt p.1 (ne_none (S.z.mt p hp).1) e
  · rcases List.mem_cons.mp hp with rfl | hp
    · refine ob_ecl S.f.loc ?_; intro m hm _
      exact Ne.symm (lt _ (ns_some hm))
    · exact T.f.lm p hp
  · rcases List.mem_cons.mp hp with rfl | hp
    · exact Ne.symm (lt _ (cell_some (S.f.cel x c hc nl)))
    · exact T.f.cm x c hc nl p hp))

theorem b_list {l : Addr} {xs : List Value} {n : Nat} {Q : Value → Shared → Prop} (S : St s0 G0 W0 G mu env ρ s) (hl : s.heap.get? l = some (lst xs n)) (hz : xs.length ≤ sizeLine)
    (h : ∀ a c s', s0.heap.get? a = none → St s0 G0 W0 G ((a, lst xs c) :: mu) env ρ s' → Q (.ref a) s') : wpAny (model pw w) A (call (.type "list") [.ref l]) Q E s :=
  call_list_seq (hsz := by simpa using hz) l (.inl rfl) hl rfl rfl fun h' c' hk hD => h _ c' _ (S.new (get_ge (Nat.le_refl _))) (S.grow rfl rfl hk hD)

theorem b_str {a : Int} {t : Tok} {Q : Value → Shared → Prop} (S : St s0 G0 W0 G mu env ρ s) (h1 : -(2 ^ 64) < a) (h2 : a < 2 ^ 64) (h : ∀ t s', St s0 G0 W0 G mu env ρ s' → Q (.str (toString a) t) s') :
    wpAny (model pw w) A (call (.type "str") [.int a t]) Q E s :=
  P.str_of_int (shown (N := 2 ^ 64) h1 h2 (by
    have e : (2 ^ 1920 : Int) = ((2 ^ 1920 : Nat) : Int) := by simp
    have e2 : (2 ^ 64 : Int) = ((2 ^ 64 : Nat) : Int) := by simp
    rw [e, e2]
    exact Int.ofNat_le.mpr (Nat.pow_le_pow_right (by decide) (by decide)))) (h _ _ (S.toks _))
theorem b_int {a : Int} {t : Tok} {Q : Value → Shared → Prop} (h : Q (.int a t) s) : wpAny (model pw w) A (call (.type "int") [.int a t]) Q E s := call_int_int h
theorem b_abs {a : Int} {t : Tok} {Q : Value → Shared → Prop} (S : St s0 G0 W0 G mu env ρ s) (h : ∀ t s', St s0 G0 W0 G mu env ρ s' → Q (.int (if a < 0 then -a else a) t) s') :
    wpAny (model pw w) A (call (.builtin "abs") [.int a t]) Q E s := call_abs_int fun _ _ => h _ _ (S.toks _)

theorem b_max {a b : Int} {t u : Tok} (hh : A.handled = none) {Q : Value → Shared → Prop} (S : St s0 G0 W0 G mu env ρ s) (h : ∀ t s', St s0 G0 W0 G mu env ρ s' → Q (.int (max a b) t) s') : wpAny (model pw w) A (call (.builtin "max") [.int a t, .int b u]) Q E s := unus (by exact trivial : Us (by
  refine max_two_ints hh fun h' tk hk => ?_
  have e : (if b > a then Value.int b u else Value.int a t) = .int (max a b) (if b > a then u else t) := by
    by_cases q : b > a
    · rw [if_pos q, if_pos q, Int.max_eq_right (by omega)]
    · rw [if_neg q, if_neg q, Int.max_eq_left (by omega)]
  rw [e]
  exact h _ _ (S.keeps rfl rfl hk)))

/-- a list of the numbers from a on -/
noncomputable def IntsFrom (a : Int) (xs : List Value) (n : Nat) : Prop := xs.length = n ∧ ∀ (i : Nat) v, xs[i]? = some v → ∃ t, v = .int (a + i) t
theorem b_rangelist {a N : Int} {t u : Tok} (hh : A.handled = none) {Q : Value → Shared → Prop} (S : St s0 G0 W0 G mu env ρ s) (h0 : 0 ≤ a) (h1 : a ≤ N) (h2 : N < 2 ^ 20)
    (h : ∀ r s', St s0 G0 W0 G mu env ρ s' → (∀ (E' : Value → Shared → Prop) (K : Value → Shared → Prop), (∀ l xs c s'', s0.heap.get? l = none → IntsFrom a xs (N - a).toNat → St s0 G0 W0 G ((l, lst xs c) :: mu) env ρ s'' → K (.ref l) s'') → wpAny (model pw w) A (call (.type "list") [r]) K E' s') → Q r s') :
    wpAny (model pw w) A (call (.type "range") [.int a t, .int N u]) Q E s := unus (by exact trivial : Us (by
  refine call_range_2 ?_
  have S1 := ((S.push { cls := .type "range", data := .fields #[.int a t, .int N u, .int 1 s.toks] } rfl).sub (List.sublist_cons_self ..)).toks (s.toks + 1)
  refine h _ _ S1 fun E' K hK => ?_
  have hsz : Builtin.Range.rangeSize a N 1 = ((N - a).toNat : Int) := by rw [rangeSize_one]; split <;> omega
  refine call_list_range hh (IsRange.new ..) (small_one (by omega) (by omega) (by omega) (by omega)) hsz (by omega) fun h' tk acc' c' hk hD hi => ?_
  have S2 : St s0 G0 W0 G _ env ρ ⟨h', s.gens, s.drawn, tk, s.os⟩ := S1.grow rfl rfl hk hD
  have e : ({ cls := .type "list", dict := none, data := .seq acc' c', slots := #[] } : Obj) = lst acc'.toList c' := by simp
  rw [e] at S2
  refine hK _ acc'.toList c' _ (S1.new (get_ge (Nat.le_refl _))) ⟨by rw [Array.length_toList]; exact hi.1, fun i v hv => ?_⟩ S2
  refine ob_el (hi.2 i v (by rw [← Array.getElem?_toList]; exact hv)) ?_; rintro t rfl
  exact ⟨t, by simp⟩))

theorem w_addlist {l b : Addr} {xs ys : List Value} {n m : Nat} {Q : Value → Shared → Prop} (S : St s0 G0 W0 G mu env ρ s) (hl : s.heap.get? l = some (lst xs n)) (hb : s.heap.get? b = some (lst ys m)) (hz : xs.length + ys.length ≤ sizeLine)
    (h : ∀ a s', s0.heap.get? a = none → St s0 G0 W0 G ((a, lst (xs ++ ys) 0) :: mu) env ρ s' → Q (.ref a) s') : wpAny (model pw w) A (binaryOp .Add (.ref l) (.ref b)) Q E s := by
  have e : xs.toArray ++ ys.toArray = (xs ++ ys).toArray := by simp
  refine concat_meets ⟨_, hl, rfl⟩ ⟨_, hb, rfl⟩ noFill_list_add seq_list_add PySem.F.slot_list_add PySem.F.entry_list_add (PySem.F.args_list_add_2 _ _) (list_addW l b xs.toArray ys.toArray n m none none #[] #[] (by simpa using hz)) ⟨hl, hb, ?_⟩
  rw [e]
  exact h _ _ (S.new (get_ge (Nat.le_refl _))) (S.push _ rfl)
theorem w_addtup {l b : Addr} {xs ys : List Value} {Q : Value → Shared → Prop} (S : St s0 G0 W0 G mu env ρ s) (hl : G.get? l = some (tup xs)) (hb : G.get? b = some (tup ys)) (hy : ys ≠ []) (hz : xs.length + ys.length ≤ sizeLine)
    (h : ∀ a G' s', Le G G' → G'.get? a = some (tup (xs ++ ys)) → St s0 G0 W0 G' mu env ρ s' → Q (.ref a) s') : wpAny (model pw w) A (binaryOp .Add (.ref l) (.ref b)) Q E s := unus (by exact trivial : Us (by
  have e : xs.toArray ++ ys.toArray = (xs ++ ys).toArray := by simp
  have hl' := S.z.gs _ _ hl
  have hb' := S.z.gs _ _ hb
  by_cases hx : xs = []
  · subst hx
    refine concat_meets ⟨_, hl', rfl⟩ ⟨_, hb', rfl⟩ noFill_tuple_add seq_tuple_add PySem.F.slot_tuple_add PySem.F.entry_tuple_add (PySem.F.args_tuple_add_2 _ _)
      (tuple_addW0 l b _ ys.toArray _ _ none none #[] #[] (by simp)) ⟨hl', hb', h b G s Le.rfl hb S⟩
  · refine concat_meets ⟨_, hl', rfl⟩ ⟨_, hb', rfl⟩ noFill_tuple_add seq_tuple_add PySem.F.slot_tuple_add PySem.F.entry_tuple_add (PySem.F.args_tuple_add_2 _ _)
      (tuple_addW2 l b xs.toArray ys.toArray _ _ none none #[] #[] (by simpa using hx) (by simpa using hy) (by simpa using hz)) ⟨hl', hb', ?_⟩
    rw [e]
    refine ob_eccl ((S.push (tup (xs ++ ys)) rfl).freeze (S.new (get_ge (Nat.le_refl _)))) ?_; intro G' a c d
    exact h _ G' _ a c d))
theorem w_mullist {l : Addr} {xs : List Value} {n : Nat} {x : Int} {u : Tok} {Q : Value → Shared → Prop} (S : St s0 G0 W0 G mu env ρ s) (hl : s.heap.get? l = some (lst xs n)) (h0 : 0 ≤ x) (hz : xs.length * x.toNat ≤ 2 ^ 24)
    (h : ∀ a s', s0.heap.get? a = none → St s0 G0 W0 G ((a, lst (List.replicate x.toNat xs).flatten 0) :: mu) env ρ s' → Q (.ref a) s') (h1 : x < 2 ^ 24) : wpAny (model pw w) A (binaryOp .Mult (.ref l) (.int x u)) Q E s := unus (by exact trivial : Us (by
  have key : ∀ (k : Nat) (acc : Array Value), List.foldl (fun x1 x2 => x1 ++ x2) acc (List.replicate k xs.toArray) = acc ++ (List.replicate k xs).flatten.toArray := by
    intro k
    induction k with
    | zero => intro acc; simp
    | succ k ih => intro acc; rw [List.replicate_succ, List.foldl_cons, ih, List.replicate_succ, List.flatten_cons]; simp
  have e : (List.foldl (fun x1 x2 => x1 ++ x2) #[] (List.replicate (if xs.toArray.isEmpty = true then 0 else x.toNat) xs.toArray)) = (List.replicate x.toNat xs).flatten.toArray := by
    by_cases hx : xs = []
    · subst hx; simp
    · have : ¬ xs.toArray.isEmpty = true := by simpa using hx
      rw [if_neg this, key]; simp
  refine wpAny_binaryOp_repeat_ref (T := "list") (U := "int") (by decide) ⟨_, hl, rfl⟩ (fun s' => typeIs_int s' x u) noFill_list_mul PySem.F.fills_int_mul PySem.F.slot_int_rmul repeat_list PySem.F.slot_int_index.lookup
    (call_meets PySem.F.slot_int_rmul (typeIs_int s x u) PySem.F.entry_int_rmul (PySem.F.args_int_rmul_2 _ _) (int___rmul___int_list x u l xs.toArray n)
      ⟨hl, rfl, ⟨_, hl, rfl⟩, call_meets PySem.F.slot_list_mul ⟨_, hl, rfl⟩ PySem.F.entry_list_mul (PySem.F.args_list_mul_2 _ _)
        (AutoListH.list___mul___list_int_3 l xs.toArray n x u (by simp [Builtin.List.listFitsIndex]; omega) (by rw [List.size_toArray]; omega) (by rw [List.size_toArray]; simp [Builtin.List.listTooLong, sizeLine]; omega))
        ⟨hl, ?_⟩⟩)
  rw [e]
  exact h _ _ (S.new (get_ge (Nat.le_refl _))) (S.push _ rfl)))

theorem b_isin {x d : Addr} {Q : Value → Shared → Prop} (P : PG w G0) (S : St s0 G0 W0 G mu env ρ s) (hx : s.heap.get? x = some (vobj d)) (h : Q (.bool true) s) : wpAny (model pw w) A (call (.builtin "isinstance") [.ref x, .ref 290]) Q E s :=
  isi_call (P.K.keeps S.le0) (fun M => (Looks.ld hx).andThen .now) (by kernel_rfl!) (by intro e; cases e) h
end
end -- L16
section -- L17
open PySem.Calls PySem.Spec PySem.SeqAt

/-- what an item is -/
inductive It where
  | na | int (n : Int) | frac (a b : Int) | txt (s : Str)
  deriving DecidableEq
noncomputable def ItV (G : Heap) : It → Value → Prop
  | .na, v => v = .none
  | .int n, v => ∃ t, v = .int n t
  | .frac a b, v => ∃ p t u, v = .ref p ∧ G.get? p = some (tup [.int a t, .int b u])
  | .txt x, v => ∃ t, v = .str x t
theorem ItV.up {G H : Heap} {i : It} {v : Value} (x : ItV G i v) (k : Le G H) : ItV H i v := by
  cases i with
  | frac a b => (refine ob_eeecl x ?_; try clear x; intro p t u e h); exact ⟨p, t, u, e, k _ _ h⟩
  | _ => exact x
noncomputable def AllV (G : Heap) (its : List It) (xs : List Value) : Prop := xs.length = its.length ∧ ∀ (i : Nat) it v, its[i]? = some it → xs[i]? = some v → ItV G it v
theorem AllV.up {G H : Heap} {its : List It} {xs : List Value} (x : AllV G its xs) (k : Le G H) : AllV H its xs := ⟨x.1, fun i it v a b => (x.2 i it v a b).up k⟩
theorem AllV.nil {G : Heap} : AllV G [] [] := ⟨rfl, fun i it v a => by simp at a⟩
theorem AllV.snoc {G : Heap} {its : List It} {xs : List Value} {it : It} {v : Value} (x : AllV G its xs) (y : ItV G it v) : AllV G (its ++ [it]) (xs ++ [v]) := unus (by exact trivial : Us (by
  refine ⟨by simp [x.1], fun i it' v' a b => ?_⟩
  by_cases h : i < its.length
  · rw [List.getElem?_append_left h] at a
    rw [List.getElem?_append_left (by rw [x.1]; exact h)] at b
    exact x.2 i it' v' a b
  · rw [List.getElem?_append_right (by omega)] at a
    rw [List.getElem?_append_right (by rw [x.1]; omega), x.1] at b
    have e : i - its.length = 0 := by
      cases q : i - its.length with
      | zero => rfl
      | succ n => rw [q] at a; simp at a
    rw [e] at a b
    simp at a b
    subst a b
    exact y))
theorem AllV.cons {G : Heap} {its : List It} {xs : List Value} {it : It} {v : Value} (y : ItV G it v) (x : AllV G its xs) : AllV G (it :: its) (v :: xs) := by
  refine ⟨by simp [x.1], fun i it' v' a b => ?_⟩
  cases i with
  | zero => simp at a b; subst a b; exact y
  | succ i => simp at a b; exact x.2 i it' v' a b
theorem AllV.get {G : Heap} {its : List It} {xs : List Value} (x : AllV G its xs) {i : Nat} {it : It} (h : its[i]? = some it) : ∃ v, xs[i]? = some v ∧ ItV G it v := by
  have : i < xs.length := by rw [x.1]; exact (List.getElem?_eq_some_iff.mp h).1
  exact ⟨xs[i], by simp [this], x.2 i it _ h (by simp [this])⟩
theorem AllV.at {G : Heap} {its : List It} {xs : List Value} (x : AllV G its xs) {i : Nat} {v : Value} (h : xs[i]? = some v) : ∃ it, its[i]? = some it ∧ ItV G it v := by
  have : i < its.length := by rw [← x.1]; exact (List.getElem?_eq_some_iff.mp h).1
  exact ⟨its[i], by simp [this], x.2 i _ v (by simp [this]) h⟩

section
variable {A : Around} {s : Shared}
theorem ItV.eq {it : It} {a b : Value} (x : ItV s.heap it a) (y : ItV s.heap it b) (hu : A.units + 10 < cLine) : EqAt A s a b true := unus (by exact trivial : Us (by
  cases it with
  | na => cases x; cases y; exact .same _
  | int n => (refine ob_el x ?_; try clear x; rintro t rfl); (refine ob_el y ?_; try clear y; rintro u rfl); have := EqAt.int_int (A := A) (s := s) n t n u; rwa [beq_self_eq_true] at this
  | txt n => (refine ob_el x ?_; try clear x; rintro t rfl); (refine ob_el y ?_; try clear y; rintro u rfl); have := EqAt.str_str (A := A) (s := s) n t n u; rwa [beq_self_eq_true] at this
  | frac n m =>
    refine ob_eeecl x ?_; try clear x; rintro p t u rfl hp
    refine ob_eeecl y ?_; try clear y; rintro q t' u' rfl hq
    by_cases e : p = q
    · subst e; exact .same _
    · have := RcAt.tuples (A := A) (l := p) (b := q) (e := fun _ => true) ⟨_, hp, rfl, _, rfl⟩ ⟨_, hq, rfl, _, rfl⟩ (by omega) fun j h1 h2 => by
        have h3 : j < 2 := by simpa using h1
        rcases lt2 h3 with rfl | rfl
        · have := EqAt.int_int (A := A.in1) (s := s) n t n t'; rw [beq_self_eq_true] at this; exact this
        · have := EqAt.int_int (A := A.in1) (s := s) m u m u'; rw [beq_self_eq_true] at this; exact this
      exact .of_refs e this))
end

section
variable {w : World} {A : Around} {E : Value → Shared → Prop} {s0 s : Shared} {G0 G : Heap} {W0 : List Addr} {mu mu' : List (Addr × Obj)} {env : Env} {ρ : Str → Option Value}

theorem all_true (n : Nat) : (List.range n).all (fun _ => true) = true := by simp
/-- lists of the same items are the same -/
theorem eq_items {l b : Addr} {xs ys : List Value} {n m : Nat} {its : List It} {Q : Value → Shared → Prop} (hl : s.heap.get? l = some (lst xs n)) (hb : s.heap.get? b = some (lst ys m)) (x : AllV s.heap its xs) (y : AllV s.heap its ys) (hu : A.units + 20 < cLine) (h : Q (.bool true) s) :
    wpAny (model pw w) A (compareOp .Eq (.ref l) (.ref b)) Q E s := by
  refine eq_listAt (e := fun _ => true) (isl' hl) (isl' hb) (by simp [x.1, y.1]) (by omega) (fun j h1 h2 => ?_) (by rw [all_true]; exact h)
  have h1' : j < xs.length := by simpa using h1
  refine ob_ecl (x.at (i := j) (v := xs[j]) (by simp [h1'])) ?_; intro it e v
  refine ItV.eq v (y.2 j it _ e (by simp)) (by show A.units + 1 + 10 < _; omega)
theorem ne_items {l b : Addr} {xs ys : List Value} {n m : Nat} {its : List It} {Q : Value → Shared → Prop} (hl : s.heap.get? l = some (lst xs n)) (hb : s.heap.get? b = some (lst ys m)) (x : AllV s.heap its xs) (y : AllV s.heap its ys) (hu : A.units + 20 < cLine) (h : Q (.bool false) s) :
    wpAny (model pw w) A (compareOp .NotEq (.ref l) (.ref b)) Q E s := by
  refine RcNeAt.lists (e := fun _ => true) (isl' hl) (isl' hb) (by simp [x.1, y.1]) (by omega) (fun j h1 h2 => ?_) pw w E Q (by rw [all_true]; exact h)
  have h1' : j < xs.length := by simpa using h1
  refine ob_ecl (x.at (i := j) (v := xs[j]) (by simp [h1'])) ?_; intro it e v
  refine ItV.eq v (y.2 j it _ e (by simp)) (by show A.units + 1 + 10 < _; omega)

noncomputable def txts (its : List It) : Prop := ∀ it ∈ its, ∃ x, it = .txt x
noncomputable def nums (its : List It) : Prop := ∀ it ∈ its, ∃ n, it = .int n
noncomputable def hitS (x : Str) : Value → Bool
  | .str y _ => y == x
  | _ => false
noncomputable def hitI (x : Int) : Value → Bool
  | .int y _ => y == x
  | _ => false
theorem any_txt {G : Heap} {its : List It} {xs : List Value} {x : Str} (a : AllV G its xs) (h : txts its) : xs.any (hitS x) = its.contains (.txt x) := unus (by exact trivial : Us (by
  rw [Bool.eq_iff_iff, List.any_eq_true, List.contains_iff_mem]
  constructor
  · rintro ⟨v, hv, e⟩
    refine ob_el (List.mem_iff_getElem?.mp hv) ?_; intro i hi
    refine ob_ecl (a.at hi) ?_; intro it h1 h2
    refine ob_el (h it (List.mem_of_getElem? h1)) ?_; rintro y rfl
    refine ob_el h2 ?_; try clear h2; rintro t rfl
    rw [← beq_iff_eq.mp e]
    exact List.mem_of_getElem? h1
  · intro hm
    refine ob_el (List.mem_iff_getElem?.mp hm) ?_; intro i hi
    refine ob_ecel (a.get hi) ?_; rintro v h1 t rfl
    exact ⟨_, List.mem_of_getElem? h1, by simp [hitS]⟩))
theorem any_int {G : Heap} {its : List It} {xs : List Value} {x : Int} (a : AllV G its xs) (h : nums its) : xs.any (hitI x) = its.contains (.int x) := unus (by exact trivial : Us (by
  rw [Bool.eq_iff_iff, List.any_eq_true, List.contains_iff_mem]
  constructor
  · rintro ⟨v, hv, e⟩
    refine ob_el (List.mem_iff_getElem?.mp hv) ?_; intro i hi
    refine ob_ecl (a.at hi) ?_; intro it h1 h2
    refine ob_el (h it (List.mem_of_getElem? h1)) ?_; rintro y rfl
    refine ob_el h2 ?_; try clear h2; rintro t rfl
    rw [← beq_iff_eq.mp e]
    exact List.mem_of_getElem? h1
  · intro hm
    refine ob_el (List.mem_iff_getElem?.mp hm) ?_; intro i hi
    refine ob_ecel (a.get hi) ?_; rintro v h1 t rfl
    exact ⟨_, List.mem_of_getElem? h1, by simp [hitI]⟩))
theorem AllV.eqS {its : List It} {xs : List Value} {x : Str} {u : Tok} (a : AllV s.heap its xs) (h : txts its) : ∀ y, y ∈ xs.toArray → EqAt A.in1 s y (.str x u) (hitS x y) := fun v hv => by
  refine ob_el (List.mem_iff_getElem?.mp (by simpa using hv)) ?_; intro i hi
  refine ob_ecl (a.at hi) ?_; intro it h1 h2
  refine ob_el (h it (List.mem_of_getElem? h1)) ?_; rintro y rfl
  refine ob_el h2 ?_; try clear h2; rintro t rfl
  exact .str_str y t x u
theorem AllV.eqI {its : List It} {xs : List Value} {x : Int} {u : Tok} (a : AllV s.heap its xs) (h : nums its) : ∀ y, y ∈ xs.toArray → EqAt A.in1 s y (.int x u) (hitI x y) := fun v hv => by
  refine ob_el (List.mem_iff_getElem?.mp (by simpa using hv)) ?_; intro i hi
  refine ob_ecl (a.at hi) ?_; intro it h1 h2
  refine ob_el (h it (List.mem_of_getElem? h1)) ?_; rintro y rfl
  refine ob_el h2 ?_; try clear h2; rintro t rfl
  exact .int_int y t x u
theorem in_txt {l : Addr} {xs : List Value} {n : Nat} {its : List It} {x : Str} {u : Tok} {Q : Value → Shared → Prop} (hl : s.heap.get? l = some (lst xs n)) (a : AllV s.heap its xs) (ht : txts its) (h : Q (.bool (its.contains (.txt x))) s) : wpAny (model pw w) A (compareOp .In (.str x u) (.ref l)) Q E s :=
  in_listAt (hitS x) (isl' hl) (a.eqS ht) (by rw [List.any_toArray, any_txt a ht]; exact h)
theorem notin_txt {l : Addr} {xs : List Value} {n : Nat} {its : List It} {x : Str} {u : Tok} {Q : Value → Shared → Prop} (hl : s.heap.get? l = some (lst xs n)) (a : AllV s.heap its xs) (ht : txts its) (h : Q (.bool (!its.contains (.txt x))) s) : wpAny (model pw w) A (compareOp .NotIn (.str x u) (.ref l)) Q E s :=
  notIn_listAt (hitS x) (isl' hl) (a.eqS ht) (by rw [List.any_toArray, any_txt a ht]; exact h)
theorem notin_int {l : Addr} {xs : List Value} {n : Nat} {its : List It} {x : Int} {u : Tok} {Q : Value → Shared → Prop} (hl : s.heap.get? l = some (lst xs n)) (a : AllV s.heap its xs) (ht : nums its) (h : Q (.bool (!its.contains (.int x))) s) : wpAny (model pw w) A (compareOp .NotIn (.int x u) (.ref l)) Q E s :=
  notIn_listAt (hitI x) (isl' hl) (a.eqI ht) (by rw [List.any_toArray, any_int a ht]; exact h)
/-- in a display of texts -/
theorem in_tup {l : Addr} {xs : List Value} {its : List It} {x : Str} {u : Tok} {Q : Value → Shared → Prop} (hl : s.heap.get? l = some (tup xs)) (a : AllV s.heap its xs) (ht : txts its) (h : Q (.bool (its.contains (.txt x))) s) : wpAny (model pw w) A (compareOp .In (.str x u) (.ref l)) Q E s :=
  in_tupleAt (hitS x) ⟨_, hl, rfl, _, rfl⟩ (a.eqS ht) (by rw [List.any_toArray, any_txt a ht]; exact h)
theorem notin_tup {l : Addr} {xs : List Value} {its : List It} {x : Str} {u : Tok} {Q : Value → Shared → Prop} (hl : s.heap.get? l = some (tup xs)) (a : AllV s.heap its xs) (ht : txts its) (h : Q (.bool (!its.contains (.txt x))) s) : wpAny (model pw w) A (compareOp .NotIn (.str x u) (.ref l)) Q E s :=
  notIn_tupleAt (hitS x) ⟨_, hl, rfl, _, rfl⟩ (a.eqS ht) (by rw [List.any_toArray, any_txt a ht]; exact h)
end
end -- L17
section -- L18
open PySem.Calls PySem.Spec PySem.SeqAt

noncomputable def clsKept (K : Frag) (C : Addr) : Bool := match K.lookup C with
  | some ⟨_, _, .cls _, _⟩ => specialIn K (.ref C) "__call__" == some (some (.builtin "type.__call__"))
  | _ => false
theorem kept_cls {K : Frag} {C : Addr} {s : Shared} (X : K.In s.heap) (e : clsKept K C = true) : Kept (.ref C) s := unus (by exact trivial : Us (by
  unfold clsKept at e
  split at e
  · rename_i q
    exact ⟨.machine, fun M A Q E h => ((Looks.ld (part := none) (X _ _ q)).andThen ((looks_specialIn X (beq_iff_eq.mp e)).andThen .now) : Looks M s.heap (keeperOf (.ref C)) .machine) A Q E s (fun _ _ x => x) h⟩
  · cases e))
theorem kept_vec {w : World} {G : Heap} {s : Shared} (P : PG w G) (h : Le G s.heap) : Kept (.ref 290) s := kept_cls (P.K.keeps h) (by kernel_rfl!)
/-- a vector known for good; a new one -/
noncomputable def FV (G : Heap) (v : Value) (k : Str) (l : Addr) (at' : Value) : Prop := ∃ x d o, v = .ref x ∧ G.get? x = some (vobj d) ∧ G.get? d = some o ∧ VD o k l at'
theorem FV.up {G H : Heap} {v : Value} {k : Str} {l : Addr} {at' : Value} (x : FV G v k l at') (g : Le G H) : FV H v k l at' := by obtain ⟨x, d, o, a, b, c, e⟩ := x; exact ⟨x, d, o, a, g _ _ b, g _ _ c, e⟩
noncomputable def NV (G : Heap) (W : List (Addr × Obj)) (v : Value) (k : Str) (l : Addr) (at' : Value) : Prop := ∃ x d o, v = .ref x ∧ G.get? x = some (vobj d) ∧ W = [(d, o)] ∧ VD o k l at'
noncomputable def Its (G : Heap) (its : List It) (l : Addr) : Prop := ∃ xs n, G.get? l = some (lst xs n) ∧ AllV G its xs
theorem Its.up {G H : Heap} {its : List It} {l : Addr} (x : Its G its l) (g : Le G H) : Its H its l := by obtain ⟨xs, n, a, b⟩ := x; exact ⟨xs, n, g _ _ a, b.up g⟩
/-- an attribute dict -/
noncomputable def AD (w : World) (G : Heap) (a : Addr) (kvs : List (Str × Value)) : Prop := a ≠ sysModules ∧ ∃ o, G.get? a = some o ∧ o.IsDictOf (strKind pw w) kvs
theorem AD.up {w : World} {G H : Heap} {a : Addr} {kvs : List (Str × Value)} (x : AD w G a kvs) (g : Le G H) : AD w H a kvs := by obtain ⟨n, o, b, c⟩ := x; exact ⟨n, o, g _ _ b, c⟩

section
variable {w : World} {A : Around} {E : Value → Shared → Prop} {s0 s : Shared} {G0 G : Heap} {W0 : List Addr} {mu mu' : List (Addr × Obj)} {env : Env} {ρ : Str → Option Value} {v : Value} {l : Addr} {k : Str} {at' : Value}

theorem r_list {elts : List Expr} {pos : Pos} {Q : Value → Shared → Prop} (h : wpAny (model pw w) A (spliced (backTo pos (starEach elts env))) (fun vs s₁ => wpAny (model pw w) A (newList vs) Q E s₁) E s) : wpAny (model pw w) A (eval (.List elts pos) env) Q E s := by
  rw [arm_eval_List]
  exact wpAny_bind (wpAny_standAt (wpAny_bind h))
theorem r_tuple {elts : List Expr} {k : Nat} {pos : Pos} {Q : Value → Shared → Prop} (h : wpAny (model pw w) A (spliced (backTo pos (starEach elts env))) (fun vs s₁ => wpAny (model pw w) A (newTuple vs) Q E s₁) E s) : wpAny (model pw w) A (eval (.Tuple elts k pos) env) Q E s := by
  rw [arm_eval_Tuple]
  exact wpAny_bind (wpAny_standAt (wpAny_bind h))
theorem fv_kind {Q : Value → Shared → Prop} {ex : Bool} (S : St s0 G0 W0 G mu env ρ s) (P : PG w G0) (F : FV G v k l at') (h : ∀ t s', St s0 G0 W0 G mu env ρ s' → Q (.str k t) s') : wpAny (model pw w) A (getAttr v "kind" ex) Q E s := by
  refine ob_eeecccl F ?_; try clear F; rintro x d o rfl hx hd V
  exact v_kind S P (S.z.gs _ _ hx) (S.z.gs _ _ hd) V h
theorem fv_items {Q : Value → Shared → Prop} {ex : Bool} (S : St s0 G0 W0 G mu env ρ s) (P : PG w G0) (F : FV G v k l at') (h : ∀ s', St s0 G0 W0 G mu env ρ s' → Q (.ref l) s') : wpAny (model pw w) A (getAttr v "items" ex) Q E s := by
  refine ob_eeecccl F ?_; try clear F; rintro x d o rfl hx hd V
  exact v_items S P (S.z.gs _ _ hx) (S.z.gs _ _ hd) V h
theorem fv_attrs {Q : Value → Shared → Prop} {ex : Bool} (S : St s0 G0 W0 G mu env ρ s) (P : PG w G0) (F : FV G v k l at') (h : ∀ s', St s0 G0 W0 G mu env ρ s' → Q at' s') : wpAny (model pw w) A (getAttr v "attrs" ex) Q E s := by
  refine ob_eeecccl F ?_; try clear F; rintro x d o rfl hx hd V
  exact v_attrs S P (S.z.gs _ _ hx) (S.z.gs _ _ hd) V h

theorem St.still {W Rs : List (Addr × Obj)} (S : St s0 G0 W0 G (W ++ Rs) env ρ s) (N : NV G W v k l at') (hn : ∀ p ∈ W, p.1 ∈ ([] : List (Addr × Obj)).map Prod.fst ∨ s0.heap.get? p.1 = none) : ∃ G2, Le G G2 ∧ FV G2 v k l at' ∧ St s0 G0 W0 G2 Rs env ρ s := by
  refine ob_eeecccl N ?_; try clear N; rintro x d o rfl hx rfl V
  refine ob_eccl (St.freeze (p := (d, o)) S ((hn (d, o) (.head _)).resolve_left (by simp))) ?_; intro G2 a b c
  exact ⟨G2, a, ⟨x, d, o, rfl, a _ _ hx, b, V⟩, c⟩
theorem AD.of {d : Addr} {o : Obj} {kvs : List (Str × Value)} (P : PG w G0) (S : St s0 G0 W0 G ((d, o) :: mu) env ρ s) (ho : o.IsDictOf (strKind pw w) kvs) (h0 : s0.heap.get? d = none) : ∃ G2, Le G G2 ∧ AD w G2 d kvs ∧ St s0 G0 W0 G2 mu env ρ s := unus (by exact trivial : Us (by
  have ne : d ≠ sysModules := fun e => by
    have := (P.up S.z.g0).sys
    rw [← e] at this
    exact this (S.z.mt _ (.head _)).2.1
  refine ob_eccl (St.freeze (p := (d, o)) S h0) ?_; intro G2 a b c
  exact ⟨G2, a, ⟨ne, o, b, ho⟩, c⟩))
theorem St.neSys {d : Addr} {o : Obj} (P : PG w G0) (S : St s0 G0 W0 G mu env ρ s) (h : (d, o) ∈ mu) : d ≠ sysModules := fun e => by
  have := (P.up S.z.g0).sys
  rw [← e] at this
  exact this (S.z.mt _ h).2.1
theorem ad_get {d : Addr} {kvs : List (Str × Value)} {x : Str} {t : Tok} {Q : Value → Shared → Prop} (S : St s0 G0 W0 G mu env ρ s) (D : AD w G d kvs) (h : ∀ s', St s0 G0 W0 G mu env ρ s' → Q ((valueAt kvs x).getD .none) s') :
    wpAny (model pw w) A (call (.builtin "dict.get") [.ref d, .str x t]) Q E s := by obtain ⟨n, _, a, b⟩ := D; exact d_get S (S.z.gs _ _ a) b n (strKind_is pw w x t) h
theorem ad_sub {value slice : Expr} {d : Addr} {kvs : List (Str × Value)} {x : Str} {t : Tok} {v : Value} {Q : Value → Shared → Prop} (S : St s0 G0 W0 G mu env ρ s) (D : AD w G d kvs) (hl : valueAt kvs x = some v) (h : ∀ s', St s0 G0 W0 G mu env ρ s' → Q v s')
    (hs : subscripted slice false (.ref d) (.str x t) = operate [.ref d, .str x t] (getItem (.ref d) (.str x t))) : wpAny (model pw w) A (subscriptTail value slice (.ref d) (.str x t)) Q E s := by obtain ⟨_, _, a, b⟩ := D; exact d_sub S (S.z.gs _ _ a) b (strKind_is pw w x t) hl h hs
theorem ad_in {d : Addr} {kvs : List (Str × Value)} {x : Str} {t : Tok} {Q : Value → Shared → Prop} (S : St s0 G0 W0 G mu env ρ s) (D : AD w G d kvs) (h : ∀ s', St s0 G0 W0 G mu env ρ s' → Q (.bool (valueAt kvs x).isSome) s') :
    wpAny (model pw w) A (compareOp .In (.str x t) (.ref d)) Q E s := by obtain ⟨n, _, a, b⟩ := D; exact d_in S (S.z.gs _ _ a) b n (strKind_is pw w x t) h
theorem ad_notin {d : Addr} {kvs : List (Str × Value)} {x : Str} {t : Tok} {Q : Value → Shared → Prop} (S : St s0 G0 W0 G mu env ρ s) (D : AD w G d kvs) (h : ∀ s', St s0 G0 W0 G mu env ρ s' → Q (.bool (!(valueAt kvs x).isSome)) s') :
    wpAny (model pw w) A (compareOp .NotIn (.str x t) (.ref d)) Q E s := by obtain ⟨n, _, a, b⟩ := D; exact d_notin S (S.z.gs _ _ a) b n (strKind_is pw w x t) h
theorem ad_meth {d : Addr} {kvs : List (Str × Value)} {name : Str} {id : String} {pl : Sem Bool} {Q : Value × List Value → Shared → Prop} (S : St s0 G0 W0 G mu env ρ s) (D : AD w G d kvs) (slot : Slot "dict" name id) (ty : typeOf (.builtin id) = pure (.type "method_descriptor")) (h : Q (.builtin id, [.ref d]) s) :
    wpAny (model pw w) A (getMethod (.ref d) name pl) Q E s := by obtain ⟨_, _, a, b⟩ := D; exact d_meth slot ty (S.z.gs _ _ a) b h
end
end -- L18
section -- L19
open PySem.Calls PySem.Spec PySem.SeqAt

/-- the kinds that the law meets -/
noncomputable def KOk (k : Str) : Prop := k ∈ (["character", "integer", "double", "logical", "list"] : List Str)
theorem KOk.ne {k x : Str} (h : KOk k) (hx : (["character", "integer", "double", "logical", "list"] : List Str).contains x = false) : (k == x) = false := by
  rw [beq_eq_false_iff_ne]
  rintro rfl
  rw [List.contains_iff_mem.mpr h] at hx
  cases hx
noncomputable def ATT (w : World) (G : Heap) (at' : Value) : Option (List (Str × Value)) → Prop
  | none => at' = .none
  | some kvs => ∃ d, at' = .ref d ∧ AD w G d kvs
theorem ATT.up {w : World} {G H : Heap} {at' : Value} {t : Option (List (Str × Value))} (x : ATT w G at' t) (g : Le G H) : ATT w H at' t := by
  cases t with
  | none => exact x
  | some kvs => (refine ob_ecl x ?_; try clear x; intro d e D); exact ⟨d, e, D.up g⟩
theorem ATT.up' {w : World} {G H : Heap} {at' : Value} {t : Option (List (Str × Value))} (g : Le G H) (x : ATT w G at' t) : ATT w H at' t := x.up g
theorem FV.up' {G H : Heap} {v : Value} {k : Str} {l : Addr} {at' : Value} (g : Le G H) (x : FV G v k l at') : FV H v k l at' := x.up g
theorem AD.up' {w : World} {G H : Heap} {a : Addr} {kvs : List (Str × Value)} (g : Le G H) (x : AD w G a kvs) : AD w H a kvs := x.up g
noncomputable def attGet (t : Option (List (Str × Value))) (nm : Str) : Value := match t with
  | none => .none
  | some kvs => (valueAt kvs nm).getD .none

section
variable {w : World} {A : Around} {E : Value → Shared → Prop} {s : Shared}
theorem q_eq {x y : Str} {t u : Tok} (b : Bool) (e : (x == y) = b) {Q : Value → Shared → Prop} (h : Q (.bool b) s) : wpAny (model pw w) A (compareOp .Eq (.str x t) (.str y u)) Q E s := by
  subst e
  exact eq_str h
end
end -- L19
section -- L20
open PySem.Calls PySem.Spec PySem.SeqAt

theorem crho_at {scope : Scope} {env : Env} {C : Addr} {ρ : Str → Option Value} {y : Str} {v : Value} (h : ((compEnvC scope (closOf scope env) C env).kindOf y == some .local) = false) (e : ρ y = some v) : crho scope env C ρ y = some v := by
  unfold crho
  rw [if_neg (by simpa using h)]
  exact e

/-- a list known for good, its values as told -/
noncomputable def Lst (G : Heap) (n : Nat) (R : Heap → Nat → Value → Prop) (l : Addr) : Prop := ∃ ys c, G.get? l = some (lst ys c) ∧ ys.length = n ∧ ∀ j y, ys[j]? = some y → R G j y
noncomputable def Mono (R : Heap → Nat → Value → Prop) : Prop := ∀ G H j y, Le G H → R G j y → R H j y
theorem Lst.up {G H : Heap} {n : Nat} {R : Heap → Nat → Value → Prop} {l : Addr} (m : Mono R) (x : Lst G n R l) (g : Le G H) : Lst H n R l := by obtain ⟨ys, c, a, b, d⟩ := x; exact ⟨ys, c, g _ _ a, b, fun j y e => m _ _ _ _ g (d j y e)⟩
theorem Lst.its {G : Heap} {n : Nat} {f : Nat → It} {l : Addr} (x : Lst G n (fun G i y => ItV G (f i) y) l) : Its G ((List.range n).map f) l := unus (by exact trivial : Us (by
  refine ob_eeccl x ?_; try clear x; intro ys c a b d
  refine ⟨ys, c, a, by simp [b], fun i it v h1 h2 => ?_⟩
  rw [List.getElem?_map] at h1
  have := d i v h2
  have hi : i < n := by rw [← b]; exact (List.getElem?_eq_some_iff.mp h2).1
  rw [List.getElem?_range hi] at h1
  simp at h1
  rw [← h1]; exact this))
theorem ItV.mono {f : Nat → It} : Mono fun G i y => ItV G (f i) y := fun _ _ _ _ g x => x.up g

section
variable {w : World} {A : Around} {E : Value → Shared → Prop} {s0 s : Shared} {G0 G : Heap} {W0 : List Addr} {mu mu' : List (Addr × Obj)} {env : Env} {ρ : Str → Option Value}
  {elt iter c : Expr} {ifs : List Expr} {scope : Scope} {pos : Pos} {x : Str} {px : Pos} {n : Nat} {P : Nat → Value → Prop} {it : Value}

noncomputable abbrev Turn (w : World) (A : Around) (G : Heap) (env : Env) (ρ : Str → Option Value) (scope : Scope) (x : Str) (elt : Expr) (n : Nat) (P : Nat → Value → Prop) (R : Heap → Nat → Value → Prop) (M : Nat → Heap → List (Addr × Obj) → Prop) : Prop :=
  ∀ C sD Wc i v G' mu' ρ' s' it d E', i < n → P i v → Le G G' → M i G' mu' → (∀ y, y ≠ x → ρ' y = crho scope env C ρ y) → St sD G Wc G' (it :: d :: mu') (compEnvC scope (closOf scope env) C env) (upd ρ' x v) s' →
      ∀ Qe : Value → Shared → Prop, (∀ y G'' mu'' s₄, Le G' G'' → R G'' i y → M (i + 1) G'' mu'' → St sD G Wc G'' (it :: d :: mu'') (compEnvC scope (closOf scope env) C env) (upd ρ' x v) s₄ → Qe y s₄) → wpAny (model pw w) A (eval elt (compEnvC scope (closOf scope env) C env)) Qe E' s'

theorem turn_of {R : Heap → Nat → Value → Prop} {M : Nat → Heap → List (Addr × Obj) → Prop} (hR : Mono R) (t : Turn w A G env ρ scope x elt n P R M) :
    ∀ C sD Wc i v ys G' mu' ρ' s' it d E', i < n → P i v → Le G G' → (ys.length = i ∧ (∀ j y, ys[j]? = some y → R G' j y) ∧ M i G' mu') → (∀ y, y ≠ x → ρ' y = crho scope env C ρ y) → St sD G Wc G' (it :: d :: mu') (compEnvC scope (closOf scope env) C env) (upd ρ' x v) s' →
      wpAny (model pw w) A (forIn ([] : List Expr) true fun c r => if r = true then do let ok ← isTrue c (compEnvC scope (closOf scope env) C env) (eval c (compEnvC scope (closOf scope env) C env)); pure (ForInStep.yield ok) else pure (ForInStep.yield r)) (fun ok s₃ =>
        if ok = true then wpAny (model pw w) A (eval elt (compEnvC scope (closOf scope env) C env)) (fun y s₄ => ∃ G'' mu'' ρ'', Le G' G'' ∧ ((ys ++ [y]).length = i + 1 ∧ (∀ j z, (ys ++ [y])[j]? = some z → R G'' j z) ∧ M (i + 1) G'' mu'') ∧ (∀ y, y ≠ x → ρ'' y = crho scope env C ρ y) ∧ St sD G Wc G'' (it :: d :: mu'') (compEnvC scope (closOf scope env) C env) ρ'' s₄) E' s₃
        else ∃ G'' mu'' ρ'', Le G' G'' ∧ (ys.length = i + 1 ∧ (∀ j z, ys[j]? = some z → R G'' j z) ∧ M (i + 1) G'' mu'') ∧ (∀ y, y ≠ x → ρ'' y = crho scope env C ρ y) ∧ St sD G Wc G'' (it :: d :: mu'') (compEnvC scope (closOf scope env) C env) ρ'' s₃) E' s' := unus (by exact trivial : Us (by
  intro C sD Wc i v ys G' mu' ρ' s' it d E' hi hP hG ⟨h1, h2, h3⟩ hρ S
  refine wpAny_pure ?_
  rw [if_pos rfl]
  refine t C sD Wc i v G' mu' ρ' s' it d E' hi hP hG h3 hρ S _ fun y G'' mu'' s₄ g hr hm S => ?_
  refine ⟨G'', mu'', _, g, ⟨by simp [h1], fun j z e => ?_, hm⟩, fun y hy => ?_, S⟩
  · by_cases q : j < ys.length
    · rw [List.getElem?_append_left q] at e
      exact hR _ _ _ _ g (h2 j z e)
    · rw [List.getElem?_append_right (by omega)] at e
      have : j - ys.length = 0 := by
        cases q' : j - ys.length with
        | zero => rfl
        | succ k => rw [q'] at e; simp at e
      rw [this] at e; simp at e; subst e
      have : j = i := by omega
      rw [this]; exact hr
  · have : upd ρ' x v y = ρ' y := by simp [upd, hy]
    rw [this]; exact hρ y hy))

/-- a comprehension, as a value -/
theorem comp_v {Q : Value → Shared → Prop} {R : Heap → Nat → Value → Prop} {M : Nat → Heap → List (Addr × Obj) → Prop} (T : IterFor pw w A s0 G0 W0 G mu env ρ n P it s) (hz : n ≤ 100000) (hx : compOk scope env x = true) (hR : Mono R) (h0 : M 0 G mu)
    (t : Turn w A G env ρ scope x elt n P R M)
    (fin : ∀ D G' mu' s', s0.heap.get? D = none → Le G G' → Lst G' n R D → (∃ G1, Le G1 G' ∧ M n G1 mu') → St s0 G0 W0 G' mu' env ρ s' → Q (.ref D) s') :
    CompGoal pw w A E elt iter [] scope pos x px env (compPost (model pw w) A E none Q) it s := by
  refine comp_eval T (by rw [sizeLine_eq]; omega) hx (fun i ys G mu => ys.length = i ∧ (∀ j y, ys[j]? = some y → R G j y) ∧ M i G mu) (fun i ys G mu h => by omega) ⟨rfl, fun j y e => by simp at e, h0⟩ (turn_of hR t) ?_
  rintro D ys nn G' mu' s' hD hg ⟨h1, h2, h3⟩ S
  refine ob_eccl (S.freeze hD) ?_; intro G2 a b c
  exact fin D G2 mu' s' hD (hg.trans a) ⟨ys, nn, b, h1, fun j y e => hR _ _ _ _ a (h2 j y e)⟩ ⟨G', a, h3⟩ c
/-- a comprehension, given to a name -/
theorem comp_a {Q : Flow → Shared → Prop} {y : Str} {py : Pos} {R : Heap → Nat → Value → Prop} {M : Nat → Heap → List (Addr × Obj) → Prop} (T : IterFor pw w A s0 G0 W0 G mu env ρ n P it s) (hz : n ≤ 100000) (hx : compOk scope env x = true) (hR : Mono R) (h0 : M 0 G mu)
    (t : Turn w A G env ρ scope x elt n P R M) (hy : isOwn env y = true) (hk : env.scope.kind = .function)
    (fin : ∀ D G' mu' s', s0.heap.get? D = none → Le G G' → Lst G' n R D → (∃ G1, Le G1 G' ∧ M n G1 mu') → St s0 G0 W0 G' mu' env (upd ρ y (.ref D)) s' → Q .next s') :
    CompGoal pw w A E elt iter [] scope pos x px env (compPost (model pw w) A E (some (assign (.Name y py) env)) (fun _ s' => Q .next s')) it s := by
  refine comp_assign T (by rw [sizeLine_eq]; omega) hx (fun i ys G mu => ys.length = i ∧ (∀ j y, ys[j]? = some y → R G j y) ∧ M i G mu) (fun i ys G mu h => by omega) ⟨rfl, fun j y e => by simp at e, h0⟩ (turn_of hR t) hy hk ?_
  rintro D ys nn G' mu' s' hD hg ⟨h1, h2, h3⟩ S
  refine ob_eccl (S.freeze hD) ?_; intro G2 a b c
  exact fin D G2 mu' s' hD (hg.trans a) ⟨ys, nn, b, h1, fun j y e => hR _ _ _ _ a (h2 j y e)⟩ ⟨G', a, h3⟩ c

/-- with a test; what may turn stays -/
noncomputable abbrev TurnIf (w : World) (A : Around) (G : Heap) (mu : List (Addr × Obj)) (env : Env) (ρ : Str → Option Value) (scope : Scope) (x : Str) (elt c : Expr) (n : Nat) (P : Nat → Value → Prop) (b : Nat → Bool) (R : Heap → Nat → Value → Prop) : Prop :=
  ∀ C sD Wc i v G' ρ' s' it d E', i < n → P i v → Le G G' → (∀ y, y ≠ x → ρ' y = crho scope env C ρ y) → St sD G Wc G' (it :: d :: mu) (compEnvC scope (closOf scope env) C env) (upd ρ' x v) s' →
      ∀ (Qe : Value → Shared → Prop) (Qn : Shared → Prop), (∀ y G'' s₄, Le G' G'' → R G'' i y → St sD G Wc G'' (it :: d :: mu) (compEnvC scope (closOf scope env) C env) (upd ρ' x v) s₄ → Qe y s₄) →
        (∀ G'' s₃, Le G' G'' → St sD G Wc G'' (it :: d :: mu) (compEnvC scope (closOf scope env) C env) (upd ρ' x v) s₃ → Qn s₃) →
      wpAny (model pw w) A (isTrue c (compEnvC scope (closOf scope env) C env) (eval c (compEnvC scope (closOf scope env) C env))) (fun ok s₃ => ok = b i ∧
        (b i = true → wpAny (model pw w) A (eval elt (compEnvC scope (closOf scope env) C env)) Qe E' s₃) ∧ (b i = false → Qn s₃)) E' s'
noncomputable def IfInv (mu0 : List (Addr × Obj)) (b : Nat → Bool) (R : Heap → Nat → Value → Prop) (i : Nat) (ys : List Value) (G : Heap) (mu : List (Addr × Obj)) : Prop := mu = mu0 ∧ ys.length = ((List.range i).filter b).length ∧ ∀ (j k : Nat) (y : Value), ((List.range i).filter b)[j]? = some k → ys[j]? = some y → R G k y

theorem turnIf_of {b : Nat → Bool} {R : Heap → Nat → Value → Prop} (hR : Mono R) (t : TurnIf w A G mu env ρ scope x elt c n P b R) :
    ∀ C sD Wc i v ys G' mu' ρ' s' it d E', i < n → P i v → Le G G' → IfInv mu b R i ys G' mu' → (∀ y, y ≠ x → ρ' y = crho scope env C ρ y) → St sD G Wc G' (it :: d :: mu') (compEnvC scope (closOf scope env) C env) (upd ρ' x v) s' →
      wpAny (model pw w) A (forIn [c] true fun c r => if r = true then do let ok ← isTrue c (compEnvC scope (closOf scope env) C env) (eval c (compEnvC scope (closOf scope env) C env)); pure (ForInStep.yield ok) else pure (ForInStep.yield r)) (fun ok s₃ =>
        if ok = true then wpAny (model pw w) A (eval elt (compEnvC scope (closOf scope env) C env)) (fun y s₄ => ∃ G'' mu'' ρ'', Le G' G'' ∧ IfInv mu b R (i + 1) (ys ++ [y]) G'' mu'' ∧ (∀ y, y ≠ x → ρ'' y = crho scope env C ρ y) ∧ St sD G Wc G'' (it :: d :: mu'') (compEnvC scope (closOf scope env) C env) ρ'' s₄) E' s₃
        else ∃ G'' mu'' ρ'', Le G' G'' ∧ IfInv mu b R (i + 1) ys G'' mu'' ∧ (∀ y, y ≠ x → ρ'' y = crho scope env C ρ y) ∧ St sD G Wc G'' (it :: d :: mu'') (compEnvC scope (closOf scope env) C env) ρ'' s₃) E' s' := unus (by exact trivial : Us (by
  intro C sD Wc i v ys G' mu' ρ' s' it d E' hi hP hG hI hρ S
  refine ob_ccl hI ?_; try clear hI; rintro rfl h1 h2
  have hup : ∀ y, y ≠ x → upd ρ' x v y = crho scope env C ρ y := fun y hy => by
    have : upd ρ' x v y = ρ' y := by simp [upd, hy]
    rw [this]; exact hρ y hy
  rw [List.forIn_cons]
  refine wpAny_bind ?_
  rw [if_pos rfl]
  refine wpAny_bind (wpAny_mono (t C sD Wc i v G' ρ' s' it d E' hi hP hG hρ S (fun y s₄ => ∃ G'', Le G' G'' ∧ R G'' i y ∧ St sD G Wc G'' (it :: d :: mu') (compEnvC scope (closOf scope env) C env) (upd ρ' x v) s₄) (fun s₃ => ∃ G'', Le G' G'' ∧ St sD G Wc G'' (it :: d :: mu') (compEnvC scope (closOf scope env) C env) (upd ρ' x v) s₃) (fun y G'' s₄ g r S => ⟨G'', g, r, S⟩) fun G'' s₃ g S => ⟨G'', g, S⟩) (fun ok s₃ ⟨e, ht, hf⟩ => ?_) fun _ _ e => e)
  refine wpAny_pure ?_
  show wpAny _ _ (forIn [] ok _) _ _ _
  refine wpAny_pure ?_
  subst e
  cases hb : b i with
  | true =>
    rw [if_pos rfl]
    refine wpAny_mono (ht hb) (fun y s₄ ⟨G'', g, hr, S⟩ => ?_) fun _ _ e => e
    refine ⟨G'', mu', _, g, ⟨rfl, ?_, fun j k z e1 e2 => ?_⟩, hup, S⟩
    · rw [List.range_succ, List.filter_append]; simp [hb, h1]
    · rw [List.range_succ, List.filter_append] at e1
      simp only [List.filter_cons, hb, List.filter_nil, if_true] at e1
      by_cases q : j < ys.length
      · rw [List.getElem?_append_left q] at e2
        rw [List.getElem?_append_left (by omega)] at e1
        exact hR _ _ _ _ g (h2 j k z e1 e2)
      · rw [List.getElem?_append_right (by omega)] at e2
        rw [List.getElem?_append_right (by omega)] at e1
        have : j - ys.length = 0 := by
          cases q' : j - ys.length with
          | zero => rfl
          | succ k => rw [q'] at e2; simp at e2
        rw [← h1, this] at e1
        rw [this] at e2
        simp at e1 e2; subst e1 e2
        exact hr
  | false =>
    rw [if_neg Bool.false_ne_true]
    refine ob_ecl (hf hb) ?_; intro G'' g S
    refine ⟨G'', mu', _, g, ⟨rfl, ?_, fun j k z e1 e2 => ?_⟩, hup, S⟩
    · rw [List.range_succ, List.filter_append]; simp [hb, h1]
    · rw [List.range_succ, List.filter_append] at e1
      simp only [List.filter_cons, hb, List.filter_nil, Bool.false_eq_true, if_false, List.append_nil] at e1
      exact hR _ _ _ _ g (h2 j k z e1 e2)))

/-- what a comprehension with a test makes -/
noncomputable def LstF (G : Heap) (ks : List Nat) (R : Heap → Nat → Value → Prop) (l : Addr) : Prop := ∃ ys c, G.get? l = some (lst ys c) ∧ ys.length = ks.length ∧ ∀ (j k : Nat) (y : Value), ks[j]? = some k → ys[j]? = some y → R G k y
theorem LstF.its {ks : List Nat} {f : Nat → It} {l : Addr} (x : LstF G ks (fun G i y => ItV G (f i) y) l) : Its G (ks.map f) l := unus (by exact trivial : Us (by
  refine ob_eeccl x ?_; try clear x; intro ys c a b d
  refine ⟨ys, c, a, by simp [b], fun i it v h1 h2 => ?_⟩
  rw [List.getElem?_map] at h1
  refine ob_ecl (Option.map_eq_some_iff.mp h1) ?_; intro k e q
  subst q
  exact d i k v e h2))
theorem IfInv.len {mu0 : List (Addr × Obj)} {b : Nat → Bool} {R : Heap → Nat → Value → Prop} {i : Nat} {ys : List Value} {G : Heap} {mu : List (Addr × Obj)} (x : IfInv mu0 b R i ys G mu) : ys.length ≤ i := by
  rw [x.2.1]
  exact Nat.le_trans (List.length_filter_le ..) (by simp)
theorem comp_vf {Q : Value → Shared → Prop} {b : Nat → Bool} {R : Heap → Nat → Value → Prop} (T : IterFor pw w A s0 G0 W0 G mu env ρ n P it s) (hz : n ≤ 100000) (hx : compOk scope env x = true) (hR : Mono R)
    (t : TurnIf w A G mu env ρ scope x elt c n P b R)
    (fin : ∀ D G' s', s0.heap.get? D = none → Le G G' → LstF G' ((List.range n).filter b) R D → St s0 G0 W0 G' mu env ρ s' → Q (.ref D) s') :
    CompGoal pw w A E elt iter [c] scope pos x px env (compPost (model pw w) A E none Q) it s := by
  refine comp_eval T (by rw [sizeLine_eq]; omega) hx (IfInv mu b R) (fun i ys G mu h => h.len) ⟨rfl, rfl, fun j k y e => by simp at e⟩ (turnIf_of hR t) ?_
  rintro D ys nn G' mu' s' hD hg ⟨rfl, h1, h2⟩ S
  refine ob_eccl (S.freeze hD) ?_; intro G2 a b c
  exact fin D G2 s' hD (hg.trans a) ⟨ys, nn, b, h1, fun j k y e e' => hR _ _ _ _ a (h2 j k y e e')⟩ c
theorem comp_af {Q : Flow → Shared → Prop} {y : Str} {py : Pos} {b : Nat → Bool} {R : Heap → Nat → Value → Prop} (T : IterFor pw w A s0 G0 W0 G mu env ρ n P it s) (hz : n ≤ 100000) (hx : compOk scope env x = true) (hR : Mono R)
    (t : TurnIf w A G mu env ρ scope x elt c n P b R) (hy : isOwn env y = true) (hk : env.scope.kind = .function)
    (fin : ∀ D G' s', s0.heap.get? D = none → Le G G' → LstF G' ((List.range n).filter b) R D → St s0 G0 W0 G' mu env (upd ρ y (.ref D)) s' → Q .next s') :
    CompGoal pw w A E elt iter [c] scope pos x px env (compPost (model pw w) A E (some (assign (.Name y py) env)) (fun _ s' => Q .next s')) it s := by
  refine comp_assign T (by rw [sizeLine_eq]; omega) hx (IfInv mu b R) (fun i ys G mu h => h.len) ⟨rfl, rfl, fun j k y e => by simp at e⟩ (turnIf_of hR t) hy hk ?_
  rintro D ys nn G' mu' s' hD hg ⟨rfl, h1, h2⟩ S
  refine ob_eccl (S.freeze hD) ?_; intro G2 a b c
  exact fin D G2 s' hD (hg.trans a) ⟨ys, nn, b, h1, fun j k y e e' => hR _ _ _ _ a (h2 j k y e e')⟩ c
end
end -- L20
section -- L21
open PySem.Calls PySem.Spec PySem.SeqAt

theorem FnAt.up' {G H : Heap} {a : Addr} {st : Stmt} (k : Le G H) (x : FnAt G a st) : FnAt H a st := x.up k
theorem PG.up' {w : World} {G H : Heap} (k : Le G H) (x : PG w G) : PG w H := x.up k
theorem Glob.up' {G H : Heap} {x : Str} {v : Value} (k : Le G H) (g : Glob G x v) : Glob H x v := g.up k
theorem Its.up' {G H : Heap} {its : List It} {l : Addr} (g : Le G H) (x : Its G its l) : Its H its l := x.up g
theorem AllV.up' {G H : Heap} {its : List It} {xs : List Value} (g : Le G H) (x : AllV G its xs) : AllV H its xs := x.up g
theorem ItV.up' {G H : Heap} {it : It} {v : Value} (g : Le G H) (x : ItV G it v) : ItV H it v := x.up g
theorem Le.at' {G H : Heap} (k : Le G H) {a : Addr} {o : Obj} (h : G.get? a = some o) : H.get? a = some o := k a o h

theorem rho_comp {scope : Scope} {env : Env} {C : Addr} {ρ ρ' : Str → Option Value} {x : Str} (hρ : ∀ y, y ≠ x → ρ' y = crho scope env C ρ y) {y : Str} {v : Value} (e1 : (y == x) = false) (e2 : ((compEnvC scope (closOf scope env) C env).kindOf y == some .local) = false) (e : ρ y = some v) : ρ' y = some v :=
  (hρ y (by simpa using e1)).trans (crho_at e2 e)
/-- a vector known whole -/
structure Vd where
  k : Str
  its : List It
  t : Option (List (Str × Value))
noncomputable def VV (w : World) (G : Heap) (v : Value) (d : Vd) : Prop := ∃ l at', FV G v d.k l at' ∧ Its G d.its l ∧ ATT w G at' d.t
theorem VV.up {w : World} {G H : Heap} {v : Value} {d : Vd} (x : VV w G v d) (g : Le G H) : VV w H v d := by obtain ⟨l, a, b, c, d⟩ := x; exact ⟨l, a, b.up g, c.up g, d.up g⟩
theorem VV.up' {w : World} {G H : Heap} {v : Value} {d : Vd} (g : Le G H) (x : VV w G v d) : VV w H v d := x.up g
theorem VV.open {w : World} {G : Heap} {v : Value} {k : Str} {its : List It} {t : Option (List (Str × Value))} (V : VV w G v ⟨k, its, t⟩) : ∃ l at' xs n, FV G v k l at' ∧ G.get? l = some (lst xs n) ∧ AllV G its xs ∧ ATT w G at' t ∧ xs.length = its.length := by
  refine ob_eeccl V ?_; try clear V; rintro l at' F ⟨xs, n, a, b⟩ T
  exact ⟨l, at', xs, n, F, a, b, T, b.1⟩
/-- one not yet at rest -/
noncomputable def NVV (w : World) (G : Heap) (W : List (Addr × Obj)) (v : Value) (d : Vd) : Prop := ∃ l at', NV G W v d.k l at' ∧ Its G d.its l ∧ ATT w G at' d.t
/-- a list of vectors -/
noncomputable def AllVV (w : World) (G : Heap) (ds : List Vd) (vs : List Value) : Prop := vs.length = ds.length ∧ ∀ (i : Nat) d v, ds[i]? = some d → vs[i]? = some v → VV w G v d
theorem AllVV.up {w : World} {G H : Heap} {ds : List Vd} {vs : List Value} (x : AllVV w G ds vs) (g : Le G H) : AllVV w H ds vs := ⟨x.1, fun i d v a b => (x.2 i d v a b).up g⟩
theorem AllVV.up' {w : World} {G H : Heap} {ds : List Vd} {vs : List Value} (g : Le G H) (x : AllVV w G ds vs) : AllVV w H ds vs := x.up g
theorem AllVV.get {w : World} {G : Heap} {ds : List Vd} {vs : List Value} (x : AllVV w G ds vs) {i : Nat} {d : Vd} (h : ds[i]? = some d) : ∃ v, vs[i]? = some v ∧ VV w G v d := by
  have : i < vs.length := by rw [x.1]; exact (List.getElem?_eq_some_iff.mp h).1
  exact ⟨vs[i], by simp [this], x.2 i d _ h (by simp [this])⟩
theorem AllVV.at {w : World} {G : Heap} {ds : List Vd} {vs : List Value} (x : AllVV w G ds vs) {i : Nat} {v : Value} (h : vs[i]? = some v) : ∃ d, ds[i]? = some d ∧ VV w G v d := by
  have : i < ds.length := by rw [← x.1]; exact (List.getElem?_eq_some_iff.mp h).1
  exact ⟨ds[i], by simp [this], x.2 i _ v (by simp [this]) h⟩
theorem AllVV.nil {w : World} {G : Heap} : AllVV w G [] [] := ⟨rfl, fun i d v a => by simp at a⟩
theorem AllVV.snoc {w : World} {G : Heap} {ds : List Vd} {vs : List Value} {d : Vd} {v : Value} (x : AllVV w G ds vs) (y : VV w G v d) : AllVV w G (ds ++ [d]) (vs ++ [v]) := unus (by exact trivial : Us (by
  refine ⟨by simp [x.1], fun i d' v' a b => ?_⟩
  by_cases h : i < ds.length
  · rw [List.getElem?_append_left h] at a
    rw [List.getElem?_append_left (by rw [x.1]; exact h)] at b
    exact x.2 i d' v' a b
  · rw [List.getElem?_append_right (by omega)] at a
    rw [List.getElem?_append_right (by rw [x.1]; omega), x.1] at b
    have e : i - ds.length = 0 := by
      cases q : i - ds.length with
      | zero => rfl
      | succ n => rw [q] at a; simp at a
    rw [e] at a b
    simp at a b
    subst a b
    exact y))
noncomputable def VVs (w : World) (G : Heap) (ds : List Vd) (l : Addr) : Prop := ∃ vs n, G.get? l = some (lst vs n) ∧ AllVV w G ds vs
theorem VVs.up {w : World} {G H : Heap} {ds : List Vd} {l : Addr} (x : VVs w G ds l) (g : Le G H) : VVs w H ds l := by obtain ⟨vs, n, a, b⟩ := x; exact ⟨vs, n, g _ _ a, b.up g⟩
theorem VVs.up' {w : World} {G H : Heap} {ds : List Vd} {l : Addr} (g : Le G H) (x : VVs w G ds l) : VVs w H ds l := x.up g

theorem AllV.of_its {G : Heap} {its : List It} {l : Addr} {xs : List Value} {n : Nat} (x : Its G its l) (h : G.get? l = some (lst xs n)) : AllV G its xs := unus (by exact trivial : Us (by
  refine ob_eecl x ?_; try clear x; intro ys m a b
  rw [h] at a
  have : xs = ys := by
    have := congrArg Obj.data (Option.some.inj a)
    simp at this
    exact this.1
  rw [this]; exact b))

theorem LstF.its' {G : Heap} {ks : List Nat} {f : Nat → It} {l : Addr} (x : LstF G ks (fun G i y => ItV G (f i) y) l) : Its G (ks.map f) l := x.its
noncomputable def nat (i : Nat) : It := .int (i : Int)

section
variable {w : World} {A : Around} {E : Value → Shared → Prop} {s0 s : Shared} {G0 G : Heap} {W0 : List Addr} {mu mu' : List (Addr × Obj)} {env : Env} {ρ : Str → Option Value}
  {elt iter c : Expr} {ifs : List Expr} {scope : Scope} {pos : Pos} {x : Str} {px : Pos} {n : Nat} {P : Nat → Value → Prop} {it : Value}

theorem still {v : Value} {d : Vd} {W Rs : List (Addr × Obj)} (S : St s0 G0 W0 G (W ++ Rs) env ρ s) (N : NVV w G W v d) (hn : ∀ p ∈ W, p.1 ∈ ([] : List (Addr × Obj)).map Prod.fst ∨ s0.heap.get? p.1 = none) : ∃ G2, Le G G2 ∧ VV w G2 v d ∧ St s0 G0 W0 G2 Rs env ρ s := by
  refine ob_eeccl N ?_; try clear N; intro l at' a b c
  refine ob_eccl (S.still a hn) ?_; intro G2 g F S2
  exact ⟨G2, g, ⟨l, at', F, b.up g, c.up g⟩, S2⟩
theorem still1 {x d : Addr} {o : Obj} {k : Str} {its : List It} {t : Option (List (Str × Value))} {l : Addr} {at' : Value} {Rs : List (Addr × Obj)} (S : St s0 G0 W0 G ((d, o) :: Rs) env ρ s) (hx : G.get? x = some (vobj d)) (V : VD o k l at') (I : Its G its l) (T : ATT w G at' t) (h0 : s0.heap.get? d = none) :
    ∃ G2, Le G G2 ∧ VV w G2 (.ref x) ⟨k, its, t⟩ ∧ St s0 G0 W0 G2 Rs env ρ s := by
  refine ob_eccl (S.freeze h0) ?_; intro G2 g e S2
  exact ⟨G2, g, ⟨l, at', ⟨x, d, o, rfl, g _ _ hx, e, V⟩, I.up g, T.up g⟩, S2⟩

noncomputable abbrev TurnK (w : World) (A : Around) (G : Heap) (mu : List (Addr × Obj)) (env : Env) (ρ : Str → Option Value) (scope : Scope) (x : Str) (elt : Expr) (n : Nat) (P : Nat → Value → Prop) (R : Heap → Nat → Value → Prop) : Prop :=
  ∀ C sD Wc i v G' ρ' s' it d E', i < n → P i v → Le G G' → (∀ y, y ≠ x → ρ' y = crho scope env C ρ y) → St sD G Wc G' (it :: d :: mu) (compEnvC scope (closOf scope env) C env) (upd ρ' x v) s' →
      ∀ Qe : Value → Shared → Prop, (∀ y G'' s₄, Le G' G'' → R G'' i y → St sD G Wc G'' (it :: d :: mu) (compEnvC scope (closOf scope env) C env) (upd ρ' x v) s₄ → Qe y s₄) → wpAny (model pw w) A (eval elt (compEnvC scope (closOf scope env) C env)) Qe E' s'
theorem TurnK.turn {R : Heap → Nat → Value → Prop} (t : TurnK w A G mu env ρ scope x elt n P R) : Turn w A G env ρ scope x elt n P R (fun _ _ mu' => mu' = mu) := by
  rintro C sD Wc i v G' mu' ρ' s' it d E' hi hP hG rfl hρ S Qe hQe
  exact t C sD Wc i v G' ρ' s' it d E' hi hP hG hρ S Qe fun y G'' s₄ a b c => hQe y G'' _ s₄ a b rfl c
theorem comp_vk {Q : Value → Shared → Prop} {R : Heap → Nat → Value → Prop} (T : IterFor pw w A s0 G0 W0 G mu env ρ n P it s) (hz : n ≤ 100000) (hx : compOk scope env x = true) (hR : Mono R)
    (t : TurnK w A G mu env ρ scope x elt n P R)
    (fin : ∀ D G' s', s0.heap.get? D = none → Le G G' → Lst G' n R D → St s0 G0 W0 G' mu env ρ s' → Q (.ref D) s') :
    CompGoal pw w A E elt iter [] scope pos x px env (compPost (model pw w) A E none Q) it s :=
  comp_v T hz hx hR rfl t.turn fun D G' mu' s' hD hg hL ⟨_, _, e⟩ S => fin D G' s' hD hg hL (e ▸ S)
theorem comp_ak {Q : Flow → Shared → Prop} {y : Str} {py : Pos} {R : Heap → Nat → Value → Prop} (T : IterFor pw w A s0 G0 W0 G mu env ρ n P it s) (hz : n ≤ 100000) (hx : compOk scope env x = true) (hR : Mono R)
    (t : TurnK w A G mu env ρ scope x elt n P R) (hy : isOwn env y = true) (hk : env.scope.kind = .function)
    (fin : ∀ D G' s', s0.heap.get? D = none → Le G G' → Lst G' n R D → St s0 G0 W0 G' mu env (upd ρ y (.ref D)) s' → Q .next s') :
    CompGoal pw w A E elt iter [] scope pos x px env (compPost (model pw w) A E (some (assign (.Name y py) env)) (fun _ s' => Q .next s')) it s :=
  comp_a T hz hx hR rfl t.turn hy hk fun D G' mu' s' hD hg hL ⟨_, _, e⟩ S => fin D G' s' hD hg hL (e ▸ S)
/-- what a list of told things is -/
theorem Lst.its2 {its : List It} {l : Addr} {R : Heap → Nat → Value → Prop} (x : Lst G n R l) (hn : n = its.length) (h : ∀ i it y, its[i]? = some it → R G i y → ItV G it y) : Its G its l := by
  refine ob_eeccl x ?_; try clear x; intro ys c a b d
  exact ⟨ys, c, a, by rw [b, hn], fun i it v e1 e2 => h i it v e1 (d i v e2)⟩
theorem LstF.its2 {its : List It} {ks : List Nat} {l : Addr} {R : Heap → Nat → Value → Prop} (x : LstF G ks R l) (hn : ks.length = its.length) (h : ∀ (j k : Nat) it y, ks[j]? = some k → its[j]? = some it → R G k y → ItV G it y) : Its G its l := by
  refine ob_eeccl x ?_; try clear x; intro ys c a b d
  refine ⟨ys, c, a, by rw [b, hn], fun i it v e1 e2 => ?_⟩
  have : i < ks.length := by rw [hn]; exact (List.getElem?_eq_some_iff.mp e1).1
  exact h i ks[i] it v (by simp [this]) e1 (d i ks[i] v (by simp [this]) e2)
end
end -- L21
section -- L22
open PySem.Calls PySem.Spec PySem.SeqAt

theorem KOk.cases {k : Str} (h : KOk k) : k = "character" ∨ k = "integer" ∨ k = "double" ∨ k = "logical" ∨ k = "list" := by
  unfold KOk at h
  simpa using h
theorem ItV.isNone {G : Heap} {it : It} {v : Value} (x : ItV G it v) : (v == .none) = (it == .na) := unus (by exact trivial : Us (by
  cases it with
  | na => cases x; rfl
  | int n => (refine ob_el x ?_; try clear x; rintro t rfl); rfl
  | frac a b => (refine ob_eeecl x ?_; try clear x; rintro p t u rfl _); rfl
  | txt n => (refine ob_el x ?_; try clear x; rintro t rfl); rfl))
section
variable {w : World} {A : Around} {E : Value → Shared → Prop} {s0 s : Shared} {G0 G : Heap} {W0 : List Addr} {mu mu' : List (Addr × Obj)} {env : Env} {ρ : Str → Option Value}

theorem r_lt {a b : Int} {t u : Tok} {Q : Value → Shared → Prop} (h : Q (.bool (decide (a < b))) s) : wpAny (model pw w) A (compareOp .Lt (.int a t) (.int b u)) Q E s := PyProof.Rows.lt_int h
theorem r_gt {a b : Int} {t u : Tok} {Q : Value → Shared → Prop} (h : Q (.bool (decide (b < a))) s) : wpAny (model pw w) A (compareOp .Gt (.int a t) (.int b u)) Q E s := PyProof.Rows.gt_int h
theorem r_le {a b : Int} {t u : Tok} {Q : Value → Shared → Prop} (h : Q (.bool (decide (a ≤ b))) s) : wpAny (model pw w) A (compareOp .LtE (.int a t) (.int b u)) Q E s := PyProof.Rows.le_int h
theorem r_ge {a b : Int} {t u : Tok} {Q : Value → Shared → Prop} (h : Q (.bool (decide (b ≤ a))) s) : wpAny (model pw w) A (compareOp .GtE (.int a t) (.int b u)) Q E s := PySem.P.ge_int h
theorem r_eqi {a b : Int} {t u : Tok} {Q : Value → Shared → Prop} (h : Q (.bool (a == b)) s) : wpAny (model pw w) A (compareOp .Eq (.int a t) (.int b u)) Q E s := PyProof.Rows.eq_int h
theorem r_nei {a b : Int} {t u : Tok} {Q : Value → Shared → Prop} (h : Q (.bool (a != b)) s) : wpAny (model pw w) A (compareOp .NotEq (.int a t) (.int b u)) Q E s := PyProof.Rows.ne_int h
theorem r_nes {x y : Str} {t u : Tok} {Q : Value → Shared → Prop} (h : Q (.bool (x != y)) s) : wpAny (model pw w) A (compareOp .NotEq (.str x t) (.str y u)) Q E s := PySem.P.ne_str (by
  have e : (x.cps.toList != y.cps.toList) = (x != y) := by
    rw [Bool.eq_iff_iff]
    simp only [bne_iff_ne, ne_eq]
    refine not_congr ⟨fun h => ?_, fun h => by rw [h]⟩
    cases x; cases y
    simp only [Str.mk.injEq]
    exact Array.toList_inj.mp h
  rw [e]; exact h)
theorem tup2 {G : Heap} {p q : Addr} {a b c d : Int} {t u t' u' : Tok} (h : p = q) (hp : G.get? p = some (tup [.int a t, .int b u])) (hq : G.get? q = some (tup [.int c t', .int d u'])) : a = c ∧ b = d := unus (by exact trivial : Us (by
  subst h
  rw [hp] at hq
  have := congrArg Obj.data (Option.some.inj hq)
  simp at this
  exact ⟨this.1.1, this.2.1⟩))
theorem eq_frac {p q : Addr} {a b c d : Int} {t u t' u' : Tok} {Q : Value → Shared → Prop} (S : St s0 G0 W0 G mu env ρ s) (hp : G.get? p = some (tup [.int a t, .int b u])) (hq : G.get? q = some (tup [.int c t', .int d u'])) (hu : A.units + 20 < cLine) (h : Q (.bool (It.frac a b == It.frac c d)) s) :
    wpAny (model pw w) A (compareOp .Eq (.ref p) (.ref q)) Q E s := unus (by exact trivial : Us (by
  have hp' := S.z.gs _ _ hp
  have hq' := S.z.gs _ _ hq
  have e : (It.frac a b == It.frac c d) = ((a == c) && (b == d)) := by
    rw [Bool.eq_iff_iff]; simp
  rw [e] at h
  have T1 : IsTup s.heap p #[.int a t, .int b u] := ⟨_, hp', rfl, _, rfl⟩
  have T2 : IsTup s.heap q #[.int c t', .int d u'] := ⟨_, hq', rfl, _, rfl⟩
  refine eq_tupleAt (e := fun j => if j = 0 then a == c else b == d) T1 T2 (by omega) (fun j h1 h2 => ?_) (by simpa [List.range_succ] using h)
  have h3 : j < 2 := by simpa using h1
  rcases lt2 h3 with rfl | rfl
  · exact EqAt.int_int (A := A.in1) (s := s) a t c t'
  · exact EqAt.int_int (A := A.in1) (s := s) b u d u'))
theorem notin3 {l : Addr} {a b c x : Str} {t1 t2 t3 u : Tok} {Q : Value → Shared → Prop} (S : St s0 G0 W0 G mu env ρ s) (hl : G.get? l = some (tup [.str a t1, .str b t2, .str c t3])) (h : Q (.bool (!(x == a || x == b || x == c))) s) : wpAny (model pw w) A (compareOp .NotIn (.str x u) (.ref l)) Q E s := by
  refine notin_tup (its := [.txt a, .txt b, .txt c]) (S.z.gs _ _ hl) (.cons ⟨_, rfl⟩ (.cons ⟨_, rfl⟩ (.cons ⟨_, rfl⟩ .nil))) (by intro it h; simp at h; rcases h with rfl | rfl | rfl <;> exact ⟨_, rfl⟩) ?_
  have e : [It.txt a, It.txt b, It.txt c].contains (It.txt x) = (x == a || x == b || x == c) := by
    rw [Bool.eq_iff_iff]; simp [or_assoc]
  rw [e]; exact h
theorem in3 {l : Addr} {a b c x : Str} {t1 t2 t3 u : Tok} {Q : Value → Shared → Prop} (S : St s0 G0 W0 G mu env ρ s) (hl : G.get? l = some (tup [.str a t1, .str b t2, .str c t3])) (h : Q (.bool (x == a || x == b || x == c)) s) : wpAny (model pw w) A (compareOp .In (.str x u) (.ref l)) Q E s := by
  refine in_tup (its := [.txt a, .txt b, .txt c]) (S.z.gs _ _ hl) (.cons ⟨_, rfl⟩ (.cons ⟨_, rfl⟩ (.cons ⟨_, rfl⟩ .nil))) (by intro it h; simp at h; rcases h with rfl | rfl | rfl <;> exact ⟨_, rfl⟩) ?_
  have e : [It.txt a, It.txt b, It.txt c].contains (It.txt x) = (x == a || x == b || x == c) := by
    rw [Bool.eq_iff_iff]; simp [or_assoc]
  rw [e]; exact h
theorem strKey {x : Str} {v : Value} (h : (strKind pw w).is x v = true) : ∃ t, v = .str x t := by
  cases v with
  | str y t => exact ⟨t, by rw [beq_iff_eq.mp (show (y == x) = true from h)]⟩
  | _ => cases h
theorem ad_nodup {d : Addr} {kvs : List (Str × Value)} (D : AD w G d kvs) : (kvs.map (·.1)).Nodup := by
  refine ob_cecl D ?_; try clear D; intro _ o _ ho
  exact keysNodup_of_isDictOf ho
end
end -- L22
section -- L23
open PySem.Calls PySem.Spec PySem.SeqAt
section
variable {w : World} {A : Around} {E : Value → Shared → Prop} {s0 s : Shared} {G0 G : Heap} {W0 : List Addr} {mu mu' : List (Addr × Obj)} {env : Env} {ρ : Str → Option Value}
theorem call0 {a : Addr} {st : Stmt} {vs : List Value} {Rs : List (Addr × Obj)} {R : Heap → Value → Prop} {Q : Value → Shared → Prop} (S : St s0 G0 W0 G Rs env ρ s) (X : FnAt G a st) (hc : Run w A s G [] a vs fun G' W' v => W' = [] ∧ R G' v)
    (h : ∀ v G' s', Le G G' → St s0 G0 W0 G' Rs env ρ s' → R G' v → Q v s') : Kept (.ref a) s ∧ wpAny (model pw w) A (call (.ref a) vs) Q E s :=
  St.call (W := []) S X hc fun v G' W' s' g S hp _ => by
    refine ob_cl hp ?_; try clear hp; rintro rfl hp
    exact h v G' s' g S hp
theorem callV {a : Addr} {st : Stmt} {vs : List Value} {Rs : List (Addr × Obj)} {d : Vd} {Q : Value → Shared → Prop} (S : St s0 G0 W0 G Rs env ρ s) (X : FnAt G a st) (hc : Run w A s G [] a vs fun G' W' v => NVV w G' W' v d)
    (h : ∀ v G' s', Le G G' → St s0 G0 W0 G' Rs env ρ s' → VV w G' v d → Q v s') : Kept (.ref a) s ∧ wpAny (model pw w) A (call (.ref a) vs) Q E s :=
  St.call (W := []) S X hc fun v G' W' s' g S hp hn => by
    refine ob_eccl (still S hp hn) ?_; intro G2 g2 V S2
    exact h v G2 s' (g.trans g2) S2 V
theorem valueAt_snoc {kvs : List (Str × Value)} {k x : Str} {v : Value} (h : valueAt kvs k = none) : valueAt (kvs ++ [(k, v)]) x = if k = x then some v else valueAt kvs x := unus (by exact trivial : Us (by
  unfold valueAt at *
  rw [List.find?_append]
  by_cases e : k = x
  · subst e
    cases q : kvs.find? fun kv => decide (kv.1 = k) with
    | none => simp
    | some p => rw [q] at h; cases h
  · simp [e]))
variable {elt iter c : Expr} {scope : Scope} {pos : Pos} {x : Str} {px : Pos} {n : Nat} {P : Nat → Value → Prop} {it : Value}
theorem comp_bk {Q : Shared → Prop} {y : Str} {py : Pos} {R : Heap → Nat → Value → Prop} (T : IterFor pw w A s0 G0 W0 G mu env ρ n P it s) (hz : n ≤ 100000) (hx : compOk scope env x = true) (hR : Mono R)
    (t : TurnK w A G mu env ρ scope x elt n P R) (hy : isOwn env y = true) (hk : env.scope.kind = .function)
    (fin : ∀ D G' s', s0.heap.get? D = none → Le G G' → Lst G' n R D → St s0 G0 W0 G' mu env (upd ρ y (.ref D)) s' → Q s') :
    CompGoal pw w A E elt iter [] scope pos x px env (compPost (model pw w) A E (some (assign (.Name y py) env)) (fun _ s' => Q s')) it s := comp_ak (Q := fun _ s' => Q s') T hz hx hR t hy hk fin
theorem comp_b {Q : Shared → Prop} {y : Str} {py : Pos} {R : Heap → Nat → Value → Prop} {M : Nat → Heap → List (Addr × Obj) → Prop} (T : IterFor pw w A s0 G0 W0 G mu env ρ n P it s) (hz : n ≤ 100000) (hx : compOk scope env x = true) (hR : Mono R) (h0 : M 0 G mu)
    (t : Turn w A G env ρ scope x elt n P R M) (hy : isOwn env y = true) (hk : env.scope.kind = .function)
    (fin : ∀ D G' mu' s', s0.heap.get? D = none → Le G G' → Lst G' n R D → (∃ G1, Le G1 G' ∧ M n G1 mu') → St s0 G0 W0 G' mu' env (upd ρ y (.ref D)) s' → Q s') :
    CompGoal pw w A E elt iter [] scope pos x px env (compPost (model pw w) A E (some (assign (.Name y py) env)) (fun _ s' => Q s')) it s := comp_a (Q := fun _ s' => Q s') T hz hx hR h0 t hy hk fin
theorem comp_bf {Q : Shared → Prop} {y : Str} {py : Pos} {b : Nat → Bool} {R : Heap → Nat → Value → Prop} (T : IterFor pw w A s0 G0 W0 G mu env ρ n P it s) (hz : n ≤ 100000) (hx : compOk scope env x = true) (hR : Mono R)
    (t : TurnIf w A G mu env ρ scope x elt c n P b R) (hy : isOwn env y = true) (hk : env.scope.kind = .function)
    (fin : ∀ D G' s', s0.heap.get? D = none → Le G G' → LstF G' ((List.range n).filter b) R D → St s0 G0 W0 G' mu env (upd ρ y (.ref D)) s' → Q s') :
    CompGoal pw w A E elt iter [c] scope pos x px env (compPost (model pw w) A E (some (assign (.Name y py) env)) (fun _ s' => Q s')) it s := comp_af (Q := fun _ s' => Q s') T hz hx hR t hy hk fin
end
end -- L23
section -- L24
open PySem.Calls PySem.Spec PySem.SeqAt
section
variable {w : World} {A : Around} {E : Value → Shared → Prop} {s0 s : Shared} {G0 G : Heap} {W0 : List Addr} {mu mu' : List (Addr × Obj)} {env : Env} {ρ : Str → Option Value}
theorem callU {a : Addr} {st : Stmt} {vs : List Value} {Rs : List (Addr × Obj)} {k : Str} {its : List It} {t : Option (List (Str × Value))} {Q : Value → Shared → Prop} (S : St s0 G0 W0 G Rs env ρ s) (X : FnAt G a st) (hc : Run w A s G [] a vs fun G' W' v => NVV w G' W' v ⟨k, its, t⟩)
    (h : ∀ x d o l at' G' s', Le G G' → St s0 G0 W0 G' ((d, o) :: Rs) env ρ s' → s0.heap.get? d = none → G'.get? x = some (vobj d) → VD o k l at' → Its G' its l → ATT w G' at' t → Q (.ref x) s') : Kept (.ref a) s ∧ wpAny (model pw w) A (call (.ref a) vs) Q E s :=
  St.call (W := []) S X hc fun v G' W' s' g S hp hn => by
    refine ob_eeccl hp ?_; try clear hp; rintro l at' ⟨x, d, o, rfl, hx, rfl, V⟩ I T
    exact h x d o l at' G' s' g S ((hn (d, o) (List.mem_cons_self)).resolve_left (by simp)) hx V I T
theorem merged_of {o : Obj} {kvs : List (Str × Value)} (ho : o.IsDictOf (strKind pw w) (merged [] kvs)) (h : decide ((kvs.map (·.1)).Nodup) = true) : o.IsDictOf (strKind pw w) kvs := by
  rw [merged_nil_of_nodup _ (of_decide_eq_true h)] at ho
  exact ho
theorem m_index {l : Addr} {xs : List Value} {n : Nat} {its : List It} {x : Str} {u : Tok} {Q : Value → Shared → Prop} (S : St s0 G0 W0 G mu env ρ s) (hl : G.get? l = some (lst xs n)) (a : AllV G its xs) (ht : txts its) (hm : .txt x ∈ its) (hz : its.length ≤ 100000)
    (h : ∀ t s', St s0 G0 W0 G mu env ρ s' → Q (.int (its.idxOf (.txt x) : Nat) t) s') : wpAny (model pw w) A (call (.builtin "list.index") [.ref l, .str x u]) Q E s := unus (by exact trivial : Us (by
  have hl' := S.z.gs _ _ hl
  have a' := a.up S.z.gs
  have lx : xs.length = its.length := a.1
  have hj := List.idxOf_lt_length_iff.mpr hm
  have hat : ∀ (i : Nat) (hi : i < xs.length), hitS x xs[i] = ((its[i]'(by omega)) == .txt x) := fun i hi => by
    have v := a.2 i (its[i]'(by omega)) xs[i] (by simp) (by simp)
    refine ob_el (ht _ (List.getElem_mem (h := (by omega : i < its.length)))) ?_; intro y e
    rw [e] at v ⊢
    refine ob_el v ?_; try clear v; intro t e2
    rw [e2, Bool.eq_iff_iff]
    simp [hitS]
  refine call_meets PySem.F.slot_list_index ⟨_, hl', rfl⟩ PySem.F.entry_list_index (PySem.F.args_list_index_2 _ _) (list_indexAt l xs.toArray n none #[] (.str x u) (hitS x) (its.idxOf (.txt x)) (by simp; omega) (by omega) ?_ ?_) ⟨hl', a'.eqS ht, h _ _ (S.toks _)⟩
  · rw [List.getElem_toArray, hat _ (by omega)]
    simp
  · intro m hm hlt
    rw [List.getElem_toArray, hat _ (by simpa using hm)]
    exact Bool.not_eq_true _ |>.mp fun q => by simpa using (List.not_of_lt_findIdx (p := (· == It.txt x)) hlt).symm.trans q))
end
end -- L24
section -- L25
open PySem.Calls PySem.Spec PySem.SeqAt
theorem NVV.up {w : World} {G H : Heap} {W : List (Addr × Obj)} {v : Value} {d : Vd} (x : NVV w G W v d) (g : Le G H) : NVV w H W v d := by
  refine ob_eeccl x ?_; try clear x; rintro l at' ⟨x, dd, o, a, b, c, e⟩ I T
  exact ⟨l, at', ⟨x, dd, o, a, g _ _ b, c, e⟩, I.up g, T.up g⟩
/-- new vectors, one entry each -/
structure NVs (w : World) (G : Heap) (ds : List Vd) (es : List (Addr × Obj)) (vs : List Value) : Prop where
  lv : vs.length = ds.length
  le : es.length = ds.length
  at' : ∀ (i : Nat) d v e, ds[i]? = some d → vs[i]? = some v → es[i]? = some e → NVV w G [e] v d
theorem NVs.up {w : World} {G H : Heap} {ds : List Vd} {es : List (Addr × Obj)} {vs : List Value} (x : NVs w G ds es vs) (g : Le G H) : NVs w H ds es vs := ⟨x.lv, x.le, fun i d v e a b c => (x.at' i d v e a b c).up g⟩
theorem NVs.nil {w : World} {G : Heap} : NVs w G [] [] [] := ⟨rfl, rfl, fun i d v e a => by simp at a⟩
theorem NVs.snoc {w : World} {G : Heap} {ds : List Vd} {es : List (Addr × Obj)} {vs : List Value} {d : Vd} {v : Value} {e : Addr × Obj} (x : NVs w G ds es vs) (y : NVV w G [e] v d) : NVs w G (ds ++ [d]) (es ++ [e]) (vs ++ [v]) := unus (by exact trivial : Us (by
  refine ⟨by simp [x.lv], by simp [x.le], fun i d' v' e' a b c => ?_⟩
  have l1 := x.lv
  have l2 := x.le
  by_cases h : i < ds.length
  · rw [List.getElem?_append_left h] at a
    rw [List.getElem?_append_left (by omega)] at b c
    exact x.at' i d' v' e' a b c
  · rw [List.getElem?_append_right (by omega)] at a b c
    have e0 : i - ds.length = 0 := by
      cases q : i - ds.length with
      | zero => rfl
      | succ n => rw [q] at a; simp at a
    rw [e0] at a
    rw [l1, e0] at b
    rw [l2, e0] at c
    simp at a b c
    subst a b c
    exact y))
theorem NVs.set {w : World} {G : Heap} {ds : List Vd} {es : List (Addr × Obj)} {vs : List Value} {i : Nat} {d : Vd} {v : Value} {e : Addr × Obj} (x : NVs w G ds es vs) (hd : ds[i]? = some d) (hv : vs[i]? = some v) (y : NVV w G [e] v d) : NVs w G ds (es.set i e) vs := unus (by exact trivial : Us (by
  refine ⟨x.lv, by simp [x.le], fun j d' v' e' a b c => ?_⟩
  rw [List.getElem?_set] at c
  split at c
  · rename_i h
    subst h
    split at c
    · rw [hd] at a; rw [hv] at b
      cases a; cases b; cases c
      exact y
    · cases c
  · exact x.at' j d' v' e' a b c))
section
variable {w : World} {A : Around} {E : Value → Shared → Prop} {s0 s : Shared} {G0 G : Heap} {W0 : List Addr} {mu mu' : List (Addr × Obj)} {env : Env} {ρ : Str → Option Value}
theorem freezeAll : ∀ {es Rs : List (Addr × Obj)} {G : Heap} (_ : St s0 G0 W0 G (es ++ Rs) env ρ s) (_ : ∀ e ∈ es, s0.heap.get? e.1 = none), ∃ G', Le G G' ∧ (∀ e ∈ es, G'.get? e.1 = some e.2) ∧ St s0 G0 W0 G' Rs env ρ s
  | [], _, _, S, _ => ⟨_, Le.rfl, by simp, S⟩
  | e :: es, Rs, G, S, h => by
    refine ob_eccl (St.freeze (p := e) (mu := es ++ Rs) S (h e (by simp))) ?_; intro G1 g1 e1 S1
    refine ob_eccl (freezeAll S1 fun e' h' => h e' (by simp [h'])) ?_; intro G2 g2 e2 S2
    refine ⟨G2, g1.trans g2, fun e' h' => ?_, S2⟩
    rcases List.mem_cons.mp h' with rfl | h'
    · exact g2 _ _ e1
    · exact e2 e' h'
theorem NVs.still {ds : List Vd} {es : List (Addr × Obj)} {vs : List Value} (N : NVs w G ds es vs) {G' : Heap} (g : Le G G') (h : ∀ e ∈ es, G'.get? e.1 = some e.2) : AllVV w G' ds vs := unus (by exact trivial : Us (by
  refine ⟨N.lv, fun i d v a b => ?_⟩
  have hi := (List.getElem?_eq_some_iff.mp a).1
  have hi' : i < es.length := by rw [N.le]; exact hi
  refine ob_eeccl (N.at' i d v es[i] a b (by simp [hi'])) ?_; rintro l at' ⟨x, dd, o, e1, e2, e3, V⟩ I T
  have he := h es[i] (List.getElem_mem hi')
  have : es[i] = (dd, o) := by simpa using e3
  rw [this] at he
  exact ⟨l, at', ⟨x, dd, o, e1, g _ _ e2, he, V⟩, I.up g, T.up g⟩))
/-- the i-th to the front, and back -/
theorem perm_front {es : List (Addr × Obj)} {i : Nat} (hi : i < es.length) (pre : List (Addr × Obj)) (e : Addr × Obj) : (pre ++ es.set i e).Perm (e :: (pre ++ es.eraseIdx i)) := by
  have h1 : (es.set i e).Perm (e :: es.eraseIdx i) := by
    rw [List.set_eq_take_append_cons_drop, if_pos hi, List.eraseIdx_eq_take_drop_succ]
    exact List.perm_middle
  exact (h1.append_left pre).trans List.perm_middle
end

/-- what a kept column is -/
structure Frm' where
  cols : List Vd
  names : List It
  rows : Vd
/-- a frame, new -/
noncomputable def NFr (w : World) (G : Heap) (W : List (Addr × Obj)) (v : Value) (f : Frm') : Prop := ∃ x d o da oa lI nv cv rv, v = .ref x ∧ G.get? x = some (vobj d) ∧ W = [(d, o), (da, oa)] ∧ VD o "list" lI (.ref da) ∧
  oa.IsDictOf (strKind pw w) [("names", nv), ("class", cv), ("row.names", rv)] ∧ VVs w G f.cols lI ∧ VV w G nv ⟨"character", f.names, none⟩ ∧ VV w G cv ⟨"character", [.txt "data.frame"], none⟩ ∧ VV w G rv f.rows
/-- a frame, at rest -/
noncomputable def VF (w : World) (G : Heap) (v : Value) (f : Frm') : Prop := ∃ da lI nv cv rv, FV G v "list" lI (.ref da) ∧ AD w G da [("names", nv), ("class", cv), ("row.names", rv)] ∧ VVs w G f.cols lI ∧ VV w G nv ⟨"character", f.names, none⟩ ∧ VV w G cv ⟨"character", [.txt "data.frame"], none⟩ ∧ VV w G rv f.rows
theorem VF.up {w : World} {G H : Heap} {v : Value} {f : Frm'} (x : VF w G v f) (g : Le G H) : VF w H v f := by
  refine ob_eeeeecccccl x ?_; try clear x; intro da lI nv cv rv a b c d e f
  exact ⟨da, lI, nv, cv, rv, a.up g, b.up g, c.up g, d.up g, e.up g, f.up g⟩
theorem VF.up' {w : World} {G H : Heap} {v : Value} {f : Frm'} (g : Le G H) (x : VF w G v f) : VF w H v f := x.up g
section
variable {w : World} {A : Around} {E : Value → Shared → Prop} {s0 s : Shared} {G0 G : Heap} {W0 : List Addr} {mu mu' : List (Addr × Obj)} {env : Env} {ρ : Str → Option Value}
theorem NFr.still {v : Value} {f : Frm'} {W Rs : List (Addr × Obj)} (P : PG w G0) (S : St s0 G0 W0 G (W ++ Rs) env ρ s) (N : NFr w G W v f) (h0 : ∀ e ∈ W, s0.heap.get? e.1 = none) : ∃ G2, Le G G2 ∧ VF w G2 v f ∧ St s0 G0 W0 G2 Rs env ρ s := by
  refine ob_eeeeeeeeeccccccccl N ?_; try clear N; rintro x d o da oa lI nv cv rv rfl hx rfl V ho I a b c
  refine ob_eccl (St.freeze (p := (d, o)) (mu := (da, oa) :: Rs) S (h0 (d, o) (by simp))) ?_; intro G1 g1 e1 S
  refine ob_eccl (AD.of P S ho (h0 (da, oa) (by simp))) ?_; intro G2 g2 D S
  exact ⟨G2, g1.trans g2, ⟨da, lI, nv, cv, rv, ⟨x, d, o, rfl, g2 _ _ (g1 _ _ hx), g2 _ _ e1, V⟩, D, I.up (g1.trans g2), a.up (g1.trans g2), b.up (g1.trans g2), c.up (g1.trans g2)⟩, S⟩
theorem callF {a : Addr} {st : Stmt} {vs : List Value} {Rs : List (Addr × Obj)} {f : Frm'} {Q : Value → Shared → Prop} (P : PG w G0) (S : St s0 G0 W0 G Rs env ρ s) (X : FnAt G a st) (hc : Run w A s G [] a vs fun G' W' v => NFr w G' W' v f)
    (h : ∀ v G' s', Le G G' → St s0 G0 W0 G' Rs env ρ s' → VF w G' v f → Q v s') : Kept (.ref a) s ∧ wpAny (model pw w) A (call (.ref a) vs) Q E s :=
  St.call (W := []) S X hc fun v G' W' s' g S hp hn => by
    refine ob_eccl (NFr.still P S hp fun e he => (hn e he).resolve_left (by simp)) ?_; intro G2 g2 V S2
    exact h v G2 s' (g.trans g2) S2 V
end
end -- L25
section -- L26
open PySem.Calls PySem.Spec PySem.SeqAt
theorem Le.trans' {a b c : Heap} (y : Le b c) (x : Le a b) : Le a c := Le.trans x y
theorem va_head {k : Str} {v : Value} {r : List (Str × Value)} : valueAt ((k, v) :: r) k = some v := by simp [valueAt]
theorem va_tail {k k' : Str} {v v' : Value} {r : List (Str × Value)} (h : (k' == k) = false) (e : valueAt r k = some v) : valueAt ((k', v') :: r) k = some v := by
  have : k' ≠ k := by simpa using h
  unfold valueAt at *
  rw [List.find?_cons]
  simp [this, e]
theorem VF.open {w : World} {G : Heap} {v : Value} {cols : List Vd} {names : List It} {rd : Vd} (V : VF w G v ⟨cols, names, rd⟩) : ∃ da lI nv cv rv, FV G v "list" lI (.ref da) ∧ AD w G da [("names", nv), ("class", cv), ("row.names", rv)] ∧ VVs w G cols lI ∧ VV w G nv ⟨"character", names, none⟩ ∧ VV w G cv ⟨"character", [.txt "data.frame"], none⟩ ∧ VV w G rv rd := V
section
variable {w : World} {A : Around} {E : Value → Shared → Prop} {s0 s : Shared} {G0 G : Heap} {W0 : List Addr} {mu mu' : List (Addr × Obj)} {env : Env} {ρ : Str → Option Value}
theorem nila (S : St s0 G0 W0 G (mu ++ []) env ρ s) : St s0 G0 W0 G mu env ρ s := by rwa [List.append_nil] at S
theorem ad_in_b (b : Bool) {d : Addr} {kvs : List (Str × Value)} {x : Str} {t : Tok} {Q : Value → Shared → Prop} (S : St s0 G0 W0 G mu env ρ s) (D : AD w G d kvs) (e : (valueAt kvs x).isSome = b) (h : ∀ s', St s0 G0 W0 G mu env ρ s' → Q (.bool b) s') :
    wpAny (model pw w) A (compareOp .In (.str x t) (.ref d)) Q E s := by
  subst e; exact ad_in S D h
theorem ad_notin_b (b : Bool) {d : Addr} {kvs : List (Str × Value)} {x : Str} {t : Tok} {Q : Value → Shared → Prop} (S : St s0 G0 W0 G mu env ρ s) (D : AD w G d kvs) (e : (!(valueAt kvs x).isSome) = b) (h : ∀ s', St s0 G0 W0 G mu env ρ s' → Q (.bool b) s') :
    wpAny (model pw w) A (compareOp .NotIn (.str x t) (.ref d)) Q E s := by
  subst e; exact ad_notin S D h
end
end -- L26
section -- L27
open PySem.Calls PySem.Spec PySem.SeqAt
theorem AllV.set {G : Heap} {its : List It} {xs : List Value} (x : AllV G its xs) {i : Nat} {it : It} {v : Value} (y : ItV G it v) : AllV G (its.set i it) (xs.set i v) := unus (by exact trivial : Us (by
  refine ⟨by simp [x.1], fun j it' v' a b => ?_⟩
  rw [List.getElem?_set] at a b
  by_cases h : i = j
  · subst h
    rw [if_pos rfl] at a b
    split at a
    · split at b
      · cases a; cases b; exact y
      · cases b
    · cases a
  · rw [if_neg h] at a b
    exact x.2 j it' v' a b))
theorem flat_rep {α : Type} (x : α) (n : Nat) : (List.replicate n [x]).flatten = List.replicate n x := by
  induction n with
  | zero => rfl
  | succ n ih => rw [List.replicate_succ, List.flatten_cons, ih, List.replicate_succ]; rfl
noncomputable def lackIt (k : Str) (it : It) : Bool := it == .na || (k == "double" && it == .frac 0 0)
noncomputable def flagAt (cols : List Vd) (p : Nat) : It := .int (if cols.any fun d => lackIt d.k (d.its.getD p .na) then 0 else 1)
noncomputable def flags (cols : List Vd) (R : Nat) : List It := (List.range R).map (flagAt cols)
noncomputable def flagsI (cols : List Vd) (i j R : Nat) : List It := (List.range R).map fun p => if p < j then flagAt (cols.take (i + 1)) p else flagAt (cols.take i) p
theorem flagsI_zero {cols : List Vd} {i R : Nat} : flagsI cols i 0 R = flags (cols.take i) R := by
  unfold flagsI flags
  refine List.map_congr_left fun p _ => by simp
theorem flagsI_end {cols : List Vd} {i R : Nat} : flagsI cols i R R = flags (cols.take (i + 1)) R := by
  unfold flagsI flags
  refine List.map_congr_left fun p hp => ?_
  rw [if_pos (by simpa using hp)]
theorem flagAt_succ {cols : List Vd} {i p : Nat} {d : Vd} (h : cols[i]? = some d) : flagAt (cols.take (i + 1)) p = if lackIt d.k (d.its.getD p .na) then .int 0 else flagAt (cols.take i) p := unus (by exact trivial : Us (by
  unfold flagAt
  rw [List.take_add_one, h, List.any_append]
  simp only [Option.toList_some, List.any_cons, List.any_nil, Bool.or_false]
  generalize lackIt d.k (d.its.getD p .na) = b
  generalize (List.take i cols).any _ = c
  cases b <;> cases c <;> rfl))
theorem flagsI_step {cols : List Vd} {i j R : Nat} {d : Vd} (h : cols[i]? = some d) (hj : j < R) : flagsI cols i (j + 1) R = if lackIt d.k (d.its.getD j .na) then (flagsI cols i j R).set j (.int 0) else flagsI cols i j R := unus (by exact trivial : Us (by
  have e := flagAt_succ (p := j) h
  apply List.ext_getElem?
  intro p
  by_cases hp : p < R
  · by_cases q : lackIt d.k (d.its.getD j .na) = true
    · rw [if_pos q] at e ⊢
      rw [List.getElem?_set]
      unfold flagsI
      rw [List.getElem?_map, List.getElem?_map, List.getElem?_range hp]
      simp only [Option.map_some]
      by_cases c : j = p
      · subst c
        rw [if_pos (by omega : j < j + 1), if_pos rfl, if_pos (by simpa using hp), e]
      · rw [if_neg c]
        by_cases c2 : p < j
        · rw [if_pos (by omega), if_pos c2]
        · rw [if_neg (by omega), if_neg c2]
    · rw [if_neg q] at e ⊢
      unfold flagsI
      rw [List.getElem?_map, List.getElem?_map, List.getElem?_range hp]
      simp only [Option.map_some]
      by_cases c : j = p
      · subst c
        rw [if_pos (by omega : j < j + 1), if_neg (by omega : ¬ j < j), e]
      · by_cases c2 : p < j
        · rw [if_pos (by omega), if_pos c2]
        · rw [if_neg (by omega), if_neg c2]
  · have l1 : (flagsI cols i (j + 1) R).length ≤ p := by unfold flagsI; simp; omega
    rw [List.getElem?_eq_none l1]
    split
    · rw [List.getElem?_eq_none (by unfold flagsI; simp; omega)]
    · rw [List.getElem?_eq_none (by unfold flagsI; simp; omega)]))
theorem flags_start {G : Heap} {R : Nat} {t : Tok} : AllV G (flags [] R) (List.replicate R (.int 1 t)) := unus (by exact trivial : Us (by
  refine ⟨by simp [flags], fun i it v h1 h2 => ?_⟩
  unfold flags at h1
  rw [List.getElem?_map] at h1
  refine ob_ecl (Option.map_eq_some_iff.mp h1) ?_; rintro j e rfl
  rw [List.getElem?_replicate] at h2
  split at h2
  · cases h2
    exact ⟨t, by simp [flagAt]⟩
  · cases h2))
theorem keep1 {s0 s : Shared} {G0 G : Heap} {W0 : List Addr} {mu : List (Addr × Obj)} {env : Env} {ρ : Str → Option Value} {e : Addr × Obj} (S : St s0 G0 W0 G (e :: mu) env ρ s) : St s0 G0 W0 G [e] env ρ s := S.sub (by simp)
structure ColOk (R : Nat) (d : Vd) : Prop where
  l : d.its.length = R
  k : KOk d.k
  f : d.k = "double" → ∀ it ∈ d.its, it = .na ∨ ∃ a b, it = .frac a b
end -- L27
section -- L28
open PySem.Calls PySem.Spec PySem.SeqAt
section
variable {w : World} {A : Around} {E : Value → Shared → Prop} {s0 s : Shared} {G0 G : Heap} {W0 : List Addr} {mu mu' : List (Addr × Obj)} {env : Env} {ρ : Str → Option Value}
  {elt iter : Expr} {scope : Scope} {pos : Pos} {x : Str} {px : Pos} {n : Nat} {P : Nat → Value → Prop} {it : Value}
noncomputable abbrev TurnI (w : World) (A : Around) (G : Heap) (env : Env) (ρ : Str → Option Value) (scope : Scope) (x : Str) (elt : Expr) (n : Nat) (P : Nat → Value → Prop) (Inv : Nat → List Value → Heap → List (Addr × Obj) → Prop) : Prop :=
  ∀ C sD Wc i v ys G' mu' ρ' s' it d E', i < n → P i v → Le G G' → Inv i ys G' mu' → (∀ y, y ≠ x → ρ' y = crho scope env C ρ y) → St sD G Wc G' (it :: d :: mu') (compEnvC scope (closOf scope env) C env) (upd ρ' x v) s' →
      ∀ Qe : Value → Shared → Prop, (∀ y G'' mu'' s₄, Le G' G'' → Inv (i + 1) (ys ++ [y]) G'' mu'' → St sD G Wc G'' (it :: d :: mu'') (compEnvC scope (closOf scope env) C env) (upd ρ' x v) s₄ → Qe y s₄) → wpAny (model pw w) A (eval elt (compEnvC scope (closOf scope env) C env)) Qe E' s'
theorem turnI_of {Inv : Nat → List Value → Heap → List (Addr × Obj) → Prop} (t : TurnI w A G env ρ scope x elt n P Inv) :
    ∀ C sD Wc i v ys G' mu' ρ' s' it d E', i < n → P i v → Le G G' → Inv i ys G' mu' → (∀ y, y ≠ x → ρ' y = crho scope env C ρ y) → St sD G Wc G' (it :: d :: mu') (compEnvC scope (closOf scope env) C env) (upd ρ' x v) s' →
      wpAny (model pw w) A (forIn ([] : List Expr) true fun c r => if r = true then do let ok ← isTrue c (compEnvC scope (closOf scope env) C env) (eval c (compEnvC scope (closOf scope env) C env)); pure (ForInStep.yield ok) else pure (ForInStep.yield r)) (fun ok s₃ =>
        if ok = true then wpAny (model pw w) A (eval elt (compEnvC scope (closOf scope env) C env)) (fun y s₄ => ∃ G'' mu'' ρ'', Le G' G'' ∧ Inv (i + 1) (ys ++ [y]) G'' mu'' ∧ (∀ y, y ≠ x → ρ'' y = crho scope env C ρ y) ∧ St sD G Wc G'' (it :: d :: mu'') (compEnvC scope (closOf scope env) C env) ρ'' s₄) E' s₃
        else ∃ G'' mu'' ρ'', Le G' G'' ∧ Inv (i + 1) ys G'' mu'' ∧ (∀ y, y ≠ x → ρ'' y = crho scope env C ρ y) ∧ St sD G Wc G'' (it :: d :: mu'') (compEnvC scope (closOf scope env) C env) ρ'' s₃) E' s' := unus (by exact trivial : Us (by
  intro C sD Wc i v ys G' mu' ρ' s' it d E' hi hP hG hI hρ S
  refine wpAny_pure ?_
  rw [if_pos rfl]
  refine t C sD Wc i v ys G' mu' ρ' s' it d E' hi hP hG hI hρ S _ fun y G'' mu'' s₄ g hm S => ?_
  refine ⟨G'', mu'', _, g, hm, fun y hy => ?_, S⟩
  have : upd ρ' x v y = ρ' y := by simp [upd, hy]
  rw [this]; exact hρ y hy))
theorem comp_i {Q : Value → Shared → Prop} (T : IterFor pw w A s0 G0 W0 G mu env ρ n P it s) (hz : n ≤ 100000) (hx : compOk scope env x = true) (Inv : Nat → List Value → Heap → List (Addr × Obj) → Prop) (hlen : ∀ i ys G mu, Inv i ys G mu → ys.length ≤ i) (h0 : Inv 0 [] G mu)
    (t : TurnI w A G env ρ scope x elt n P Inv)
    (fin : ∀ D ys nn G' mu' s', s0.heap.get? D = none → Le G G' → Inv n ys G' mu' → St s0 G0 W0 G' ((D, lst ys nn) :: mu') env ρ s' → Q (.ref D) s') :
    CompGoal pw w A E elt iter [] scope pos x px env (compPost (model pw w) A E none Q) it s := comp_eval T (by rw [sizeLine_eq]; omega) hx Inv hlen h0 (turnI_of t) fin
theorem comp_bi {Q : Shared → Prop} {y : Str} {py : Pos} (T : IterFor pw w A s0 G0 W0 G mu env ρ n P it s) (hz : n ≤ 100000) (hx : compOk scope env x = true) (Inv : Nat → List Value → Heap → List (Addr × Obj) → Prop) (hlen : ∀ i ys G mu, Inv i ys G mu → ys.length ≤ i) (h0 : Inv 0 [] G mu)
    (t : TurnI w A G env ρ scope x elt n P Inv) (hy : isOwn env y = true) (hk : env.scope.kind = .function)
    (fin : ∀ D ys nn G' mu' s', s0.heap.get? D = none → Le G G' → Inv n ys G' mu' → St s0 G0 W0 G' ((D, lst ys nn) :: mu') env (upd ρ y (.ref D)) s' → Q s') :
    CompGoal pw w A E elt iter [] scope pos x px env (compPost (model pw w) A E (some (assign (.Name y py) env)) (fun _ s' => Q s')) it s := comp_assign (Q := fun _ s' => Q s') T (by rw [sizeLine_eq]; omega) hx Inv hlen h0 (turnI_of t) hy hk fin
end
end -- L28
section -- L29
open PySem.Calls PySem.Spec PySem.SeqAt
noncomputable def mes (h : Nat → Int) (t : Nat → Tok) (a b c d : Value) : List DictEntry :=
  [⟨h 0, .str "formals" (t 0), a⟩, ⟨h 1, .str "tags" (t 1), b⟩, ⟨h 2, .str "used" (t 2), c⟩, ⟨h 3, .str "places" (t 3), d⟩]
/-- a matching's own dict -/
noncomputable def MD (o : Obj) (lf lt lu dp : Addr) : Prop := ∃ h t n, o = dictOf (mes h t (.ref lf) (.ref lt) (.ref lu) (.ref dp)) n
noncomputable def FM (G : Heap) (x lf lt lu dp : Addr) : Prop := ∃ d o, G.get? x = some (instObj 464 d) ∧ G.get? d = some o ∧ MD o lf lt lu dp
theorem FM.up' {G H : Heap} {x lf lt lu dp : Addr} (g : Le G H) (F : FM G x lf lt lu dp) : FM H x lf lt lu dp := by obtain ⟨d, o, a, b, c⟩ := F; exact ⟨d, o, g _ _ a, g _ _ b, c⟩
section
variable {w : World} {A : Around} {E : Value → Shared → Prop} {s0 s : Shared} {G0 G : Heap} {W0 : List Addr} {mu mu' : List (Addr × Obj)} {env : Env} {ρ : Str → Option Value} {x lf lt lu dp : Addr}
theorem m_formals {Q : Value → Shared → Prop} {ex : Bool} (P : PG w G0) (S : St s0 G0 W0 G mu env ρ s) (F : FM G x lf lt lu dp) (h : ∀ s', St s0 G0 W0 G mu env ρ s' → Q (.ref lf) s') : wpAny (model pw w) A (getAttr (.ref x) "formals" ex) Q E s := by
  refine ob_eecceeel F ?_; try clear F; rintro d o hx hd h' t n rfl
  exact a_get S P.K (S.z.gs _ _ hx) (S.z.gs _ _ hd) (by kernel_rfl!) (by kernel_rfl!) rfl h
theorem m_tags {Q : Value → Shared → Prop} {ex : Bool} (P : PG w G0) (S : St s0 G0 W0 G mu env ρ s) (F : FM G x lf lt lu dp) (h : ∀ s', St s0 G0 W0 G mu env ρ s' → Q (.ref lt) s') : wpAny (model pw w) A (getAttr (.ref x) "tags" ex) Q E s := by
  refine ob_eecceeel F ?_; try clear F; rintro d o hx hd h' t n rfl
  exact a_get S P.K (S.z.gs _ _ hx) (S.z.gs _ _ hd) (by kernel_rfl!) (by kernel_rfl!) rfl h
theorem m_used {Q : Value → Shared → Prop} {ex : Bool} (P : PG w G0) (S : St s0 G0 W0 G mu env ρ s) (F : FM G x lf lt lu dp) (h : ∀ s', St s0 G0 W0 G mu env ρ s' → Q (.ref lu) s') : wpAny (model pw w) A (getAttr (.ref x) "used" ex) Q E s := by
  refine ob_eecceeel F ?_; try clear F; rintro d o hx hd h' t n rfl
  exact a_get S P.K (S.z.gs _ _ hx) (S.z.gs _ _ hd) (by kernel_rfl!) (by kernel_rfl!) rfl h
theorem m_places {Q : Value → Shared → Prop} {ex : Bool} (P : PG w G0) (S : St s0 G0 W0 G mu env ρ s) (F : FM G x lf lt lu dp) (h : ∀ s', St s0 G0 W0 G mu env ρ s' → Q (.ref dp) s') : wpAny (model pw w) A (getAttr (.ref x) "places" ex) Q E s := by
  refine ob_eecceeel F ?_; try clear F; rintro d o hx hd h' t n rfl
  exact a_get S P.K (S.z.gs _ _ hx) (S.z.gs _ _ hd) (by kernel_rfl!) (by kernel_rfl!) rfl h
noncomputable def mName (f : Addr) : Str := if f = 428 then "exact" else if f = 435 then "partial" else if f = 442 then "partial_of" else if f = 449 then "positional" else if f = 456 then "is_free" else "rest"
theorem m_meth {Q : Value × List Value → Shared → Prop} {pl : Sem Bool} {name : Str} (f : Addr) (P : PG w G0) (S : St s0 G0 W0 G mu env ρ s) (F : FM G x lf lt lu dp) (hc : mthOk (KC w.params) 464 name f = true) (hl' : ∀ h t, getL name (mes h t (.ref lf) (.ref lt) (.ref lu) (.ref dp)) = some none) (h : Q (.ref f, [.ref x]) s) : wpAny (model pw w) A (getMethod (.ref x) name pl) Q E s := by
  refine ob_eecceeel F ?_; try clear F; rintro d o hx hd h' t n rfl
  exact a_meth (P.K.keeps S.le0) (S.z.gs _ _ hx) (S.z.gs _ _ hd) hc (hl' _ _) h
end
end -- L29
section -- L30
open PySem.Calls PySem.Spec PySem.SeqAt
section
variable {w : World} {A : Around} {E : Value → Shared → Prop} {s0 s : Shared} {G0 G : Heap} {W0 : List Addr} {mu mu' : List (Addr × Obj)} {env : Env} {ρ : Str → Option Value}
theorem while_skip {test : Expr} {body orelse : List Stmt} {pos : Pos} {Q : Flow → Shared → Prop} (h : wpAny (model pw w) A (isTrue test env (eval test env)) (fun b s₂ => b = false ∧ wpAny (model pw w) A (execs orelse env) Q (fun _ _ => False) s₂) (fun _ _ => False) s) :
    wpAny (model pw w) A (exec (.While test body orelse pos) env) Q E s := unus (by exact trivial : Us (by
  refine wpAny_While (codeAny_whileLoop (fun _ s' => s' = s) (fun n s' e => ?_) 0 rfl)
  subst e
  refine wpAny_mono h (fun b s₂ ⟨hb, h2⟩ => ?_) fun _ _ x => x.elim
  subst hb
  exact wpAny_mono h2 (fun _ _ x => x) fun _ _ x => x.elim))
end
end -- L30
section -- L31
open PySem.Calls PySem.Spec PySem.SeqAt
theorem div_nat (p s : Nat) : ((p : Int)).fdiv (s : Int) = ((p / s : Nat) : Int) := by
  rw [Int.fdiv_eq_ediv_of_nonneg _ (by omega)]; exact (Int.natCast_ediv p s).symm
theorem mod_nat (p s : Nat) : ((p : Int)).fmod (s : Int) = ((p % s : Nat) : Int) := by
  rw [Int.fmod_eq_emod_of_nonneg _ (by omega)]; exact (Int.natCast_emod p s).symm
/-- a vector and its tag -/
structure Pt where
  tag : Option Str
  k : Str
  its : List It
noncomputable def TagV : Option Str → Value → Prop
  | none, v => v = .none
  | some x, v => ∃ t, v = .str x t
noncomputable def ArgP (w : World) (G : Heap) (pt : Pt) (p : Value) : Prop := ∃ q tv vv, p = .ref q ∧ G.get? q = some (tup [tv, vv]) ∧ TagV pt.tag tv ∧ VV w G vv ⟨pt.k, pt.its, none⟩
noncomputable def ArgG (w : World) (G : Heap) : Option Pt → Value → Prop
  | some pt, p => ArgP w G pt p
  | none, p => ∃ q t vv, p = .ref q ∧ G.get? q = some (tup [.str "stringsAsFactors" t, vv]) ∧ VV w G vv ⟨"logical", [.int 0], none⟩
theorem ArgP.up {w : World} {G H : Heap} {pt : Pt} {p : Value} (x : ArgP w G pt p) (g : Le G H) : ArgP w H pt p := by obtain ⟨q, tv, vv, a, b, c, d⟩ := x; exact ⟨q, tv, vv, a, g _ _ b, c, d.up g⟩
structure PtOk (pt : Pt) : Prop where
  tag : ∀ x, pt.tag = some x → (x == "stringsAsFactors") = false ∧ (x == "KEEP.OUT.ATTRS") = false
  k : KOk pt.k
  nl : pt.k ≠ "list"
  tx : pt.k = "character" → ∀ it ∈ pt.its, it = .na ∨ ∃ x, it = .txt x ∧ x.length ≤ 100
noncomputable def AllP (w : World) (G : Heap) (ps : List Pt) (vs : List Value) : Prop := vs.length = ps.length ∧ ∀ (i : Nat) p v, ps[i]? = some p → vs[i]? = some v → ArgP w G p v
theorem AllP.up {w : World} {G H : Heap} {ps : List Pt} {vs : List Value} (x : AllP w G ps vs) (g : Le G H) : AllP w H ps vs := ⟨x.1, fun i p v a b => (x.2 i p v a b).up g⟩
theorem AllP.nil {w : World} {G : Heap} : AllP w G [] [] := ⟨rfl, fun i p v a => by simp at a⟩
theorem AllP.snoc {w : World} {G : Heap} {ds : List Pt} {vs : List Value} {d : Pt} {v : Value} (x : AllP w G ds vs) (y : ArgP w G d v) : AllP w G (ds ++ [d]) (vs ++ [v]) := unus (by exact trivial : Us (by
  refine ⟨by simp [x.1], fun i d' v' a b => ?_⟩
  by_cases h : i < ds.length
  · rw [List.getElem?_append_left h] at a
    rw [List.getElem?_append_left (by rw [x.1]; exact h)] at b
    exact x.2 i d' v' a b
  · rw [List.getElem?_append_right (by omega)] at a
    rw [List.getElem?_append_right (by rw [x.1]; omega), x.1] at b
    have e : i - ds.length = 0 := by
      cases q : i - ds.length with
      | zero => rfl
      | succ n => rw [q] at a; simp at a
    rw [e] at a b
    simp at a b
    subst a b
    exact y))
theorem AllP.at {w : World} {G : Heap} {ps : List Pt} {vs : List Value} (x : AllP w G ps vs) {i : Nat} {v : Value} (h : vs[i]? = some v) : ∃ p, ps[i]? = some p ∧ ArgP w G p v := by
  have : i < ps.length := by rw [← x.1]; exact (List.getElem?_eq_some_iff.mp h).1
  exact ⟨ps[i], by simp [this], x.2 i _ v (by simp [this]) h⟩
theorem AllP.up' {w : World} {G H : Heap} {ps : List Pt} {vs : List Value} (g : Le G H) (x : AllP w G ps vs) : AllP w H ps vs := x.up g
noncomputable def totl (ps : List Pt) : Nat := ps.foldl (fun t p => t * p.its.length) 1
noncomputable def stpl (ps : List Pt) : Nat := ps.foldl (fun t p => t * max p.its.length 1) 1
theorem totl_succ {ps : List Pt} {i : Nat} {p : Pt} (h : ps[i]? = some p) : totl (ps.take (i + 1)) = totl (ps.take i) * p.its.length := by
  unfold totl; rw [List.take_add_one, h, List.foldl_append]; rfl
theorem stpl_succ {ps : List Pt} {i : Nat} {p : Pt} (h : ps[i]? = some p) : stpl (ps.take (i + 1)) = stpl (ps.take i) * max p.its.length 1 := by
  unfold stpl; rw [List.take_add_one, h, List.foldl_append]; rfl
theorem stpl_pos (ps : List Pt) : 0 < stpl ps := unus (by exact trivial : Us (by
  unfold stpl
  have : ∀ (l : List Pt) (t : Nat), 0 < t → 0 < l.foldl (fun t p => t * max p.its.length 1) t := by
    intro l
    induction l with
    | nil => intro t h; exact h
    | cons a l ih => intro t h; exact ih _ (Nat.mul_pos h (by omega))
  exact this ps 1 (by omega)))
noncomputable def plc (tot st cnt : Nat) : List Nat := (List.range tot).map fun p => p / st % cnt
noncomputable def headOf (j : Nat) (pt : Pt) : It := match pt.tag with
  | none => .txt (("Var" : Str) ++ (toString ((j : Int) + 1) : String))
  | some x => if x == "" then .txt (("Var" : Str) ++ (toString ((j : Int) + 1) : String)) else .txt x
end -- L31
section -- L32
open PySem.Calls PySem.Spec PySem.SeqAt
section
variable {w : World} {A : Around} {E : Value → Shared → Prop} {s0 s : Shared} {G0 G : Heap} {W0 : List Addr} {mu mu' : List (Addr × Obj)} {env : Env} {ρ : Str → Option Value}
theorem if_not {test : Expr} {body orelse : List Stmt} {pos : Pos} {Q : Flow → Shared → Prop} (_ : St s0 G0 W0 G mu env ρ s)
    (h1 : wpAny (model pw w) A (isTrue test env (eval test env)) (fun b s₂ => b = false ∧ St s0 G0 W0 G mu env ρ s₂) E s) (h2 : ∀ s₂, St s0 G0 W0 G mu env ρ s₂ → wpAny (model pw w) A (execs orelse env) Q E s₂) :
    wpAny (model pw w) A (exec (.If test body orelse pos) env) Q E s := by
  refine wpAny_If (wpAny_mono h1 (fun b s₂ ⟨hb, S⟩ => ?_) fun _ _ x => x)
  subst hb
  exact h2 s₂ S
end
end -- L32
section -- L33
open PySem.Calls PySem.Spec PySem.SeqAt
section
variable {w : World} {A : Around} {E : Value → Shared → Prop} {s0 s : Shared} {G0 G : Heap} {W0 : List Addr} {mu mu' : List (Addr × Obj)} {env : Env} {ρ : Str → Option Value}
theorem assign_cut {x : Str} {px pos : Pos} {value : Expr} {Q : Flow → Shared → Prop} (R : Heap → Value → Prop) (_ : St s0 G0 W0 G mu env ρ s)
    (h1 : ∀ Qe : Value → Shared → Prop, (∀ v G' s₁, Le G G' → R G' v → St s0 G0 W0 G' mu env ρ s₁ → Qe v s₁) → wpAny (model pw w) A (eval value env) Qe E s)
    (h2 : ∀ v G' s₁, Le G G' → R G' v → St s0 G0 W0 G' mu env ρ s₁ → wpAny (model pw w) A (storeName env x v) (fun _ => Q .next) E s₁)
    (hs : swapsWith value (some (.Name x px)) pos.line env = pure false) : wpAny (model pw w) A (exec (.Assign [.Name x px] value pos) env) Q E s :=
  wpAny_Assign_Name (h1 _ fun v G' s₁ g r S => h2 v G' s₁ g r S) hs
end
theorem mapIdx_succ {α β : Type} {f : Nat → α → β} {l : List α} {i : Nat} {p : α} (h : l[i]? = some p) : (l.take (i + 1)).mapIdx f = (l.take i).mapIdx f ++ [f i p] := unus (by exact trivial : Us (by
  have hi := (List.getElem?_eq_some_iff.mp h).1
  rw [List.take_add_one, h]
  simp only [Option.toList_some]
  rw [List.mapIdx_concat]
  simp
  congr 1
  omega))
theorem var_len {i : Nat} (h : i ≤ 9) : (("Var" : Str) ++ ((toString ((i : Int) + 1) : String) : Str)).length ≤ sizeLine := by
  rw [sizeLine_eq]
  revert i
  decide +kernel
end -- L33
section -- L34
open PySem.Calls PySem.Spec PySem.SeqAt
/-- a list of numbers -/
noncomputable def Ints (G : Heap) (l : Addr) : Prop := ∃ xs n, G.get? l = some (lst xs n) ∧ (∀ x ∈ xs, ∃ i t, x = .int i t) ∧ xs.length ≤ 1000000
theorem Ints.up {G H : Heap} {l : Addr} (x : Ints G l) (g : Le G H) : Ints H l := by obtain ⟨xs, n, a, b⟩ := x; exact ⟨xs, n, g _ _ a, b⟩
section
variable {w : World} {A : Around} {E : Value → Shared → Prop} {s0 s : Shared} {G0 G : Heap} {W0 : List Addr} {mu mu' : List (Addr × Obj)} {env : Env} {ρ : Str → Option Value}
theorem callD (pre : List (Addr × Obj)) {a : Addr} {st : Stmt} {vs : List Value} {W : List (Addr × Obj)} {P : Heap → List (Addr × Obj) → Value → Prop} {Q : Value → Shared → Prop} (S : St s0 G0 W0 G (pre ++ W) env ρ s) (X : FnAt G a st) (hc : Run w A s G W a vs P)
    (h : ∀ v G' W' s', Le G G' → St s0 G0 W0 G' (pre ++ W') env ρ s' → P G' W' v → Q v s') : Kept (.ref a) s ∧ wpAny (model pw w) A (call (.ref a) vs) Q E s :=
  St.call (W := W) (Rs := pre) (S.perm List.perm_append_comm) X hc fun v G' W' s' g S hp _ => h v G' W' s' g (S.perm List.perm_append_comm) hp
theorem r_upto {value : Expr} {p p2 pos : Pos} {k : Int} {kk : Nat} {Q : Value → Shared → Prop} (_ : St s0 G0 W0 G mu env ρ s) (hk : 0 ≤ k)
    (h : wpAny (model pw w) A (eval value env) (fun o s₁ => ∃ l xs n, o = .ref l ∧ (∀ s', St s0 G0 W0 G mu env ρ s' → s'.heap.get? l = some (lst xs n)) ∧ xs.length ≤ 1000000 ∧ St s0 G0 W0 G mu env ρ s₁ ∧
      ∀ D s', s0.heap.get? D = none → St s0 G0 W0 G ((D, lst (xs.take k.toNat) 0) :: mu) env ρ s' → Q (.ref D) s') E s)
    (ht : ∀ o r, letTemporaryGo value o r = pure ()) :
    wpAny (model pw w) A (eval (.Subscript value (.Slice none (some (.Constant (.int k) kk p2)) none p) pos) env) Q E s := unus (by exact trivial : Us (by
  refine wpAny_Subscript_list_slice (wpAny_mono h (fun o s₁ h₁ => ?_) fun _ _ e => e) ht
  refine ob_eeeccccl h₁ ?_; try clear h₁; rintro l xs n rfl hl hz S hQ
  refine wpAny_evalPart_none ?_
  refine wpAny_evalPart_some (c_int S fun t s' S' => ?_)
  have hl' : s'.heap.get? l = some (lst xs n) := hl s' S'
  refine ⟨l, xs.toArray, none, some k, rfl, isl' hl', by simp [sizeLine_eq]; omega, .none, .int _ _, ?_⟩
  have e : slicePick xs.toArray none (some k) none = (xs.take k.toNat).toArray := by
    have e : sliceBounds none (some k) none xs.toArray.size = (((0 : Nat) : Int), ((min k.toNat xs.toArray.size : Nat) : Int), 1) := by
      simp only [sliceBounds, Option.getD_none, show (1 : Int) > 0 by decide, if_true, if_neg (show ¬ (k < 0) by omega)]
      congr 1
      congr 1
      omega
    rw [kmk_pick_nat _ e]
    simp only [List.drop_zero, Nat.sub_zero, List.size_toArray, kmk_take_min]
  rw [e]
  have S2 := ((S'.push { cls := .type "slice", data := .fields #[.none, .int k t, .none] } rfl).sub (List.sublist_cons_self ..)).push (lst (xs.take k.toNat) 0) rfl
  rw [Heap.size_push] at S2
  exact hQ _ _ (S'.new (get_ge (Nat.le_succ _))) S2))
theorem w_neg {a : Int} {t : Tok} {Q : Value → Shared → Prop} (S : St s0 G0 W0 G mu env ρ s) (h : ∀ t s', St s0 G0 W0 G mu env ρ s' → Q (.int (-a) t) s') : wpAny (model pw w) A (unaryOp .USub (.int a t)) Q E s := PySem.P.neg_int (h _ _ (S.toks _))
theorem w_pow {a n : Int} {t u : Tok} {Q : Value → Shared → Prop} (S : St s0 G0 W0 G mu env ρ s) (hn : 0 ≤ n) (hsz : (Builtin.Int.intBits a : Int) * n ≤ 2 ^ 27) (h : ∀ t s', St s0 G0 W0 G mu env ρ s' → Q (.int (a ^ n.toNat) t) s') : wpAny (model pw w) A (binaryOp .Pow (.int a t) (.int n u)) Q E s := PyProof.Rows.pow_int hn hsz (h _ _ (S.toks _))
end
end -- L34
section -- L35
open PySem.Calls PySem.Spec PySem.SeqAt
section
variable {w : World} {A : Around} {E : Value → Shared → Prop} {s0 s : Shared} {G0 G : Heap} {W0 : List Addr} {mu mu' : List (Addr × Obj)} {env : Env} {ρ : Str → Option Value}
theorem stmt_cut (_ : St s0 G0 W0 G mu env ρ s) (R : Heap → List (Addr × Obj) → (Str → Option Value) → Prop) {x : Stmt} {Q : Flow → Shared → Prop}
    (h1 : ∀ Qs : Flow → Shared → Prop, (∀ G' mu' ρ' s₂, Le G G' → R G' mu' ρ' → St s0 G0 W0 G' mu' env ρ' s₂ → Qs .next s₂) → wpAny (model pw w) A (exec x env) Qs E s)
    (h2 : ∀ G' mu' ρ' s₂, Le G G' → R G' mu' ρ' → St s0 G0 W0 G' mu' env ρ' s₂ → Q .next s₂) : wpAny (model pw w) A (exec x env) Q E s :=
  h1 Q h2
end
theorem none_lack {ds : List Vd} {p : Nat} {b : Nat → Bool} (hb : ∀ (j : Nat) d, ds[j]? = some d → b j = lackIt d.k (d.its.getD p .na)) : (((List.range ds.length).filter b).length = 0 ↔ (ds.any fun d => lackIt d.k (d.its.getD p .na)) = false) := unus (by exact trivial : Us (by
  rw [List.length_eq_zero_iff, List.filter_eq_nil_iff, List.any_eq_false]
  constructor
  · intro h d hd
    refine ob_el (List.mem_iff_getElem?.mp hd) ?_; intro j hj
    have hlt := (List.getElem?_eq_some_iff.mp hj).1
    rw [← hb j d hj]
    exact h j (by simpa using hlt)
  · intro h j hj
    have hlt : j < ds.length := by simpa using hj
    rw [hb j ds[j] (by simp [hlt])]
    exact h _ (List.getElem_mem hlt)))
end -- L35
section -- P1
open PySem.Calls PySem.Spec
/-- what the draws stand on -/
structure Drw (seed : Int) (xs : List Value) : Prop where
  s0 : 0 ≤ seed
  s1 : seed < 2000
  l : xs.length ≤ 400
  x : ∀ x ∈ xs, ∃ i t, x = .int i t ∧ 0 ≤ i ∧ i < 2000
noncomputable abbrev drw (st r : Addr) (seed : Int) (t : Tok) (n1 : Nat) (xs : List Value) (n2 : Nat) : List (Addr × Obj) := [(st, lst [.ref r, .int seed t] n1), (r, lst xs n2)]
/-- the draws' two lists -/
noncomputable def Draws (st : Addr) (W : List (Addr × Obj)) : Prop := ∃ r seed t n1 xs n2, W = drw st r seed t n1 xs n2 ∧ Drw seed xs

section
variable {w : World} {A : Around} {s : Shared} {G : Heap}
theorem c_take {a : Addr} (P : PG w G) (O : Ok A 1) (X : FnAt G a (stm 131)) {st : Addr} {W : List (Addr × Obj)} (D : Draws st W) {b : Int} {tb : Tok} (hb : 0 < b) (hb2 : b < 10000) :
    Run w A s G W a [.ref st, .int b tb] fun G' W' v => Draws st W' ∧ ∃ k u, v = .int k u ∧ 0 ≤ k ∧ k < b := unus (by exact trivial : Us (by
  refine ob_eeeeeecl D ?_; try clear D; rintro r seed t n1 xs n2 rfl D
  refine Run.enter X P.lim O [("state", .ref st), ("bound", .int b tb)] (fun nm q kV doc pm an cdv ct => BindsTo.of_eq (by kernel_rfl!)) (by kernel_rfl!) fun fp s S O => ?_
  have hl := D.l
  wtm_at "ygo"
  wtm_at "yw"
  wtm_at "ylen"
  wtm_at "yw"
  wtm_at "ysubl"
  wtm_at "yw"
  wtm_at "ylenl"
  wtm_at "yw"
  with_reducible refine gt_int ?_
  wtm_at "yw"
  rcases List.eq_nil_or_concat xs with rfl | ⟨ys, y, rfl⟩
  · wtm_at "yno"
    wtm_at "yw"
    wtm_at "ysubl"
    wtm_at "yw"
    with_reducible refine gt_int ?_
    wtm_at "yw"
    by_cases h0 : 0 < seed
    · wtm_at "yyes"
      wtm_at "yw"
      wtm_at "ysubl"
      wtm_at "yw"
      with_reducible refine w_mul S (IntMulOk.of_right (by with_unfolding_all decide)) ?_
      wtm_at "yS'"
      wtm_at "yw"
      wtm_at "yadd"
      wtm_at "yw"
      wtm_at "ymod"
      wtm_at "yw"
      have e1 : 0 ≤ (seed * 73 + 29).fmod 1013 := Int.fmod_nonneg (by wtm_at "yo") (by wtm_at "yo")
      have e2 : (seed * 73 + 29).fmod 1013 < 1013 := Int.fmod_lt_of_pos _ (by wtm_at "yo")
      generalize (seed * 73 + 29).fmod 1013 = seed' at *
      with_reducible refine set_list S (by with_unfolding_all exact .head _) (by with_unfolding_all decide) (by simp) (by simp) fun s' hp => ?_
      replace S := hp _ .head
      clear hp
      wtm_at "yw"
      wtm_at "ysubl"
      wtm_at "yw"
      wtm_at "ymod"
      wtm_at "yw"
      exact S.out (.refl _) ⟨⟨_, _, _, _, _, _, rfl, e1, by wtm_at "yo", by simp, by simp⟩, _, _, rfl, Int.fmod_nonneg (by wtm_at "yo") (by wtm_at "yo"), Int.fmod_lt_of_pos _ (by wtm_at "yo")⟩
    · wtm_at "yno"
      wtm_at "yw"
      wtm_at "ysubl"
      wtm_at "yw"
      wtm_at "ymod"
      wtm_at "yw"
      exact S.out (.refl _) ⟨⟨_, _, _, _, _, _, rfl, D⟩, _, _, rfl, Int.fmod_nonneg (by have := D.s0; omega) (by wtm_at "yo"), Int.fmod_lt_of_pos _ (by wtm_at "yo")⟩
  · simp only [List.concat_eq_append, List.length_append, List.length_cons, List.length_nil] at *
    with_reducible refine ob_eeccl (D.x y (by simp)) ?_; rintro i ti rfl hi0 hi1
    wtm_at "yyes"
    wtm_at "yw"
    with_reducible refine call_meth (by with_unfolding_all rfl) (by kernel_rfl!) ?_
    wtm_at "yw"
    wtm_at "ysubl"
    intro pl
    with_reducible refine meth_list (by wtm_at "yH") PySem.F.slot_list_pop (by kernel_rfl!) ?_
    wtm_at "yw"
    refine ⟨kept_builtin, ?_⟩
    refine m_pop S (by with_unfolding_all exact .tail _ (.head _)) (by rw [sizeLine_eq]; with_unfolding_all omega) fun n' s' hp => ?_
    replace S := hp _ (.tail .head)
    clear hp
    wtm_at "yw"
    wtm_at "ymod"
    wtm_at "yw"
    exact S.out (.refl _) ⟨⟨_, _, _, _, _, _, rfl, D.s0, D.s1, by wtm_at "yo", fun x hx => D.x x (by simp [hx])⟩, _, _, rfl, Int.fmod_nonneg (by wtm_at "yo") (by wtm_at "yo"), Int.fmod_lt_of_pos _ (by wtm_at "yo")⟩))
end
end -- P1
section -- P22
open PySem.Calls PySem.Spec
/-- an item that the law draws -/
noncomputable def ItOk (k : Str) (it : It) : Prop := it = .na ∨ (k = "logical" ∧ ∃ n, it = .int n ∧ -(2 ^ 40) < n ∧ n < 2 ^ 40) ∨ (k = "integer" ∧ ∃ n, it = .int n ∧ -(2 ^ 40) < n ∧ n < 2 ^ 40) ∨ (k = "double" ∧ ∃ a b, it = .frac a b) ∨ (k = "character" ∧ ∃ x, it = .txt x ∧ x.length ≤ 50)
noncomputable def KLaw (k : Str) : Prop := k = "character" ∨ k = "integer" ∨ k = "double" ∨ k = "logical"
theorem cells_get {t5 : Tok} {ys : List Value} (hy : ∀ (j : Nat) y, ys[j]? = some y → ∃ n t, y = .int n t ∧ -(2 * 10 ^ 9) ≤ n ∧ n ≤ 2 * 10 ^ 9) {k : Int} (h0 : 0 ≤ k) (h1 : k < (([.int 5 t5] ++ ys : List Value).length : Nat)) :
    ∃ n t, ([.int 5 t5] ++ ys)[k.toNat]? = some (.int n t) ∧ -(2 * 10 ^ 9) ≤ n ∧ n ≤ 2 * 10 ^ 9 := unus (by exact trivial : Us (by
  have hlt : k.toNat < ([.int 5 t5] ++ ys : List Value).length := by wtm_at "yo"
  cases e : k.toNat with
  | zero => exact ⟨5, t5, rfl, by decide, by decide⟩
  | succ j =>
    rw [e] at hlt
    simp at hlt
    with_reducible refine ob_eeccl (hy j ys[j] (by simp [hlt])) ?_; intro n t h a b
    exact ⟨n, t, by simp [hlt, h], a, b⟩))
section
variable {w : World} {A : Around} {s : Shared} {G : Heap} {a : Addr}
theorem c_item (P : PG w G) (O : Ok A 3) (X : FnAt G a (stm 132)) {st ls : Addr} {W : List (Addr × Obj)} (D : Draws st W) {k : Str} {tk : Tok} (hk : KLaw k) (hs : Ints G ls) :
    Run w A s G W a [.ref st, .str k tk, .ref ls] fun G' W' v => Draws st W' ∧ ∃ it, ItV G' it v ∧ ItOk k it := unus (by exact trivial : Us (by
  refine Run.enter X P.lim O [("state", .ref st), ("kind", .str k tk), ("script", .ref ls)] (by wtm_at "ybind") (by kernel_rfl!) fun fp s S O => ?_
  with_reducible refine ob_ecl (P.at "_law_take" 131 (by kernel_rfl!)) ?_; intro a1 g1 X1
  wtm_at "ygo"
  wtm_at "yW"
  refine callD [] S (by wtm_at "yU") (c_take (by wtm_at "yU") (O.mono (by decide)) (by wtm_at "yU") D (by decide) (by decide)) fun r G1 W1 s' h1 S hp => ?_
  with_reducible refine ob_ceeccl hp ?_; try clear hp; rintro D1 dr ud rfl hd0 hd1
  replace S : St _ _ _ _ W1 _ _ _ := S
  wtm_at "yW"
  by_cases h5 : dr = 5
  · refine ite_yes (by simpa using h5) ?_
    wtm_at "yW"
    exact S.out (.refl _) ⟨D1, .na, rfl, .inl rfl⟩
  refine ite_no (by simpa using h5) ?_
  wtm_at "yW"
  revert S; rcases hk with rfl | rfl | rfl | rfl <;> intro S
  · wtm_at "yW"
    refine callD [] S (by wtm_at "yU") (c_take (by wtm_at "yU") (O.mono (by decide)) (by wtm_at "yU") D1 (by decide) (by decide)) fun r G2 W2 s' h2 S hp => ?_
    with_reducible refine ob_ceeccl hp ?_; try clear hp; rintro D2 d2 u2 rfl he0 he1
    replace S : St _ _ _ _ W2 _ _ _ := S
    wtm_at "yW"
    refine ⟨kept_type, b_str S (neg0 he0 (by decide)) (ilt_t he1 (by decide)) fun tS s' S => ?_⟩
    wtm_at "yW"
    have hlen : ((toString d2 : String) : Str).length ≤ 10 := PySem.W.KT.len_num he0 (ilt_t he1 (by decide))
    have hc : (("c" : Str) ++ ((toString d2 : String) : Str)).length ≤ 50 := by
      have e : ("c" : Str).length = 1 := by decide +kernel
      rw [Str.length_append, e]; omega
    with_reducible refine w_addstr S (by rw [sizeLine_eq]; omega) fun tV s' S => ?_
    wtm_at "yW"
    have hd : dr = 0 ∨ dr = 1 ∨ dr = 2 ∨ dr = 3 ∨ dr = 4 := d6 hd0 hd1 h5
    rcases hd with rfl | rfl | rfl | rfl | rfl
    · wtm_at "yW"
      exact S.out (List.sublist_cons_self _ _) ⟨D2, .txt "a", ⟨_, rfl⟩, .inr (.inr (.inr (.inr ⟨rfl, _, rfl, by decide +kernel⟩)))⟩
    · wtm_at "yW"
      exact S.out (List.sublist_cons_self _ _) ⟨D2, .txt "b", ⟨_, rfl⟩, .inr (.inr (.inr (.inr ⟨rfl, _, rfl, by decide +kernel⟩)))⟩
    · wtm_at "yW"
      exact S.out (List.sublist_cons_self _ _) ⟨D2, .txt "", ⟨_, rfl⟩, .inr (.inr (.inr (.inr ⟨rfl, _, rfl, by decide +kernel⟩)))⟩
    · wtm_at "yW"
      exact S.out (List.sublist_cons_self _ _) ⟨D2, .txt _, ⟨_, rfl⟩, .inr (.inr (.inr (.inr ⟨rfl, _, rfl, hc⟩)))⟩
    · wtm_at "yW"
      exact S.out (List.sublist_cons_self _ _) ⟨D2, .txt "NA", ⟨_, rfl⟩, .inr (.inr (.inr (.inr ⟨rfl, _, rfl, by decide +kernel⟩)))⟩
  · refine ob_eeccl hs ?_; try clear hs; intro xs ns hls hxs hxl
    wtm_at "yW"
    refine ⟨ls, xs, ns, rfl, fun s' S => S.z.gs _ _ (by wtm_at "yU"), hxl, S, fun D s' hD S => ?_⟩
    with_reducible refine ob_eccl (S.freeze hD) ?_; intro G2 h2 e2 S
    wtm_at "yW"
    with_reducible refine iter_list O.h S (by wtm_at "yU") fun it s' TI => ?_
    refine comp_vk TI (by simp; omega) (by kernel_rfl!) (R := fun _ _ y => ∃ n t, y = .int n t ∧ -(2 * 10 ^ 9) ≤ n ∧ n ≤ 2 * 10 ^ 9) (fun _ _ _ _ _ h => h) (fun C sD Wc i v' G' ρ' s' it d E' hi hP hG hρ S Qe hQe => ?_) fun D5 G5 s' hD5 hG5 hL5 S => ?_
    · with_reducible refine ob_eel (hxs v' (List.mem_of_mem_take (List.mem_of_getElem? hP))) ?_; rintro ci ct rfl
      wtm_at "yW"
      refine ⟨kept_type, b_int ?_⟩
      wtm_at "yW"
      refine ⟨kept_builtin, b_abs S fun t1 s' S => ?_⟩
      wtm_at "yW"
      with_reducible refine w_pow S (by decide) (by decide +kernel) fun t2 s' S => ?_
      wtm_at "yW"
      with_reducible refine w_mul S (IntMulOk.of_left (PySem.intBits_le_64 (by decide) (by decide))) fun t3 s' S => ?_
      have e9 : (4 : Int) * 10 ^ (9 : Int).toNat = 4000000000 := by decide +kernel
      rw [e9]
      wtm_at "yW"
      with_reducible refine w_mod S (by decide) fun t4 s' S => ?_
      wtm_at "yW"
      with_reducible refine w_pow S (by decide) (by decide +kernel) fun t5 s' S => ?_
      wtm_at "yW"
      with_reducible refine w_mul S (IntMulOk.of_left (PySem.intBits_le_64 (by decide) (by decide))) fun t6 s' S => ?_
      have e8 : (2 : Int) * 10 ^ (9 : Int).toNat = 2000000000 := by decide +kernel
      rw [e8]
      wtm_at "yW"
      have f1 := Int.fmod_nonneg (a := if ci < 0 then -ci else ci) (b := 4000000000) (by split <;> omega) (by decide)
      have f2 := Int.fmod_lt_of_pos (if ci < 0 then -ci else ci) (b := 4000000000) (by decide)
      exact hQe _ _ _ (Le.rfl) (⟨_, _, rfl, by wtm_at "yo", by wtm_at "yo"⟩) S
    · refine ob_eeccl hL5 ?_; try clear hL5; intro ys cy hy ly hyi
      have ly3 : ys.length ≤ 3 := by rw [ly]; simp; omega
      wtm_at "yW"
      with_reducible refine w_addlist S (by wtm_at "yH") (by wtm_at "yH") (by rw [sizeLine_eq]; simp; omega) fun lc s' nc S => ?_
      replace S := S.sub (List.Sublist.cons_cons _ (List.sublist_cons_self _ _))
      with_reducible refine ob_eccl (S.freeze nc) ?_; intro G6 h6 e6 S
      wtm_at "yW"
      refine callD [] S (by wtm_at "yU") (c_take (by wtm_at "yU") (O.mono (by decide)) (by wtm_at "yU") D1 (by simp <;> omega) (by simp <;> omega)) fun r G7 W7 s' h7 S hp => ?_
      with_reducible refine ob_ceeccl hp ?_; try clear hp; rintro D7 k7 u7 rfl hk0 hk1
      replace S : St _ _ _ _ W7 _ _ _ := S
      with_reducible refine ob_eeccl (cells_get hyi hk0 hk1) ?_; intro n9 t9 ez hz0 hz1
      have hk2 : k7 < 10 := by simp at hk1; omega
      wtm_at "yW"
      exact S.out (.refl _) ⟨D7, .int _, ⟨_, rfl⟩, .inr (.inr (.inl ⟨rfl, _, rfl, by wtm_at "yo", by wtm_at "yo"⟩))⟩
  · wtm_at "yW"
    with_reducible refine w_neg S fun tn s' S => ?_
    wtm_at "yW"
    have hd : dr = 0 ∨ dr = 1 ∨ dr = 2 ∨ dr = 3 ∨ dr = 4 := d6 hd0 hd1 h5
    rcases hd with rfl | rfl | rfl | rfl | rfl
    · wtm_at "yW"
      exact S.out (List.sublist_cons_self _ _) ⟨D1, .frac 1 2, ⟨_, _, _, rfl, by wtm_at "yU"⟩, .inr (.inr (.inr (.inl ⟨rfl, _, _, rfl⟩)))⟩
    · wtm_at "yW"
      exact S.out (List.sublist_cons_self _ _) ⟨D1, .frac 0 0, ⟨_, _, _, rfl, by wtm_at "yU"⟩, .inr (.inr (.inr (.inl ⟨rfl, _, _, rfl⟩)))⟩
    · wtm_at "yW"
      exact S.out (List.sublist_cons_self _ _) ⟨D1, .frac 1 0, ⟨_, _, _, rfl, by wtm_at "yU"⟩, .inr (.inr (.inr (.inl ⟨rfl, _, _, rfl⟩)))⟩
    · wtm_at "yW"
      exact S.out (List.sublist_cons_self _ _) ⟨D1, .frac (-3) 1, ⟨_, _, _, rfl, by wtm_at "yU"⟩, .inr (.inr (.inr (.inl ⟨rfl, _, _, rfl⟩)))⟩
    · wtm_at "yW"
      exact S.out (List.sublist_cons_self _ _) ⟨D1, .frac 2 3, ⟨_, _, _, rfl, by wtm_at "yU"⟩, .inr (.inr (.inr (.inl ⟨rfl, _, _, rfl⟩)))⟩
  · wtm_at "yW"
    with_reducible refine w_mod S (by decide) fun t2 s' S => ?_
    wtm_at "yW"
    have h1 := Int.fmod_nonneg (a := dr) (b := 2) (by wtm_at "yo") (by decide)
    have h2 := Int.fmod_lt_of_pos dr (b := 2) (by decide)
    wtm_at "yqs"
    exact S.out (.refl _) ⟨D1, .int _, ⟨_, rfl⟩, .inr (.inl ⟨rfl, _, rfl, (neg0 h1 (by decide)), (ilt_t h2 (by decide))⟩)⟩))
end
end -- P22
section -- P2
open PySem.Calls PySem.Spec
section
variable {w : World} {A : Around} {s : Shared} {G : Heap} {a : Addr}
theorem c_logical (P : PG w G) (O : Ok A 5) (X : FnAt G a (stm 42)) {l : Addr} {xs : List Value} {n : Nat} (hl : G.get? l = some (lst xs n)) (hz : xs.length ≤ 100000) :
    Run w A s G [] a [.ref l] fun G' W' v => ∃ l' c, NV G' W' v "logical" l' .none ∧ G'.get? l' = some (lst xs c) := unus (by exact trivial : Us (by
  refine Run.enter X P.lim O [("items", .ref l)] (by wtm_at "ybind") (by kernel_rfl!) fun fp s S O => ?_
  have hz' : xs.length ≤ sizeLine := by rw [sizeLine_eq]; omega
  have gV := P.vec
  have gL := P.list
  wtm_at "ygo"
  wtm_at "yw"
  wtm_at "ycg"
  wtm_at "yw"
  wtm_at "ycg"
  wtm_at "yw"
  refine ⟨kept_type, b_list S (by wtm_at "yH") hz' fun l' c s' n0 S' => ?_⟩
  with_reducible refine ob_eccl (S'.freeze n0) ?_; intro G1 g1 e1 S
  wtm_at "yw"
  refine ⟨kept_vec P S.le0, new_vec2 (vs := []) P (O.mono (by decide)) S fun x d o G2 s' g2 hx hd V S => ?_⟩
  wtm_at "yqs"
  exact S.out (.refl _) ⟨l', c, ⟨x, d, o, rfl, hx, rfl, V⟩, g2 _ _ e1⟩))
theorem c_integer (P : PG w G) (O : Ok A 5) (X : FnAt G a (stm 43)) {l : Addr} {xs : List Value} {n : Nat} (hl : G.get? l = some (lst xs n)) (hz : xs.length ≤ 100000) :
    Run w A s G [] a [.ref l] fun G' W' v => ∃ l' c, NV G' W' v "integer" l' .none ∧ G'.get? l' = some (lst xs c) := unus (by exact trivial : Us (by
  refine Run.enter X P.lim O [("items", .ref l)] (by wtm_at "ybind") (by kernel_rfl!) fun fp s S O => ?_
  have hz' : xs.length ≤ sizeLine := by rw [sizeLine_eq]; omega
  have gV := P.vec
  have gL := P.list
  wtm_at "ygo"
  wtm_at "yw"
  wtm_at "ycg"
  wtm_at "yw"
  wtm_at "ycg"
  wtm_at "yw"
  refine ⟨kept_type, b_list S (by wtm_at "yH") hz' fun l' c s' n0 S' => ?_⟩
  with_reducible refine ob_eccl (S'.freeze n0) ?_; intro G1 g1 e1 S
  wtm_at "yw"
  refine ⟨kept_vec P S.le0, new_vec2 (vs := []) P (O.mono (by decide)) S fun x d o G2 s' g2 hx hd V S => ?_⟩
  wtm_at "yqs"
  exact S.out (.refl _) ⟨l', c, ⟨x, d, o, rfl, hx, rfl, V⟩, g2 _ _ e1⟩))
theorem c_character (P : PG w G) (O : Ok A 5) (X : FnAt G a (stm 44)) {l : Addr} {xs : List Value} {n : Nat} (hl : G.get? l = some (lst xs n)) (hz : xs.length ≤ 100000) :
    Run w A s G [] a [.ref l] fun G' W' v => ∃ l' c, NV G' W' v "character" l' .none ∧ G'.get? l' = some (lst xs c) := unus (by exact trivial : Us (by
  refine Run.enter X P.lim O [("items", .ref l)] (by wtm_at "ybind") (by kernel_rfl!) fun fp s S O => ?_
  have hz' : xs.length ≤ sizeLine := by rw [sizeLine_eq]; omega
  have gV := P.vec
  have gL := P.list
  wtm_at "ygo"
  wtm_at "yw"
  wtm_at "ycg"
  wtm_at "yw"
  wtm_at "ycg"
  wtm_at "yw"
  refine ⟨kept_type, b_list S (by wtm_at "yH") hz' fun l' c s' n0 S' => ?_⟩
  with_reducible refine ob_eccl (S'.freeze n0) ?_; intro G1 g1 e1 S
  wtm_at "yw"
  refine ⟨kept_vec P S.le0, new_vec2 (vs := []) P (O.mono (by decide)) S fun x d o G2 s' g2 hx hd V S => ?_⟩
  wtm_at "yqs"
  exact S.out (.refl _) ⟨l', c, ⟨x, d, o, rfl, hx, rfl, V⟩, g2 _ _ e1⟩))

theorem c_flag (P : PG w G) (O : Ok A 5) (X : FnAt G a (stm 45)) :
    Run w A s G [] a [.bool false] fun G' W' v => ∃ l' c t, NV G' W' v "logical" l' .none ∧ G'.get? l' = some (lst [.int 0 t] c) := unus (by exact trivial : Us (by
  refine Run.enter X P.lim O [("b", .bool false)] (by wtm_at "ybind") (by kernel_rfl!) fun fp s S O => ?_
  have gV := P.vec
  wtm_at "ygo"
  wtm_at "yw"
  wtm_at "yno"
  wtm_at "yw"
  wtm_at "ycg"
  wtm_at "yw"
  wtm_at "yno"
  wtm_at "yw"
  wtm_at "ynl"
  wtm_at "yfz"
  wtm_at "yw"
  refine ⟨kept_vec P S.le0, new_vec2 (vs := []) P (O.mono (by decide)) S fun x d o G2 s' g2 hx hd V S => ?_⟩
  wtm_at "yqs"
  exact S.out (.refl _) ⟨_, _, _, ⟨x, d, o, rfl, hx, rfl, V⟩, g2 _ _ (by assumption)⟩))

theorem c_is_vector (P : PG w G) (O : Ok A 5) (X : FnAt G a (stm 47)) {x d : Addr} (hx : G.get? x = some (vobj d)) :
    Run w A s G [] a [.ref x] fun G' W' v => W' = [] ∧ v = .bool true := unus (by exact trivial : Us (by
  refine Run.enter X P.lim O [("v", .ref x)] (by wtm_at "ybind") (by kernel_rfl!) fun fp s S O => ?_
  have gV := P.vec
  have gi := P.isin
  wtm_at "ygo"
  wtm_at "yw"
  wtm_at "ycg"
  wtm_at "yw"
  refine ⟨kept_builtin, b_isin P S (by wtm_at "yhp") ?_⟩
  wtm_at "yw"
  exact S.out (.refl _) ⟨rfl, rfl⟩))

theorem c_share (P : PG w G) (O : Ok A 5) (X : FnAt G a (stm 49)) {x d l : Addr} {o : Obj} {k : Str} {at' : Value} (hx : G.get? x = some (vobj d)) (V : VD o k l at') :
    Run w A s G [(d, o)] a [.ref x] fun G' W' v => v = .ref x ∧ ∃ o', VD o' k l at' ∧ W' = [(d, o')] := unus (by exact trivial : Us (by
  refine Run.enter X P.lim O [("v", .ref x)] (by wtm_at "ybind") (by kernel_rfl!) fun fp s S O => ?_
  have gV := P.vec
  have gi := P.isin
  wtm_at "ygo"
  wtm_at "yw"
  wtm_at "ycg"
  wtm_at "yw"
  refine ⟨kept_builtin, b_isin P S (by wtm_at "yhp") ?_⟩
  wtm_at "yw"
  wtm_at "yyes"
  wtm_at "yw"
  refine v_share S P (by wtm_at "yhp") (.head _) V fun s' o' V' hp => ?_
  replace S := hp _ .head
  wtm_at "yw"
  exact S.out (.refl _) ⟨rfl, o', V', rfl⟩))
end
end -- P2
section -- P3
open PySem.Calls PySem.Spec
section
variable {w : World} {A : Around} {s : Shared} {G : Heap} {a : Addr} {v : Value} {k : Str} {l : Addr} {at' : Value} {t : Option (List (Str × Value))}
theorem c_get_attr (P : PG w G) (O : Ok A 2) (X : FnAt G a (stm 51)) (F : FV G v k l at') (T : ATT w G at' t) {nm : Str} {tn : Tok} :
    Run w A s G [] a [v, .str nm tn] fun G' W' r => W' = [] ∧ r = attGet t nm := unus (by exact trivial : Us (by
  refine Run.enter X P.lim O [("v", v), ("name", .str nm tn)] (by wtm_at "ybind") (by kernel_rfl!) fun fp s S O => ?_
  wtm_at "ygo"
  wtm_at "yw"
  wtm_at "yattrs"
  wtm_at "yw"
  cases t with
  | none =>
    obtain rfl : at' = .none := T
    wtm_at "yyes"
    wtm_at "yw"
    exact S.out (.refl _) ⟨rfl, rfl⟩
  | some kvs =>
    refine ob_ecl T ?_; try clear T; rintro d rfl D
    wtm_at "yno"
    wtm_at "yw"
    wtm_at "ycm"
    wtm_at "yw"
    wtm_at "yattrs"
    intro pl
    refine ad_meth S D PySem.F.slot_dict_get (by kernel_rfl!) ?_
    wtm_at "yw"
    refine ⟨kept_builtin, ad_get S D fun s' S => ?_⟩
    wtm_at "yw"
    exact S.out (.refl _) ⟨rfl, rfl⟩))
theorem c_dim_of (P : PG w G) (O : Ok A 3) (X : FnAt G a (stm 56)) (F : FV G v k l at') (T : ATT w G at' t) (h : attGet t "dim" = .none) :
    Run w A s G [] a [v] fun G' W' r => W' = [] ∧ r = .none := unus (by exact trivial : Us (by
  refine Run.enter X P.lim O [("v", v)] (by wtm_at "ybind") (by kernel_rfl!) fun fp s S O => ?_
  with_reducible refine ob_ecl (P.at "get_attr" 51 (by kernel_rfl!)) ?_; intro a1 g1 X1
  wtm_at "ygo"
  wtm_at "yw"
  wtm_at "ycg"
  wtm_at "yw"
  refine St.call (W := []) S X1 (c_get_attr P (O.mono (by decide)) X1 F T) fun r G1 W1 s' g1 S hp _ => ?_
  with_reducible refine ob_cl hp ?_; try clear hp; rintro rfl rfl
  rw [h]
  wtm_at "yw"
  wtm_at "yyes"
  wtm_at "yw"
  exact S.out (.refl _) ⟨rfl, rfl⟩))

theorem c_names_none (P : PG w G) (O : Ok A 4) (X : FnAt G a (stm 55)) (hk : KOk k) (F : FV G v k l at') (T : ATT w G at' t) (h : attGet t "dim" = .none) (hn : attGet t "names" = .none) :
    Run w A s G [] a [v] fun _ W' r => W' = [] ∧ r = .none := unus (by exact trivial : Us (by
  refine Run.enter X P.lim O [("v", v)] (by wtm_at "ybind") (by kernel_rfl!) fun fp s S O => ?_
  with_reducible refine ob_ecl (P.at "get_attr" 51 (by kernel_rfl!)) ?_; intro a1 g1 X1
  with_reducible refine ob_ecl (P.at "dim_of" 56 (by kernel_rfl!)) ?_; intro a2 g2 X2
  wtm_at "ygo"
  wtm_at "yw"
  wtm_at "ykind"
  wtm_at "yw"
  wtm_at "yqk"
  wtm_at "yw"
  wtm_at "yno"
  wtm_at "yw"
  wtm_at "ykind"
  wtm_at "yw"
  wtm_at "yqk"
  wtm_at "yw"
  wtm_at "yno"
  wtm_at "yw"
  wtm_at "ycg"
  wtm_at "yw"
  refine St.call (W := []) S X2 (c_dim_of P (O.mono (by decide)) X2 F T h) fun r G1 W1 s' g1 S hp _ => ?_
  with_reducible refine ob_cl hp ?_; try clear hp; rintro rfl rfl
  wtm_at "yw"
  wtm_at "yno"
  wtm_at "yno"
  wtm_at "yw"
  wtm_at "ycg"
  wtm_at "yw"
  refine St.call (W := []) S (X1.up (by assumption)) (c_get_attr (P.up (by assumption)) (O.mono (by decide)) (X1.up (by assumption)) (F.up (by assumption)) (T.up (by assumption))) fun r G2 W2 s' g2 S hp _ => ?_
  with_reducible refine ob_cl hp ?_; try clear hp; rintro rfl rfl
  rw [hn]
  wtm_at "yw"
  wtm_at "yyes"
  wtm_at "yw"
  exact S.out (.refl _) ⟨rfl, rfl⟩))
theorem c_names_some (P : PG w G) (O : Ok A 4) (X : FnAt G a (stm 55)) (hk : KOk k) (F : FV G v k l at') (T : ATT w G at' t) (h : attGet t "dim" = .none) {nv : Value} {kn : Str} {ln : Addr} {an : Value} (hn : attGet t "names" = nv) (FN : FV G nv kn ln an)
    {xs : List Value} {n : Nat} (hl : G.get? ln = some (lst xs n)) (hz : xs.length ≤ 100000) :
    Run w A s G [] a [v] fun G' W' r => W' = [] ∧ ∃ l' c, r = .ref l' ∧ G'.get? l' = some (lst xs c) := unus (by exact trivial : Us (by
  refine Run.enter X P.lim O [("v", v)] (by wtm_at "ybind") (by kernel_rfl!) fun fp s S O => ?_
  with_reducible refine ob_ecl (P.at "get_attr" 51 (by kernel_rfl!)) ?_; intro a1 g1 X1
  with_reducible refine ob_ecl (P.at "dim_of" 56 (by kernel_rfl!)) ?_; intro a2 g2 X2
  have gL := P.list
  have nn : (nv == .none) = false := by (refine ob_eeecl FN ?_; try clear FN; rintro x d o rfl _); rfl
  have hz' : xs.length ≤ sizeLine := by rw [sizeLine_eq]; omega
  wtm_at "ygo"
  wtm_at "yw"
  wtm_at "ykind"
  wtm_at "yw"
  wtm_at "yqk"
  wtm_at "yw"
  wtm_at "yno"
  wtm_at "yw"
  wtm_at "ykind"
  wtm_at "yw"
  wtm_at "yqk"
  wtm_at "yw"
  wtm_at "yno"
  wtm_at "yw"
  wtm_at "ycg"
  wtm_at "yw"
  refine St.call (W := []) S X2 (c_dim_of P (O.mono (by decide)) X2 F T h) fun r G1 W1 s' g1 S hp _ => ?_
  with_reducible refine ob_cl hp ?_; try clear hp; rintro rfl rfl
  wtm_at "yw"
  wtm_at "yno"
  wtm_at "yno"
  wtm_at "yw"
  wtm_at "ycg"
  wtm_at "yw"
  refine St.call (W := []) S (X1.up (by assumption)) (c_get_attr (P.up (by assumption)) (O.mono (by decide)) (X1.up (by assumption)) (F.up (by assumption)) (T.up (by assumption))) fun r G2 W2 s' g2 S hp _ => ?_
  with_reducible refine ob_cl hp ?_; try clear hp; rintro rfl rfl
  rw [hn]
  wtm_at "yw"
  rw [nn]
  wtm_at "yno"
  wtm_at "yw"
  wtm_at "ycg"
  wtm_at "yw"
  wtm_at "yitems"
  wtm_at "yw"
  refine ⟨kept_type, b_list S (by wtm_at "yH") hz' fun l' c s' n0 S' => ?_⟩
  with_reducible refine ob_eccl (S'.freeze n0) ?_; intro G3 g3 e3 S
  wtm_at "yw"
  exact S.out (.refl _) ⟨rfl, l', c, rfl, e3⟩))
/-- a vector's class, as texts -/
theorem c_class_attr (P : PG w G) (O : Ok A 3) (X : FnAt G a (stm 58)) (F : FV G v k l at') (T : ATT w G at' t) {xs : List Value}
    (h : (attGet t "class" = .none ∧ xs = []) ∨ ∃ nv kn ln an n, attGet t "class" = nv ∧ FV G nv kn ln an ∧ G.get? ln = some (lst xs n)) (hz : xs.length ≤ 100000) :
    Run w A s G [] a [v] fun G' W' r => W' = [] ∧ ∃ l' c, r = .ref l' ∧ G'.get? l' = some (lst xs c) := unus (by exact trivial : Us (by
  refine Run.enter X P.lim O [("v", v)] (by wtm_at "ybind") (by kernel_rfl!) fun fp s S O => ?_
  with_reducible refine ob_ecl (P.at "get_attr" 51 (by kernel_rfl!)) ?_; intro a1 g1 X1
  have gL := P.list
  have hz' : xs.length ≤ sizeLine := by rw [sizeLine_eq]; omega
  wtm_at "ygo"
  wtm_at "yw"
  wtm_at "ycg"
  wtm_at "yw"
  refine St.call (W := []) S X1 (c_get_attr P (O.mono (by decide)) X1 F T) fun r G2 W2 s' g2 S hp _ => ?_
  with_reducible refine ob_cl hp ?_; try clear hp; rintro rfl rfl
  rcases h with ⟨h, rfl⟩ | ⟨nv, kn, ln, an, n, h, FN, hl⟩
  · rw [h]
    wtm_at "yw"
    wtm_at "yyes"
    wtm_at "yw"
    wtm_at "ynl"
    wtm_at "yfz"
    wtm_at "yw"
    exact S.out (.refl _) ⟨rfl, _, _, rfl, by assumption⟩
  · have nn : (nv == .none) = false := by (refine ob_eeecl FN ?_; try clear FN; rintro x d o rfl _); rfl
    rw [h]
    wtm_at "yw"
    rw [nn]
    wtm_at "yno"
    wtm_at "yw"
    wtm_at "ycg"
    wtm_at "yw"
    wtm_at "yitems"
    wtm_at "yw"
    refine ⟨kept_type, b_list S (by wtm_at "yH") hz' fun l' c s' n0 S' => ?_⟩
    with_reducible refine ob_eccl (S'.freeze n0) ?_; intro G3 g3 e3 S
    wtm_at "yw"
    exact S.out (.refl _) ⟨rfl, l', c, rfl, e3⟩))
end
end -- P3
section -- P4
open PySem.Calls PySem.Spec
noncomputable def labelOf : It → It
  | .int i => .txt (toString i)
  | it => it
noncomputable def LOk (k : Str) (it : It) : Prop := (k = "integer" ∧ (it = .na ∨ ∃ i, it = .int i ∧ -(2 ^ 60) < i ∧ i < 2 ^ 60)) ∨ (k = "character" ∧ (it = .na ∨ ∃ x, it = .txt x))
section
variable {w : World} {A : Around} {s : Shared} {G : Heap} {a : Addr} {v : Value} {k : Str} {l : Addr} {at' : Value} {t : Option (List (Str × Value))}
theorem c_label_text (P : PG w G) (O : Ok A 1) (X : FnAt G a (stm 52)) {tk : Tok} {it : It} (hk : LOk k it) (I : ItV G it v) :
    Run w A s G [] a [.str k tk, v] fun G' W' r => W' = [] ∧ ItV G' (labelOf it) r := unus (by exact trivial : Us (by
  refine Run.enter X P.lim O [("kind", .str k tk), ("item", v)] (by wtm_at "ybind") (by kernel_rfl!) fun fp s S O => ?_
  wtm_at "ygo"
  rcases hk with ⟨rfl, rfl | ⟨i, rfl, h1, h2⟩⟩ | ⟨rfl, rfl | ⟨x, rfl⟩⟩
  · cases I
    wtm_at "ya"
    exact S.out (.refl _) ⟨rfl, rfl⟩
  · refine ob_el I ?_; try clear I; rintro ti rfl
    have gS := P.str
    wtm_at "ya"
    refine ⟨kept_type, b_str S (by wtm_at "yo") (by wtm_at "yo") fun t' s' S => ?_⟩
    wtm_at "ya"
    exact S.out (.refl _) ⟨rfl, _, rfl⟩
  · cases I
    wtm_at "ya"
    exact S.out (.refl _) ⟨rfl, rfl⟩
  · refine ob_el I ?_; try clear I; rintro ti rfl
    wtm_at "ya"
    exact S.out (.refl _) ⟨rfl, _, rfl⟩))
theorem c_label_texts (P : PG w G) (O : Ok A 4) (X : FnAt G a (stm 54)) {its : List It} (hk : ∀ it ∈ its, LOk k it) (V : VV w G v ⟨k, its, t⟩) (h : attGet t "levels" = .none) (hz : its.length ≤ 100000) :
    Run w A s G [] a [v] fun G' W' r => W' = [] ∧ ∃ l', r = .ref l' ∧ Its G' (its.map labelOf) l' := unus (by exact trivial : Us (by
  refine Run.enter X P.lim O [("value", v)] (by wtm_at "ybind") (by kernel_rfl!) fun fp s S O => ?_
  with_reducible refine ob_eeeeccccl V.open ?_; intro l at' xs n F hl AV T lx
  with_reducible refine ob_ecl (P.at "get_attr" 51 (by kernel_rfl!)) ?_; intro a1 g1 X1
  with_reducible refine ob_ecl (P.at "label_text" 52 (by kernel_rfl!)) ?_; intro a2 g2 X2
  wtm_at "ygo"
  wtm_at "ya"
  refine St.call (W := []) S X1 (c_get_attr P (O.mono (by decide)) X1 F T) fun r G1 W1 s' g1 S hp _ => ?_
  with_reducible refine ob_cl hp ?_; try clear hp; rintro rfl rfl
  rw [h]
  wtm_at "ya"
  with_reducible refine iter_list O.h S (by wtm_at "yU") fun it s' TI => ?_
  wtm_at "yP"
  with_reducible refine comp_vk TI (by wtm_at "yo") (by kernel_rfl!) (ItV.mono (f := fun i => (its.map labelOf).getD i .na)) (fun C sD Wc i v' G' ρ' s' it d E' hi hP hG hρ S Qe hQe => ?_) fun D G' s' hD hG hL S => ?_
  · wtm_at "ya"
    with_reducible refine ob_ecl (AV.at hP) ?_; intro iti e hv
    refine St.call (W := []) S (by wtm_at "yU") (c_label_text (by wtm_at "yU") (O.mono (by decide)) (by wtm_at "yU") (hk iti (List.mem_of_getElem? e)) (hv.up (Le.trans g1 hG))) fun r G2 W2 s' g2 S hp _ => ?_
    with_reducible refine ob_cl hp ?_; try clear hp; rintro rfl hr
    refine hQe _ _ _ g2 ?_ S
    simp [e, hr]
  · wtm_at "ya"
    exact S.out (.refl _) ⟨rfl, D, rfl, hL.its2 (by simp [AV.1]) fun i it y e r => by simpa [e] using r⟩))
end
end -- P4
section -- P5
open PySem.Calls PySem.Spec
/-- what a column keeps -/
noncomputable def keptL : List (Str × Value) → List (Str × Value) := fun kvs => kvs.filter fun p => !(p.1 == "names" || p.1 == "dim" || p.1 == "dimnames")
noncomputable def keptA : Option (List (Str × Value)) → Option (List (Str × Value))
  | none => none
  | some kvs => if keptL kvs = [] then none else some (keptL kvs)
theorem keptA_none {kvs : List (Str × Value)} (h : keptL kvs = []) : keptA (some kvs) = none := by simp [keptA, h]
theorem keptA_some {kvs : List (Str × Value)} (h : ¬ keptL kvs = []) : keptA (some kvs) = some (keptL kvs) := by simp [keptA, h]
theorem keptL_succ {kvs : List (Str × Value)} {i : Nat} {x : Str} {y : Value} (h : kvs[i]? = some (x, y)) : keptL (kvs.take (i + 1)) = if (!(x == "names" || x == "dim" || x == "dimnames")) = true then keptL (kvs.take i) ++ [(x, y)] else keptL (kvs.take i) := unus (by exact trivial : Us (by
  rw [List.take_add_one, h]
  unfold keptL
  rw [List.filter_append]
  simp only [Option.toList_some, List.filter_cons, List.filter_nil]
  split <;> simp))
theorem keptL_fresh {kvs : List (Str × Value)} (nd : (kvs.map (·.1)).Nodup) {i : Nat} {x : Str} {y : Value} (h : kvs[i]? = some (x, y)) : valueAt (keptL (kvs.take i)) x = none := unus (by exact trivial : Us (by
  refine valueAt_none_of_not_mem fun hm => ?_
  with_reducible refine ob_ecl (List.mem_map.mp hm) ?_; intro p hp e
  have hp' : p ∈ kvs.take i := (List.mem_filter.mp hp).1
  with_reducible refine ob_el (List.mem_iff_getElem?.mp hp') ?_; intro j hj
  rw [List.getElem?_take] at hj
  split at hj
  · rename_i hlt
    have hi := (List.getElem?_eq_some_iff.mp h).1
    have h1 : (kvs.map (·.1))[j]? = some x := by rw [List.getElem?_map, hj]; simp [e]
    have h2 : (kvs.map (·.1))[i]? = some x := by rw [List.getElem?_map, h]; rfl
    have := (List.getElem?_inj (by rw [List.length_map]; omega) nd).mp (h1.trans h2.symm)
    omega
  · cases hj))
section
variable {w : World} {A : Around} {s : Shared} {G : Heap} {a : Addr} {v : Value} {k : Str} {l : Addr} {at' : Value} {t : Option (List (Str × Value))} {its : List It}
theorem c_is_lacking (P : PG w G) (O : Ok A 1) (X : FnAt G a (stm 120)) {tk : Tok} {it : It} (hk : KOk k) (I : ItV G it v) (hd : k = "double" → it = .na ∨ ∃ a b, it = .frac a b) :
    Run w A s G [] a [.str k tk, v] fun G' W' r => W' = [] ∧ r = .bool (it == .na || (k == "double" && it == .frac 0 0)) := unus (by exact trivial : Us (by
  refine Run.enter X P.lim O [("kind", .str k tk), ("item", v)] (by wtm_at "ybind") (by kernel_rfl!) fun fp s S O => ?_
  wtm_at "ygo"
  have e1 := I.isNone
  have hu := O.u
  wtm_at "ya"
  rw [e1]
  by_cases hn : it = .na
  · subst hn
    wtm_at "ya"
    exact S.out (.refl _) ⟨rfl, rfl⟩
  · have e2 : (it == .na) = false := by simpa using hn
    rw [e2]
    wtm_at "ya"
    by_cases hd' : k = "double"
    · subst hd'
      with_reducible refine ob_eel ((hd rfl).resolve_left hn) ?_; rintro x y rfl
      refine ob_eeecl I ?_; try clear I; rintro p t1 t2 rfl hp
      wtm_at "ya"
      with_reducible refine eq_frac S (by wtm_at "yU") (by wtm_at "yU") (by wtm_at "yo") ?_
      wtm_at "ya"
      exact S.out (.refl _) ⟨rfl, by simp⟩
    · have e3 : (k == "double") = false := by simpa using hd'
      rw [e3]
      wtm_at "ya"
      exact S.out (.refl _) ⟨rfl, by simp [e2, e3]⟩))
theorem c_kept_attrs (P : PG w G) (O : Ok A 1) (X : FnAt G a (stm 109)) (F : FV G v k l at') (T : ATT w G at' t) (hz : ∀ kvs, t = some kvs → kvs.length ≤ 1000) :
    Run w A s G [] a [v] fun G' W' r => W' = [] ∧ ATT w G' r (keptA t) := unus (by exact trivial : Us (by
  refine Run.enter X P.lim O [("column", v)] (by wtm_at "ybind") (by kernel_rfl!) fun fp s S O => ?_
  wtm_at "ygo"
  wtm_at "ya"
  cases t with
  | none =>
    obtain rfl : at' = .none := T
    wtm_at "ya"
    exact S.out (.refl _) ⟨rfl, rfl⟩
  | some kvs =>
    refine ob_ecl T ?_; try clear T; rintro d rfl D
    wtm_at "ya"
    have nd := ad_nodup D
    have D' := D
    refine ob_cecl D' ?_; try clear D'; intro nsy od hod ho
    with_reducible refine iter_dict O.h S (by wtm_at "yU") ho nsy fun it s' TI => ?_
    refine for_it TI (fun i G' mu' ρ' => (∃ o, mu' = [(dn, o)] ∧ o.IsDictOf (strKind pw w) (keptL (kvs.take i))) ∧ ρ' "kept" = some (.ref dn) ∧ ρ' "column" = some v) ⟨⟨_, rfl, dict_nil _⟩, by wtm_at "yrho", by wtm_at "yrho"⟩
      (fun i v' G' mu' ρ' s' it E' hi hP hG hI S Qb hQb => ?_) fun G' mu' ρ' s' hG hI S => ?_
    · with_reducible refine ob_ccl hI ?_; try clear hI; rintro ⟨o, rfl, ho'⟩ r1 r2
      with_reducible refine ob_eecl hP ?_; try clear hP; intro x y hx hv
      wtm_at "ya"
      with_reducible refine ob_el (strKey hv) ?_; rintro tx rfl
      with_reducible refine notin3 S (by wtm_at "yU") ?_
      wtm_at "ya"
      have ks := keptL_succ hx
      by_cases hc : (!(x == "names" || x == "dim" || x == "dimnames")) = true
      · rw [if_pos hc] at ks
        refine ite_yes hc ?_
        wtm_at "ya"
        with_reducible refine ad_sub S (by wtm_at "yU") (valueAt_of_get nd hx) ?_ (by with_unfolding_all rfl)
        clear S
        intro _ S
        wtm_at "ya"
        refine d_set S (by wtm_at "ymem") ho' (strKind_is pw w x _) (by have := hz _ rfl; have := List.length_filter_le (fun p : Str × Value => !(p.1 == "names" || p.1 == "dim" || p.1 == "dimnames")) (kvs.take i); rw [sizeLine_eq]; unfold keptL; simp at this ⊢; omega) fun s' o' ho2 hp => ?_
        replace S := hp _ (by wtm_at "yput")
        rw [stored_absent (keptL_fresh nd hx), ← ks] at ho2
        wtm_at "ya"
        exact Cont.go hQb rfl (by assumption) (⟨⟨o', rfl, ho2⟩, by wtm_at "yrho", by wtm_at "yrho"⟩) S
      · rw [if_neg hc] at ks
        refine ite_no hc ?_
        wtm_at "ya"
        exact Cont.go hQb rfl (by assumption) (⟨⟨o, rfl, by rw [ks]; exact ho'⟩, by wtm_at "yrho", by wtm_at "yrho"⟩) S
    · with_reducible refine ob_ccl hI ?_; try clear hI; rintro ⟨o, rfl, ho'⟩ r1 r2
      wtm_at "ya"
      refine ⟨kept_builtin, ?_⟩
      refine d_len S (S.has (by wtm_at "ymem")) ho' (S.neSys P (by wtm_at "ymem")) (by have := hz _ rfl; have := List.length_filter_le (fun p : Str × Value => !(p.1 == "names" || p.1 == "dim" || p.1 == "dimnames")) (kvs.take kvs.length); unfold keptL; simp at this ⊢; omega) fun t s' S => ?_
      wtm_at "ya"
      rw [List.take_length]
      by_cases hk : keptL kvs = []
      · refine ite_no (by simp [hk]) ?_
        wtm_at "ya"
        exact S.out (List.nil_sublist _) ⟨rfl, by rw [keptA_none hk]; rfl⟩
      · have : 0 < (keptL kvs).length := List.length_pos_iff.mpr hk
        refine ite_yes (by simpa using this) ?_
        wtm_at "ya"
        rw [List.take_length] at ho'
        with_reducible refine ob_eccl (AD.of P S ho' nd0) ?_; intro G2 g2 D2 S
        wtm_at "yqs"
        exact S.out (.refl _) ⟨rfl, by rw [keptA_some hk]; exact ⟨dn, rfl, D2⟩⟩))
end
end -- P5
section -- P6
open PySem.Calls PySem.Spec
noncomputable def tSmall (t : Option (List (Str × Value))) : Prop := ∀ kvs, t = some kvs → kvs.length ≤ 1000
section
variable {w : World} {A : Around} {s : Shared} {G : Heap} {a : Addr} {v : Value} {k : Str} {l : Addr} {at' : Value} {t : Option (List (Str × Value))} {its : List It}
theorem c_pick_items (P : PG w G) (O : Ok A 6) (X : FnAt G a (stm 111)) (V : VV w G v ⟨k, its, t⟩) (hz : its.length ≤ 100000) (ht : tSmall t) {ps : List Nat} {lp : Addr} (hp : Its G (ps.map nat) lp) (hps : ∀ p ∈ ps, p < its.length) (hzp : ps.length ≤ 100000) :
    Run w A s G [] a [v, .ref lp] fun G' W' r => NVV w G' W' r ⟨k, ps.map fun p => its.getD p .na, keptA t⟩ := unus (by exact trivial : Us (by
  refine Run.enter X P.lim O [("column", v), ("places", .ref lp)] (by wtm_at "ybind") (by kernel_rfl!) fun fp s S O => ?_
  with_reducible refine ob_eeeeccccl V.open ?_; intro l at' xs n F hl AV T lx
  refine ob_eecl hp ?_; try clear hp; intro ys m hlp AP
  with_reducible refine ob_ecl (P.at "kept_attrs" 109 (by kernel_rfl!)) ?_; intro a1 g1 X1
  wtm_at "ygo"
  wtm_at "ya"
  with_reducible refine iter_list O.h S (by wtm_at "yU") fun it s' TI => ?_
  have hlen : ys.length = ps.length := by simpa using AP.1
  refine for_it TI (fun i G' mu' ρ' => (∃ zs n, mu' = [(ln, lst zs n)] ∧ AllV G' ((ps.take i).map fun p => its.getD p .na) zs) ∧ ρ' "items" = some (.ref ln) ∧ ρ' "column" = some v ∧ ∃ t, ρ' "count" = some (.int xs.length t)) ⟨⟨[], 0, rfl, AllV.nil⟩, by wtm_at "yinv", by wtm_at "yinv", by wtm_at "yinv"⟩
    (fun i v' G' mu' ρ' s' it E' hi hP hG hI S Qb hQb => ?_) fun G' mu' ρ' s' hG hI S => ?_
  · with_reducible refine ob_cccel hI ?_; try clear hI; rintro ⟨zs, m, rfl, AZ⟩ r1 r2 tc r3
    with_reducible refine ob_ecl (AP.at hP) ?_; intro itp e1 hv
    rw [List.getElem?_map] at e1
    with_reducible refine ob_ecl (Option.map_eq_some_iff.mp e1) ?_; rintro p hp rfl
    refine ob_el hv ?_; try clear hv; rintro tp rfl
    have hpl := hps p (List.mem_of_getElem? hp)
    have hx : xs[((p : Int)).toNat]? = some (xs[p]'(by wtm_at "yo")) := by simp
    have hzl : zs.length ≤ 100000 := by have := AZ.1; simp at this; omega
    wtm_at "ya"
    wtm_at "yap1"
    wtm_at "yap2"
    refine Cont.go hQb rfl (Le.rfl) (⟨⟨_, _, rfl, ?_⟩, by wtm_at "yinv", by wtm_at "yinv", by wtm_at "yinv"⟩) S
    rw [List.take_add_one, hp]
    simp only [Option.toList_some, List.map_append, List.map_cons, List.map_nil]
    refine AZ.snoc (ItV.up ?_ hG)
    refine AV.2 p _ _ ?_ (by simp)
    rw [List.getElem?_eq_getElem (by wtm_at "yo"), List.getD_eq_getElem?_getD, List.getElem?_eq_getElem (by wtm_at "yo")]; rfl
  · with_reducible refine ob_cccel hI ?_; try clear hI; rintro ⟨zs, m, rfl, AZ⟩ r1 r2 tc r3
    rw [hlen, List.take_length] at AZ
    with_reducible refine ob_eccl (S.freeze n0) ?_; intro G2 g2 e2 S
    wtm_at "ya"
    refine St.call (W := []) S (by wtm_at "yU") (c_kept_attrs (by wtm_at "yU") (O.mono (by decide)) (by wtm_at "yU") (by wtm_at "yU") (by wtm_at "yU") ht) fun r G3 W3 s' g3 S hp _ => ?_
    with_reducible refine ob_cl hp ?_; try clear hp; rintro rfl T3
    wtm_at "ya"
    have hn : r = .none ∨ ∃ a, r = .ref a := by
      cases hkt : keptA t with
      | none => rw [hkt] at T3; exact .inl T3
      | some kvs => rw [hkt] at T3; exact .inr ⟨_, T3.choose_spec.1⟩
    refine ⟨kept_vec P S.le0, new_vec3 (vs := []) P (O.mono (by decide)) hn S fun x d o G4 s' g4 hx hd V S => ?_⟩
    wtm_at "yqs"
    exact S.out (.refl _) ⟨ln, r, ⟨x, d, o, rfl, hx, rfl, V⟩, ⟨zs, m, by wtm_at "yU", by wtm_at "yU"⟩, by wtm_at "yU"⟩))
end
end -- P6
section -- P7
open PySem.Calls PySem.Spec
noncomputable def TxtOk (it : It) : Prop := it = .na ∨ ∃ x, it = .txt x ∧ x.length ≤ 100
noncomputable def keyOf : It → Str
  | .txt x => "=" ++ x
  | _ => "NA"
theorem NVV.of {w : World} {G : Heap} {W : List (Addr × Obj)} {v : Value} {k : Str} {l : Addr} {its : List It} {xs : List Value} {c : Nat} (h : NV G W v k l .none) (e : G.get? l = some (lst xs c)) (a : AllV G its xs) : NVV w G W v ⟨k, its, none⟩ := ⟨l, .none, h, ⟨xs, c, e, a⟩, rfl⟩
section
variable {w : World} {A : Around} {s : Shared} {G : Heap} {a : Addr} {v : Value} {k : Str} {l : Addr} {at' : Value} {t : Option (List (Str × Value))} {its : List It}
theorem run_mono {W : List (Addr × Obj)} {vs : List Value} {P P' : Heap → List (Addr × Obj) → Value → Prop} (h : Run w A s G W a vs P) (hp : ∀ G' W' v, Le G G' → P G' W' v → P' G' W' v) : Run w A s G W a vs P' := fun h1 h2 h3 =>
  codeAny_mono (h h1 h2 h3) fun r s' hr => by
    refine ob_eeeccl hr ?_; try clear hr; intro v G' W' e T hP
    exact ⟨v, G', W', e, T, hp _ _ _ T.g0 hP⟩
theorem d_character (P : PG w G) (O : Ok A 5) (X : FnAt G a (stm 44)) (I : Its G its l) (hz : its.length ≤ 100000) : Run w A s G [] a [.ref l] fun G' W' v => NVV w G' W' v ⟨"character", its, none⟩ := by
  refine ob_eecl I ?_; try clear I; intro xs n hl av
  exact run_mono (c_character P O X hl (by rw [av.1]; exact hz)) fun G' W' v g ⟨l', c, h, e⟩ => .of h e (av.up g)
theorem d_integer (P : PG w G) (O : Ok A 5) (X : FnAt G a (stm 43)) (I : Its G its l) (hz : its.length ≤ 100000) : Run w A s G [] a [.ref l] fun G' W' v => NVV w G' W' v ⟨"integer", its, none⟩ := by
  refine ob_eecl I ?_; try clear I; intro xs n hl av
  exact run_mono (c_integer P O X hl (by rw [av.1]; exact hz)) fun G' W' v g ⟨l', c, h, e⟩ => .of h e (av.up g)
theorem d_logical (P : PG w G) (O : Ok A 5) (X : FnAt G a (stm 42)) (I : Its G its l) (hz : its.length ≤ 100000) : Run w A s G [] a [.ref l] fun G' W' v => NVV w G' W' v ⟨"logical", its, none⟩ := by
  refine ob_eecl I ?_; try clear I; intro xs n hl av
  exact run_mono (c_logical P O X hl (by rw [av.1]; exact hz)) fun G' W' v g ⟨l', c, h, e⟩ => .of h e (av.up g)
theorem c_item_key (P : PG w G) (O : Ok A 1) (X : FnAt G a (stm 76)) {tk : Tok} {it : It} (I : ItV G it v) (ht : TxtOk it) :
    Run w A s G [] a [.str "character" tk, v] fun G' W' r => W' = [] ∧ ∃ u, r = .str (keyOf it) u := unus (by exact trivial : Us (by
  refine Run.enter X P.lim O [("kind", .str "character" tk), ("item", v)] (by wtm_at "ybind") (by kernel_rfl!) fun fp s S O => ?_
  wtm_at "ygo"
  rcases ht with rfl | ⟨x, rfl, hx⟩
  · cases I
    wtm_at "ya"
    exact S.out (.refl _) ⟨rfl, _, rfl⟩
  · refine ob_el I ?_; try clear I; rintro tx rfl
    wtm_at "ya"
    have e1 : (("=" : Str) ++ x).length ≤ sizeLine := by
      have e : ("=" : Str).length = 1 := by decide +kernel
      rw [Str.length_append, sizeLine_eq, e]; omega
    with_reducible refine w_addstr S e1 ?_
    clear S
    intro _ _ S
    wtm_at "ya"
    exact S.out (.refl _) ⟨rfl, _, rfl⟩))
theorem c_is_listed (P : PG w G) (O : Ok A 1) (X : FnAt G a (stm 77)) (hk : k ≠ "list") (hk' : KOk k) (F : FV G v k l at') : Run w A s G [] a [v] fun G' W' r => W' = [] ∧ r = .bool false := unus (by exact trivial : Us (by
  refine Run.enter X P.lim O [("v", v)] (by wtm_at "ybind") (by kernel_rfl!) fun fp s S O => ?_
  wtm_at "ygo"
  wtm_at "ya"
  with_reducible refine in3 S (by wtm_at "yU") ?_
  have e : (k == "list" || k == "expression" || k == "pairlist") = false := by
    rcases hk'.cases with rfl | rfl | rfl | rfl | h
    · kernel_rfl!
    · kernel_rfl!
    · kernel_rfl!
    · kernel_rfl!
    · exact absurd h hk
  rw [e]
  wtm_at "ya"
  exact S.out (.refl _) ⟨rfl, rfl⟩))

/-- what is known of the keys met -/
structure Known (its : List It) (i : Nat) (kvs : List (Str × Value)) : Prop where
  len : kvs.length ≤ i
  hit : ∀ x v, valueAt kvs x = some v → ∃ (j : Nat) (t : Tok), v = .int (j : Int) t ∧ j < i ∧ keyOf (its.getD j .na) = x ∧ ∀ j' < j, keyOf (its.getD j' .na) ≠ x
  mis : ∀ x, valueAt kvs x = none → ∀ j < i, keyOf (its.getD j .na) ≠ x
noncomputable def firstAt (its : List It) (i : Nat) : Nat := its.idxOf (its.getD i .na)
theorem key_inj {a b : It} (ha : TxtOk a) (hb : TxtOk b) (h : keyOf a = keyOf b) : a = b := unus (by exact trivial : Us (by
  have e : ("=" : Str).cps.toList = [61] := by decide +kernel
  have e2 : ("NA" : Str).cps.toList = [78, 65] := by decide +kernel
  rcases ha with rfl | ⟨x, rfl, _⟩ <;> rcases hb with rfl | ⟨y, rfl, _⟩
  · rfl
  · have := congrArg (fun z : Str => z.cps.toList) h
    simp only [keyOf, Str.cps_append, Array.toList_append, e, e2] at this
    simp at this
  · have := congrArg (fun z : Str => z.cps.toList) h
    simp only [keyOf, Str.cps_append, Array.toList_append, e, e2] at this
    simp at this
  · have := congrArg (fun z : Str => z.cps.toList) h
    simp only [keyOf, Str.cps_append, Array.toList_append, e] at this
    simp at this
    have : x = y := by cases x; cases y; simpa using this
    rw [this]))
theorem getD_mem {its : List It} {i : Nat} (h : i < its.length) : its.getD i .na ∈ its := by
  rw [List.getD_eq_getElem?_getD, List.getElem?_eq_getElem h]; simp
theorem firstAt_eq {its : List It} {i j : Nat} (ht : ∀ it ∈ its, TxtOk it) (hj : j ≤ i) (hi : i < its.length) (h : keyOf (its.getD j .na) = keyOf (its.getD i .na)) (hn : ∀ j' < j, keyOf (its.getD j' .na) ≠ keyOf (its.getD i .na)) : firstAt its i = j := unus (by exact trivial : Us (by
  unfold firstAt
  have e := key_inj (ht _ (getD_mem (Nat.lt_of_le_of_lt hj hi))) (ht _ (getD_mem hi)) h
  have hj' : j < its.length := (Nat.lt_of_le_of_lt hj hi)
  show its.findIdx _ = j
  rw [List.findIdx_eq hj']
  refine ⟨?_, fun j' hlt => ?_⟩
  · rw [← e, List.getD_eq_getElem?_getD, List.getElem?_eq_getElem hj']; simp
  · have := hn j' hlt
    rw [beq_eq_false_iff_ne]
    intro q
    apply this
    rw [← q]
    rw [List.getD_eq_getElem?_getD, List.getElem?_eq_getElem (Nat.lt_of_lt_of_le hlt (Nat.le_of_lt hj'))]; rfl))
theorem Known.same {its : List It} {i : Nat} {kvs : List (Str × Value)} {v : Value} (K : Known its i kvs) (h : valueAt kvs (keyOf (its.getD i .na)) = some v) : Known its (i + 1) kvs := unus (by exact trivial : Us (by
  refine ⟨by have := K.len; omega, fun x v h => ?_, fun x hx j hj => ?_⟩
  · with_reducible refine ob_eecccl (K.hit x v h) ?_; intro j t a b c d
    exact ⟨j, t, a, by wtm_at "yo", c, d⟩
  · by_cases e : j = i
    · subst e
      rintro rfl
      rw [h] at hx; cases hx
    · exact K.mis x hx j (by wtm_at "yo")))
theorem Known.more {its : List It} {i : Nat} {t : Tok} {kvs : List (Str × Value)} (K : Known its i kvs) (h : valueAt kvs (keyOf (its.getD i .na)) = none) : Known its (i + 1) (stored kvs (keyOf (its.getD i .na)) (.int i t)) := unus (by exact trivial : Us (by
  rw [stored_absent h]
  refine ⟨by have := K.len; simp; omega, fun x v hv => ?_, fun x hx j hj => ?_⟩
  · rw [valueAt_snoc h] at hv
    split at hv
    · rename_i e
      cases hv
      exact ⟨i, t, rfl, by wtm_at "yo", e, fun j' hj => by rw [← e]; exact K.mis _ h j' hj⟩
    · with_reducible refine ob_eecccl (K.hit x v hv) ?_; intro j t a b c d
      exact ⟨j, t, a, by wtm_at "yo", c, d⟩
  · rw [valueAt_snoc h] at hx
    split at hx
    · cases hx
    · rename_i ne
      by_cases e : j = i
      · subst e; exact ne
      · exact K.mis x hx j (by wtm_at "yo")))
theorem c_first_places (P : PG w G) (O : Ok A 4) (X : FnAt G a (stm 79)) (V : VV w G v ⟨"character", its, t⟩) (hz : its.length ≤ 1000) (ht : ∀ it ∈ its, TxtOk it) :
    Run w A s G [] a [v] fun G' W' r => W' = [] ∧ ∃ l', r = .ref l' ∧ Its G' ((List.range its.length).map fun i => nat (firstAt its i)) l' := unus (by exact trivial : Us (by
  refine Run.enter X P.lim O [("v", v)] (by wtm_at "ybind") (by kernel_rfl!) fun fp s S O => ?_
  with_reducible refine ob_eeeeccccl V.open ?_; intro l at' xs n F hl AV T lx
  with_reducible refine ob_ecl (P.at "is_listed" 77 (by kernel_rfl!)) ?_; intro a1 g1 X1
  with_reducible refine ob_ecl (P.at "item_key" 76 (by kernel_rfl!)) ?_; intro a2 g2 X2
  wtm_at "ygo"
  wtm_at "ya"
  with_reducible refine call0 S X1 (c_is_listed P (O.mono (by decide)) X1 (by decide +kernel) (by simp [KOk]) F) fun r G1 s' g1 S hp => ?_
  obtain rfl := hp
  wtm_at "ya"
  wtm_at "yrange"
  refine for_it TI (fun i G' mu' ρ' => (∃ zs n od kvs, mu' = [(ln, lst zs n), (dn, od)] ∧ od.IsDictOf (strKind pw w) kvs ∧ Known its i kvs ∧ AllV G' ((List.range i).map fun i => nat (firstAt its i)) zs) ∧ ρ' "known" = some (.ref dn) ∧ ρ' "found" = some (.ref ln) ∧ ρ' "v" = some v)
    ⟨⟨[], 0, _, [], rfl, dict_nil _, ⟨by simp, fun x v h => by simp [valueAt] at h, fun _ _ j h => by wtm_at "yo"⟩, AllV.nil⟩, by wtm_at "yinv", by wtm_at "yinv", by wtm_at "yinv"⟩
    (fun i v' G' mu' ρ' s' it E' hi hP hG hI S Qb hQb => ?_) fun G' mu' ρ' s' hG hI S => ?_
  · with_reducible refine ob_cccl hI ?_; try clear hI; rintro ⟨zs, m, od, kvs, rfl, ho, K, AZ⟩ r1 r2 r3
    with_reducible refine ob_el hP ?_; try clear hP; rintro ti rfl
    have hzl : zs.length ≤ 100000 := by have := AZ.1; simp at this; omega
    have hx : xs[((i : Int)).toNat]? = some (xs[i]) := by simp
    have hi' : i < its.length := (Nat.lt_of_lt_of_le hi (Nat.le_of_eq lx))
    have hv := AV.2 i (its.getD i .na) xs[i] (by rw [List.getD_eq_getElem?_getD, List.getElem?_eq_getElem hi']; rfl) (by simp)
    wtm_at "ya"
    wtm_at "yap1"
    intro pl2
    refine d_meth PySem.F.slot_dict_setdefault (by kernel_rfl!) (S.has (by wtm_at "ymem")) ho ?_
    wtm_at "ya"
    with_reducible refine call0 S (by wtm_at "yU") (c_item_key (by wtm_at "yU") (O.mono (by decide)) (by wtm_at "yU") (by wtm_at "yU") (ht _ (getD_mem hi'))) fun r G2 s' g2 S hp => ?_
    with_reducible refine ob_el hp ?_; try clear hp; rintro u rfl
    wtm_at "ya"
    refine ⟨kept_builtin, ?_⟩
    refine d_setdef S (by wtm_at "ymem") ho (S.neSys P (by wtm_at "ymem")) (strKind_is pw w _ _) (PySem.F.args_dict_setdefault_3 _ _ _) (by have := K.len; rw [sizeLine_eq]; omega) (fun v' s' hv' S => ?_) fun hv' s' o' ho' hpu => ?_
    · with_reducible refine ob_eecccl (K.hit _ _ hv') ?_; rintro j tj rfl hj e1 e2
      have ef := firstAt_eq ht (Nat.le_of_lt hj) hi' e1 e2
      wtm_at "ya"
      wtm_at "yap2"
      refine Cont.go hQb rfl (g2) (⟨⟨_, _, _, _, rfl, ho, K.same hv', ?_⟩, by wtm_at "yinv", by wtm_at "yinv", by wtm_at "yinv"⟩) S
      rw [List.range_succ, List.map_append]
      exact (AZ.up g2).snoc ⟨tj, by rw [ef]⟩
    · have ef := firstAt_eq ht (Nat.le_refl i) hi' rfl fun j' hj => K.mis _ hv' j' hj
      replace S := hpu _ (by wtm_at "yput")
      wtm_at "ya"
      wtm_at "yap2"
      refine Cont.go hQb rfl (g2) (⟨⟨_, _, _, _, rfl, ho', K.more hv', ?_⟩, by wtm_at "yinv", by wtm_at "yinv", by wtm_at "yinv"⟩) S
      rw [List.range_succ, List.map_append]
      exact (AZ.up g2).snoc ⟨_, by rw [ef]⟩
  · with_reducible refine ob_cccl hI ?_; try clear hI; rintro ⟨zs, m, od, kvs, rfl, ho, K, AZ⟩ r1 r2 r3
    have S := S.sub (mu' := [(ln, lst zs m)]) (by simp)
    with_reducible refine ob_eccl (S.freeze n0) ?_; intro G2 g2 e2 S
    wtm_at "ya"
    exact S.out (.refl _) ⟨rfl, ln, rfl, zs, m, e2, by rw [← lx]; wtm_at "yU"⟩))
end
end -- P7
section -- P8
open PySem.Calls PySem.Spec
noncomputable def uniq (its : List It) : List Nat := (List.range its.length).filter fun i => firstAt its i == i
theorem uniq_lt {its : List It} : ∀ p ∈ uniq its, p < its.length := fun p hp => by
  have := (List.mem_filter.mp hp).1
  simpa using this
theorem uniq_len {its : List It} : (uniq its).length ≤ its.length := by
  have := List.length_filter_le (fun i => firstAt its i == i) (List.range its.length)
  rw [List.length_range] at this
  exact this
noncomputable def full (its : List It) : List Nat := (uniq its).filter fun p => !(its.getD p .na == .na)
noncomputable def levs (its : List It) : List It := (full its).map fun p => its.getD p .na
noncomputable def codes (its : List It) : List It := its.map fun it => if it = .na then .na else .int ((levs its).idxOf it + 1)
theorem idx_at {its : List It} {i : Nat} (hi : i < its.length) : its.getD (firstAt its i) .na = its.getD i .na ∧ firstAt its i < its.length := unus (by exact trivial : Us (by
  have hm : its.getD i .na ∈ its := getD_mem hi
  have hj := List.idxOf_lt_length_iff.mpr hm
  refine ⟨?_, hj⟩
  unfold firstAt
  rw [List.getD_eq_getElem?_getD, List.getElem?_eq_getElem hj]
  simp))
theorem full_mem {its : List It} {i : Nat} (hi : i < its.length) (hn : its.getD i .na ≠ .na) : firstAt its i ∈ full its := unus (by exact trivial : Us (by
  with_reducible refine ob_cl (idx_at hi) ?_; intro e hj
  refine List.mem_filter.mpr ⟨List.mem_filter.mpr ⟨by simpa using hj, ?_⟩, ?_⟩
  · have : firstAt its (firstAt its i) = firstAt its i := by
      conv => lhs; unfold firstAt
      rw [show List.idxOf (its.getD i .na) its = firstAt its i from rfl, e]; rfl
    simpa using this
  · rw [e]; simpa using hn))
theorem filter_at {us : List Nat} {c : Nat → Bool} : ((List.range us.length).filter fun i => c (us.getD i 0)).map (fun i => us.getD i 0) = us.filter c := unus (by exact trivial : Us (by
  have e : (List.range us.length).map (fun i => us.getD i 0) = us := by
    apply List.ext_getElem (by simp)
    intro i h1 h2
    simp [List.getD_eq_getElem?_getD, List.getElem?_eq_getElem h2]
  conv => rhs; rw [← e]
  rw [List.filter_map]; rfl))
section
variable {w : World} {A : Around} {s : Shared} {G : Heap} {a : Addr} {v : Value} {k : Str} {l : Addr} {at' : Value} {t : Option (List (Str × Value))} {its : List It}
theorem c_unique_places (P : PG w G) (O : Ok A 5) (X : FnAt G a (stm 80)) (V : VV w G v ⟨"character", its, t⟩) (hz : its.length ≤ 1000) (ht : ∀ it ∈ its, TxtOk it) :
    Run w A s G [] a [v] fun G' W' r => W' = [] ∧ ∃ l', r = .ref l' ∧ Its G' ((uniq its).map nat) l' := unus (by exact trivial : Us (by
  refine Run.enter X P.lim O [("v", v)] (by wtm_at "ybind") (by kernel_rfl!) fun fp s S O => ?_
  with_reducible refine ob_ecl (P.at "first_places" 79 (by kernel_rfl!)) ?_; intro a1 g1 X1
  wtm_at "ygo"
  wtm_at "ya"
  with_reducible refine call0 S X1 (c_first_places P (O.mono (by decide)) X1 V hz ht) fun r G1 s' g1 S hp => ?_
  with_reducible refine ob_eceecl hp ?_; try clear hp; rintro lf rfl fs nf hf AF
  have lfs : fs.length = its.length := by simpa using AF.1
  wtm_at "ya"
  wtm_at "yrange"
  with_reducible refine comp_vf TI (Nat.le_trans (Nat.le_trans (Nat.le_of_eq lfs) hz) (by decide)) (by kernel_rfl!) (b := fun i => firstAt its i == i) (ItV.mono (f := nat)) (fun C sD Wc i v' G' ρ' s' it d E' hi hP hG hρ S Qe Qn hQe hQn => ?_) fun D G' s' hD hG hL S => ?_
  · refine ob_el hP ?_; try clear hP; rintro ti rfl
    have hx : fs[((i : Int)).toNat]? = some (fs[i]) := by simp
    refine ob_el (AF.2 i (nat (firstAt its i)) fs[i] (by rw [List.getElem?_map, List.getElem?_range (Nat.lt_of_lt_of_le hi (Nat.le_of_eq lfs))]; rfl) (by simp)) ?_; intro ti2 e2
    rw [e2] at hx
    wtm_at "ya"
    have e3 : (((firstAt its i : Nat) : Int) == (i : Int)) = (firstAt its i == i) := by rw [Bool.eq_iff_iff]; simp; omega
    refine ⟨e3, fun h => ?_, fun h => hQn _ _ Le.rfl S⟩
    wtm_at "ya"
    exact hQe _ _ _ (Le.rfl) (⟨_, rfl⟩) S
  · wtm_at "ya"
    exact S.out (.refl _) ⟨rfl, D, rfl, by rw [lfs] at hL; exact hL.its⟩))
theorem c_grid_factor (P : PG w G) (O : Ok A 7) (X : FnAt G a (stm 124)) (V : VV w G v ⟨"character", its, none⟩) (hz : its.length ≤ 1000) (ht : ∀ it ∈ its, TxtOk it) :
    Run w A s G [] a [v] fun G' W' r => ∃ lv cv, NVV w G' W' r ⟨"integer", codes its, some [("levels", lv), ("class", cv)]⟩ ∧ VV w G' lv ⟨"character", levs its, none⟩ ∧ VV w G' cv ⟨"character", [.txt "factor"], none⟩ := unus (by exact trivial : Us (by
  refine Run.enter X P.lim O [("column", v)] (by wtm_at "ybind") (by kernel_rfl!) fun fp s S O => ?_
  with_reducible refine ob_eeeeccccl V.open ?_; intro l at' xs n F hl AV T lx
  with_reducible refine ob_ecl (P.at "unique_places" 80 (by kernel_rfl!)) ?_; intro a1 g1 X1
  with_reducible refine ob_ecl (P.at "integer" 43 (by kernel_rfl!)) ?_; intro a2 g2 X2
  with_reducible refine ob_ecl (P.at "character" 44 (by kernel_rfl!)) ?_; intro a3 g3 X3
  wtm_at "ygo"
  wtm_at "ya"
  with_reducible refine call0 S X1 (c_unique_places P (O.mono (by decide)) X1 V hz ht) fun r G1 s' g1 S hp => ?_
  with_reducible refine ob_eceecl hp ?_; try clear hp; rintro lu rfl us nu hu AU
  have lus : us.length = (uniq its).length := by simpa using AU.1
  have lul := uniq_len (its := its)
  with_reducible refine iter_list O.h S (by wtm_at "yU") fun it s' TI => ?_
  with_reducible refine comp_bf TI (Nat.le_trans (Nat.le_trans (Nat.le_of_eq lus) (Nat.le_trans lul hz)) (by decide)) (by kernel_rfl!) (b := fun i => !(its.getD ((uniq its).getD i 0) .na == .na)) (ItV.mono (f := fun i => nat ((uniq its).getD i 0))) (fun C sD Wc i v' G' ρ' s' it d E' hi hP hG hρ S Qe Qn hQe hQn => ?_) (by kernel_rfl!) (by kernel_rfl!) fun D G2 s' hD hG hL S => ?_
  · with_reducible refine ob_ecl (AU.at hP) ?_; intro itp e1 hv
    rw [List.getElem?_map] at e1
    with_reducible refine ob_ecl (Option.map_eq_some_iff.mp e1) ?_; rintro p hp rfl
    refine ob_el hv ?_; try clear hv; rintro tp rfl
    have hpl := uniq_lt p (List.mem_of_getElem? hp)
    have hx : xs[((p : Int)).toNat]? = some (xs[p]'(Nat.lt_of_lt_of_le hpl (Nat.le_of_eq lx.symm))) := by simp
    have ep : (uniq its).getD i 0 = p := by rw [List.getD_eq_getElem?_getD, hp]; rfl
    rw [ep] at hQe
    have hn := (AV.2 p (its.getD p .na) (xs[p]'(Nat.lt_of_lt_of_le hpl (Nat.le_of_eq lx.symm))) (by rw [List.getD_eq_getElem?_getD, List.getElem?_eq_getElem hpl]; rfl) (by simp)).isNone
    wtm_at "ya"
    refine ⟨by rw [hn]; simp only [ep], fun h => ?_, fun h => hQn _ _ Le.rfl S⟩
    wtm_at "ya"
    exact hQe _ _ _ (Le.rfl) (⟨_, rfl⟩) S
  have IP : Its G2 ((full its).map nat) D := by
    have := hL.its
    rw [lus] at this
    unfold full
    rw [← filter_at, List.map_map]
    exact this
  refine ob_eecl IP ?_; try clear IP; intro ps np hps AP
  have lps : ps.length = (full its).length := by simpa using AP.1
  have lfl : (full its).length ≤ (uniq its).length := List.length_filter_le ..
  have hfl : ∀ p ∈ full its, p < its.length := fun p hp => uniq_lt p (List.mem_filter.mp hp).1
  wtm_at "ya"
  with_reducible refine iter_list O.h S (by wtm_at "yU") fun it s' TI => ?_
  with_reducible refine comp_vk TI (Nat.le_trans (Nat.le_trans (Nat.le_of_eq lps) (Nat.le_trans lfl (Nat.le_trans lul hz))) (by decide)) (by kernel_rfl!) (ItV.mono (f := fun i => (levs its).getD i .na)) (fun C sD Wc i v' G' ρ' s' it d E' hi hP hG hρ S Qe hQe => ?_) fun D G3 s' hD hG hL S => ?_
  · with_reducible refine ob_ecl (AP.at hP) ?_; intro itp e1 hv
    rw [List.getElem?_map] at e1
    with_reducible refine ob_ecl (Option.map_eq_some_iff.mp e1) ?_; rintro p hp rfl
    refine ob_el hv ?_; try clear hv; rintro tp rfl
    have hpl := hfl p (List.mem_of_getElem? hp)
    have hx : xs[((p : Int)).toNat]? = some (xs[p]'(Nat.lt_of_lt_of_le hpl (Nat.le_of_eq lx.symm))) := by simp
    have hv := AV.2 p (its.getD p .na) (xs[p]'(Nat.lt_of_lt_of_le hpl (Nat.le_of_eq lx.symm))) (by rw [List.getD_eq_getElem?_getD, List.getElem?_eq_getElem hpl]; rfl) (by simp)
    have el : (levs its).getD i .na = its.getD p .na := by
      unfold levs
      rw [List.getD_eq_getElem?_getD, List.getElem?_map, hp]; rfl
    wtm_at "ya"
    exact hQe _ _ _ (Le.rfl) (by rw [el]; wtm_at "yU") S
  have lle : (levs its).length = (full its).length := by unfold levs; simp
  have IL : Its G3 (levs its) D := hL.its2 (lps.trans lle.symm) fun i it y e r => by
    rw [List.getD_eq_getElem?_getD, e] at r; exact r
  have htx : txts (levs its) := fun it hm => by
    with_reducible refine ob_ecl (List.mem_map.mp hm) ?_; rintro p hp rfl
    have h1 := (List.mem_filter.mp hp).2
    rcases ht _ (getD_mem (hfl p hp)) with e | ⟨x, e, _⟩
    · rw [e] at h1; simp at h1
    · exact ⟨x, e⟩
  refine ob_eecl IL ?_; try clear IL; intro ls nl hls AL
  wtm_at "ya"
  with_reducible refine iter_list O.h S (by wtm_at "yU") fun it s' TI => ?_
  with_reducible refine comp_vk TI (Nat.le_trans (Nat.le_trans (Nat.le_of_eq lx) hz) (by decide)) (by kernel_rfl!) (ItV.mono (f := fun i => (codes its).getD i .na)) (fun C sD Wc i v' G' ρ' s' it d E' hi hP hG hρ S Qe hQe => ?_) fun D4 G4 s' hD4 hG4 hL4 S => ?_
  · have hi' : i < its.length := (Nat.lt_of_lt_of_le hi (Nat.le_of_eq lx))
    have hv := AV.2 i (its.getD i .na) v' (by rw [List.getD_eq_getElem?_getD, List.getElem?_eq_getElem hi']; rfl) hP
    have hn := hv.isNone
    have ec : (codes its).getD i .na = if its.getD i .na = .na then .na else .int ((levs its).idxOf (its.getD i .na) + 1) := by
      unfold codes
      rw [List.getD_eq_getElem?_getD, List.getElem?_map, List.getElem?_eq_getElem hi', List.getD_eq_getElem?_getD, List.getElem?_eq_getElem hi']; rfl
    wtm_at "ya"
    rw [hn]
    by_cases hna : its.getD i .na = .na
    · rw [if_pos hna] at ec
      have : (its.getD i .na == It.na) = true := by simpa using hna
      rw [this]
      wtm_at "ya"
      exact hQe _ _ _ (Le.rfl) (by rw [ec]; rfl) S
    · rw [if_neg hna] at ec
      have : (its.getD i .na == It.na) = false := by simpa using hna
      rw [this]
      rcases ht _ (getD_mem hi') with e | ⟨x, e, _⟩
      · exact absurd e hna
      rw [e] at hv ec
      refine ob_el hv ?_; try clear hv; rintro tv rfl
      wtm_at "ya"
      intro pl
      with_reducible refine meth_list (by wtm_at "yH") PySem.F.slot_list_index (by kernel_rfl!) ?_
      wtm_at "ya"
      refine ⟨kept_builtin, ?_⟩
      refine m_index S (by wtm_at "yU") (by wtm_at "yU") htx ?_ (Nat.le_trans (Nat.le_trans (Nat.le_of_eq lle) (Nat.le_trans lfl (Nat.le_trans lul hz))) (by decide)) fun t s' S => ?_
      · rw [← e]
        exact List.mem_map.mpr ⟨firstAt its i, full_mem hi' hna, (idx_at hi').1⟩
      · wtm_at "ya"
        exact hQe _ _ _ (Le.rfl) (by rw [ec]; exact ⟨_, rfl⟩) S
  have lco : (codes its).length = its.length := by unfold codes; simp
  have IC : Its G4 (codes its) D4 := hL4.its2 (lx.trans lco.symm) fun i it y e r => by
    rw [List.getD_eq_getElem?_getD, e] at r; exact r
  wtm_at "ya"
  with_reducible refine callU S (by wtm_at "yU") (d_integer (by wtm_at "yU") (O.mono (by decide)) (by wtm_at "yU") (by wtm_at "yU") (Nat.le_trans (Nat.le_trans (Nat.le_of_eq lco) hz) (by decide))) fun x d o l5 at5 G5 s' g5 S hd0 hx V I5 T5 => ?_
  wtm_at "ya"
  wtm_at "ydict"
  refine callV S (by wtm_at "yU") (d_character (by wtm_at "yU") (O.mono (by decide)) (by wtm_at "yU") (its := levs its) ⟨ls, nl, by wtm_at "yU", by wtm_at "yU"⟩ (Nat.le_trans (Nat.le_trans (Nat.le_of_eq lle) (Nat.le_trans lfl (Nat.le_trans lul hz))) (by decide))) fun lv G6 s' g6 S V6 => ?_
  wtm_at "ya"
  with_reducible refine ob_eccl (S.freeze n0) ?_; intro G7 g7 e7 S
  refine callV S (by wtm_at "yU") (d_character (by wtm_at "yU") (O.mono (by decide)) (by wtm_at "yU") (its := [.txt "factor"]) ⟨_, _, e7, .cons ⟨_, rfl⟩ .nil⟩ (by simp)) fun cv G8 s' g8 S V8 => ?_
  wtm_at "ya"
  refine ⟨strPairs _, _, _, carries_strPairs _ _ _ rfl, S, fun s₂ o2 ho S => ?_⟩
  replace ho : o2.IsDictOf (strKind pw w) [("levels", lv), ("class", cv)] := merged_of ho (by kernel_rfl!)
  with_reducible refine ob_eccl (AD.of P S ho na0) ?_; intro G9 g9 AD9 S
  wtm_at "ya"
  refine v_set S P (by wtm_at "yH") (by wtm_at "ymem") V (.inr ⟨_, rfl⟩) fun s' o' V' hpu => ?_
  replace S := hpu _ (by wtm_at "yput")
  wtm_at "ya"
  exact S.out (.refl _) ⟨lv, cv, ⟨l5, .ref an, ⟨x, d, o', rfl, by wtm_at "yU", rfl, V'⟩, by wtm_at "yU", ⟨an, rfl, by wtm_at "yU"⟩⟩, by wtm_at "yU", by wtm_at "yU"⟩))
end
end -- P8
section -- P9
open PySem.Calls PySem.Spec
noncomputable def rowsOf (n : Nat) : List It := (List.range n).map fun (i : Nat) => It.int ((i : Int) + 1)
theorem nodup_nv {nv cv rv : Value} : ([("names", nv), ("class", cv), ("row.names", rv)] : List (Str × Value)).length ≤ 1000 := by simp
section
variable {w : World} {A : Around} {s : Shared} {G : Heap} {a : Addr} {v : Value} {k : Str} {l : Addr} {at' : Value} {t : Option (List (Str × Value))} {its : List It} {cols : List Vd} {names : List It} {rk : Str} {ri : List It}
theorem c_plain_rows (P : PG w G) (O : Ok A 6) (X : FnAt G a (stm 105)) {n : Nat} {tn : Tok} (hn : n ≤ 100000) : Run w A s G [] a [.int (n : Int) tn] fun G' W' r => NVV w G' W' r ⟨"integer", rowsOf n, none⟩ := unus (by exact trivial : Us (by
  refine Run.enter X P.lim O [("count", .int (n : Int) tn)] (by wtm_at "ybind") (by kernel_rfl!) fun fp s S O => ?_
  with_reducible refine ob_ecl (P.at "integer" 43 (by kernel_rfl!)) ?_; intro a2 g2 X2
  wtm_at "ygo"
  wtm_at "ya"
  refine ⟨kept_type, ?_⟩
  with_reducible refine b_rangelist O.h S (by decide) (by wtm_at "yo") (cast_lt1 hn (by decide)) fun r s' S hr => ?_
  wtm_at "ya"
  refine ⟨kept_type, ?_⟩
  refine hr _ _ fun l xs c s'' hl0 hI S => ?_
  with_reducible refine ob_eccl (S.freeze hl0) ?_; intro G1 g1 e1 S
  wtm_at "ya"
  refine callU S (by wtm_at "yU") (d_integer (by wtm_at "yU") (O.mono (by decide)) (by wtm_at "yU") (its := rowsOf n) ⟨xs, c, e1, ?_⟩ (by simpa [rowsOf] using hn)) fun x d o l5 at5 G5 s' g5 S hd0 hx V I5 T5 => ?_
  · have h1 := hI.1
    refine ⟨by rw [h1]; simp [rowsOf], fun i it v e1 e2 => ?_⟩
    refine ob_el (hI.2 i v e2) ?_; rintro t rfl
    unfold rowsOf at e1
    rw [List.getElem?_map] at e1
    refine ob_ecl (Option.map_eq_some_iff.mp e1) ?_; rintro j e3 rfl
    have : j = i := by
      have := List.getElem?_eq_some_iff.mp e3
      obtain ⟨h, q⟩ := this
      simpa using q.symm
    subst this
    exact ⟨t, by rw [Int.add_comm]⟩
  · wtm_at "ya"
    exact S.out (.refl _) ⟨l5, at5, ⟨x, d, o, rfl, hx, rfl, V⟩, I5, T5⟩))
theorem c_frame_rows (P : PG w G) (O : Ok A 1) (X : FnAt G a (stm 106)) (V : VF w G v ⟨cols, names, ⟨rk, ri, none⟩⟩) (hz : ri.length ≤ 100000) : Run w A s G [] a [v] fun G' W' r => W' = [] ∧ ∃ u, r = .int (ri.length : Nat) u := unus (by exact trivial : Us (by
  refine Run.enter X P.lim O [("df", v)] (by wtm_at "ybind") (by kernel_rfl!) fun fp s S O => ?_
  with_reducible refine ob_eeeeecccccl V.open ?_; intro da lI nv cv rv F D IV VN VC VR
  with_reducible refine ob_eeeeccccl VR.open ?_; intro lr ar xr nr FR hlr AR TR lxr
  wtm_at "ygo"
  wtm_at "yA"
  exact S.out (.refl _) ⟨rfl, _, by rw [lxr]⟩))
theorem c_column_names (P : PG w G) (O : Ok A 5) (X : FnAt G a (stm 107)) (V : VF w G v ⟨cols, names, ⟨rk, ri, none⟩⟩) (hz : names.length ≤ 100000) (ht : txts names) : Run w A s G [] a [v] fun G' W' r => W' = [] ∧ ∃ l, r = .ref l ∧ Its G' names l := unus (by exact trivial : Us (by
  refine Run.enter X P.lim O [("df", v)] (by wtm_at "ybind") (by kernel_rfl!) fun fp s S O => ?_
  with_reducible refine ob_eeeeecccccl V.open ?_; intro da lI nv cv rv F D IV VN VC VR
  with_reducible refine ob_eeeeccccl VN.open ?_; intro ln an xn nn FN hln AN TN lxn
  with_reducible refine ob_ecl (P.at "names_of" 55 (by kernel_rfl!)) ?_; intro a1 g1 X1
  wtm_at "ygo"
  wtm_at "yA"
  refine call0 S X1 (c_names_some (nv := nv) (t := some [("names", nv), ("class", cv), ("row.names", rv)]) P (O.mono (by decide)) X1 (by simp [KOk]) F ⟨da, rfl, D⟩ (by with_unfolding_all rfl) (by with_unfolding_all rfl) FN hln (Nat.le_trans (Nat.le_of_eq lxn) hz)) fun r G1 s' g1 S hp => ?_
  with_reducible refine ob_eecl hp ?_; try clear hp; rintro l' c rfl hl'
  wtm_at "yA"
  with_reducible refine iter_list O.h S (by wtm_at "yU") fun it s' TI => ?_
  with_reducible refine comp_vk TI (Nat.le_trans (Nat.le_of_eq lxn) hz) (by kernel_rfl!) (ItV.mono (f := fun i => names.getD i .na)) (fun C sD Wc i v' G' ρ' s' it d E' hi hP hG hρ S Qe hQe => ?_) fun D G' s' hD hG hL S => ?_
  · have hi' : i < names.length := (Nat.lt_of_lt_of_le hi (Nat.le_of_eq lxn))
    refine ob_el (ht _ (getD_mem hi')) ?_; intro x ex
    have hv := AN.2 i (names.getD i .na) v' (by rw [List.getD_eq_getElem?_getD, List.getElem?_eq_getElem hi']; rfl) hP
    rw [ex] at hv
    refine ob_el hv ?_; try clear hv; rintro tx rfl
    wtm_at "yA"
    exact hQe _ _ _ (Le.rfl) (by rw [ex]; exact ⟨_, rfl⟩) S
  · wtm_at "yA"
    exact S.out (.refl _) ⟨rfl, D, rfl, hL.its2 (by omega) fun i it y e r => by rw [List.getD_eq_getElem?_getD, e] at r; exact r⟩))
theorem c_row_names (P : PG w G) (O : Ok A 5) (X : FnAt G a (stm 108)) (V : VF w G v ⟨cols, names, ⟨rk, ri, none⟩⟩) (hz : ri.length ≤ 100000) (hl : ∀ it ∈ ri, LOk rk it)  :
    Run w A s G [] a [v] fun G' W' r => W' = [] ∧ ∃ l, r = .ref l ∧ Its G' (ri.map labelOf) l := unus (by exact trivial : Us (by
  refine Run.enter X P.lim O [("df", v)] (by wtm_at "ybind") (by kernel_rfl!) fun fp s S O => ?_
  have V' := V
  with_reducible refine ob_eeeeecccccl V.open ?_; intro da lI nv cv rv F D IV VN VC VR
  with_reducible refine ob_ecl (P.at "frame_rows" 106 (by kernel_rfl!)) ?_; intro a1 g1 X1
  with_reducible refine ob_ecl (P.at "label_texts" 54 (by kernel_rfl!)) ?_; intro a2 g2 X2
  wtm_at "ygo"
  wtm_at "yA"
  with_reducible refine call0 S X1 (c_frame_rows P (O.mono (by decide)) X1 V' hz) fun r G1 s' g1 S hp => ?_
  with_reducible refine ob_el hp ?_; try clear hp; rintro u rfl
  wtm_at "yA"
  by_cases h0 : ri.length = 0
  · have e0 : ri = [] := List.length_eq_zero_iff.mp h0
    refine ite_yes (by simp [h0]) ?_
    wtm_at "yA"
    with_reducible refine ob_eccl (S.freeze n0) ?_; intro G2 g2 e2 S
    wtm_at "yqs"
    exact S.out (.refl _) ⟨rfl, _, rfl, by rw [e0]; exact ⟨_, _, e2, .nil⟩⟩
  · refine ite_no (by simpa using h0) ?_
    wtm_at "yA"
    with_reducible refine call0 S (by wtm_at "yU") (c_label_texts (by wtm_at "yU") (O.mono (by decide)) (by wtm_at "yU") hl (by wtm_at "yU") rfl hz) fun r G2 s' g2 S hp => ?_
    with_reducible refine ob_ecl hp ?_; try clear hp; rintro l' rfl I
    wtm_at "yA"
    exact S.out (.refl _) ⟨rfl, _, rfl, I⟩))
end
end -- P9
section -- P10
open PySem.Calls PySem.Spec
noncomputable def NoNm (d : Vd) : Prop := KOk d.k ∧ attGet d.t "dim" = .none ∧ attGet d.t "names" = .none
noncomputable def keptV (d : Vd) : Vd := ⟨d.k, d.its, keptA d.t⟩
section
variable {w : World} {A : Around} {s : Shared} {G : Heap} {a : Addr} {v : Value} {k : Str} {l : Addr} {at' : Value} {t : Option (List (Str × Value))} {its : List It} {cols : List Vd} {names : List It} {rk : Str} {ri : List It}
theorem c_check_row_labels {K : Type} [DecidableEq K] {knd : KeyKind pw w K} {ks : List K} (P : PG w G) (O : Ok A 1) (X : FnAt G a (stm 116)) (F : FV G v k l at') {xs : List Value} {n : Nat} (hl : G.get? l = some (lst xs n)) (hx : xs.length = ks.length)
    (hk : ∀ (i : Nat) k v, ks[i]? = some k → xs[i]? = some v → knd.is k v = true ∧ (v == .none) = false) (nd : ks.Nodup) (hz : ks.length ≤ 100000) {u : Tok} :
    Run w A s G [] a [v, .int (ks.length : Nat) u] fun G' W' r => W' = [] ∧ r = .none := unus (by exact trivial : Us (by
  refine Run.enter X P.lim O [("labels", v), ("rows", .int (ks.length : Nat) u)] (by wtm_at "ybind") (by kernel_rfl!) fun fp s S O => ?_
  wtm_at "ygo"
  wtm_at "yA"
  refine ite_no (by simp [hx]) ?_
  wtm_at "yA"
  with_reducible refine iter_list O.h S (by wtm_at "yU") fun it s' TI => ?_
  refine for_it TI (fun i G' mu' ρ' => (∃ o kvs, mu' = [(dn, o)] ∧ o.IsDictOf knd kvs ∧ kvs.map (·.1) = ks.take i) ∧ ρ' "seen" = some (.ref dn)) ⟨⟨_, [], rfl, dict_nil _, rfl⟩, by wtm_at "yinv"⟩
    (fun i v' G' mu' ρ' s' it E' hi hP hG hI S Qb hQb => ?_) fun G' mu' ρ' s' hG hI S => ?_
  · with_reducible refine ob_cl hI ?_; try clear hI; rintro ⟨o, kvs, rfl, ho, e⟩ r1
    have hi' : i < ks.length := (Nat.lt_of_lt_of_le hi (Nat.le_of_eq hx))
    with_reducible refine ob_cl (hk i ks[i] v' (by simp [hi']) hP) ?_; intro h1 h2
    have hle : kvs.length ≤ 100000 := by have := congrArg List.length e; simp at this; omega
    have hv : valueAt kvs ks[i] = none := by
      refine valueAt_none_of_not_mem fun hm => ?_
      rw [e] at hm
      refine ob_el (List.mem_iff_getElem?.mp hm) ?_; intro j hj
      rw [List.getElem?_take] at hj
      split at hj
      · have := (List.getElem?_inj (by wtm_at "yo") nd).mp (hj.trans (List.getElem?_eq_getElem hi').symm)
        omega
      · cases hj
    wtm_at "yA"
    rw [h2]
    wtm_at "yA"
    refine d_in S (S.has (by wtm_at "ymem")) ho (S.neSys P (by wtm_at "ymem")) h1 fun s' S => ?_
    rw [hv]
    wtm_at "yA"
    refine d_set S (by wtm_at "ymem") ho h1 (by rw [sizeLine_eq]; omega) fun s' o' ho2 hpu => ?_
    replace S := hpu _ (by wtm_at "yput")
    rw [stored_absent hv] at ho2
    wtm_at "yA"
    refine Cont.go hQb rfl (Le.rfl) (⟨⟨_, _, rfl, ho2, ?_⟩, by wtm_at "yinv"⟩) S
    rw [List.map_append, e, List.take_add_one, List.getElem?_eq_getElem hi']; rfl
  · refine ob_cl hI ?_; try clear hI; rintro ⟨o, kvs, rfl, ho, e⟩ r1
    wtm_at "yA"
    exact S.out (List.nil_sublist _) ⟨rfl, rfl⟩))
theorem c_names_as_rows (P : PG w G) (O : Ok A 6) (X : FnAt G a (stm 114)) {lc : Addr} (V : VVs w G cols lc) (hc : ∀ d ∈ cols, NoNm d) {rv : Value} :
    Run w A s G [] a [.ref lc, rv] fun G' W' r => W' = [] ∧ r = .none := unus (by exact trivial : Us (by
  refine Run.enter X P.lim O [("columns", .ref lc), ("rows", rv)] (by wtm_at "ybind") (by kernel_rfl!) fun fp s S O => ?_
  refine ob_eecl V ?_; try clear V; intro vs n hl AV
  with_reducible refine ob_ecl (P.at "names_of" 55 (by kernel_rfl!)) ?_; intro a1 g1 X1
  wtm_at "ygo"
  wtm_at "yA"
  with_reducible refine iter_list O.h S (by wtm_at "yU") fun it s' TI => ?_
  refine for_it TI (fun i G' mu' ρ' => mu' = []) rfl (fun i v' G' mu' ρ' s' it E' hi hP hG hI S Qb hQb => ?_) fun G' mu' ρ' s' hG hI S => ?_
  · obtain rfl := hI
    with_reducible refine ob_ecl (AV.at hP) ?_; rintro ⟨k, its, t⟩ e1 hv
    with_reducible refine ob_eeeeccccl hv.open ?_; intro l' at2 xs n F hl AV T lx
    refine ob_ccl (hc _ (List.mem_of_getElem? e1)) ?_; intro h1 h2 h3
    wtm_at "yA"
    refine call0 S (by wtm_at "yU") (c_names_none (by wtm_at "yU") (O.mono (by decide)) (by wtm_at "yU") h1 (by wtm_at "yU") (by wtm_at "yU") h2 h3) fun r G2 s' g2 S hp => ?_
    obtain rfl := hp
    wtm_at "yA"
    exact Cont.go hQb rfl (by assumption) (rfl) S
  · obtain rfl := hI
    wtm_at "yA"
    exact S.out (.refl _) ⟨rfl, rfl⟩))
theorem c_recycled (P : PG w G) (O : Ok A 6) (X : FnAt G a (stm 113)) {lc : Addr} (V : VVs w G cols lc) {R : Nat} {u : Tok} (hc : ∀ d ∈ cols, d.its.length = R ∧ tSmall d.t) (hz : cols.length ≤ 1000) (hR : R ≤ 100000) :
    Run w A s G [] a [.ref lc, .int (R : Nat) u] fun G' W' r => ∃ lm vs n, r = .ref lm ∧ G'.get? lm = some (lst vs n) ∧ NVs w G' (cols.map keptV) W' vs := unus (by exact trivial : Us (by
  refine Run.enter X P.lim O [("columns", .ref lc), ("rows", .int (R : Nat) u)] (by wtm_at "ybind") (by kernel_rfl!) fun fp s S O => ?_
  refine ob_eecl V ?_; try clear V; intro vs n hl AV
  have lvs := AV.1
  with_reducible refine ob_ecl (P.at "kept_attrs" 109 (by kernel_rfl!)) ?_; intro a1 g1 X1
  wtm_at "ygo"
  wtm_at "yA"
  with_reducible refine iter_list O.h S (by wtm_at "yU") fun it s' TI => ?_
  refine for_it TI (fun i G' mu' ρ' => (∃ zs m es, mu' = (ln, lst zs m) :: es ∧ NVs w G' ((cols.take i).map keptV) es zs ∧ ∀ e ∈ es, True) ∧ ρ' "made" = some (.ref ln) ∧ ∃ t, ρ' "rows" = some (.int (R : Nat) t)) ⟨⟨[], 0, [], rfl, .nil, by simp⟩, by wtm_at "yinv", by wtm_at "yinv"⟩
    (fun i v' G' mu' ρ' s' it E' hi hP hG hI S Qb hQb => ?_) fun G' mu' ρ' s' hG hI S => ?_
  · with_reducible refine ob_ccel hI ?_; try clear hI; rintro ⟨zs, m, es, rfl, NZ, _⟩ r1 tr r2
    with_reducible refine ob_ecl (AV.at hP) ?_; rintro ⟨k, its, t⟩ e1 hv
    with_reducible refine ob_cl (hc _ (List.mem_of_getElem? e1)) ?_; intro h1 h2
    with_reducible refine ob_eeeeccccl hv.open ?_; intro l' at2 xs n F hl AX T lx
    have hzl : zs.length ≤ 100000 := by have := NZ.lv; simp at this; omega
    dsimp only at h1 h2
    wtm_at "yA"
    wtm_at "yap1"
    refine call0 S (by wtm_at "yU") (c_kept_attrs (by wtm_at "yU") (O.mono (by decide)) (by wtm_at "yU") (by wtm_at "yU") (by wtm_at "yU") h2) fun r G3 s' g3 S T3 => ?_
    wtm_at "yA"
    have hn : r = .none ∨ ∃ a, r = .ref a := by
      cases hkt : keptA t with
      | none => rw [hkt] at T3; exact .inl T3
      | some kvs => rw [hkt] at T3; exact .inr ⟨_, T3.choose_spec.1⟩
    refine ⟨kept_vec P S.le0, new_vec3 (vs := []) P (O.mono (by decide)) hn S fun x d o G4 s' g4 hx hd V S => ?_⟩
    wtm_at "yA"
    wtm_at "yap2"
    have S := S.perm (mu' := it :: (ln, lst (zs ++ [.ref x]) _) :: (es ++ [(d, o)])) (List.perm_append_singleton (d, o) (it :: (ln, lst (zs ++ [.ref x]) _) :: es)).symm
    refine Cont.go hQb rfl (g3.trans g4) (⟨⟨_, _, _, rfl, ?_, by simp⟩, by wtm_at "yinv", by wtm_at "yinv"⟩) S
    rw [List.take_add_one, e1]
    simp only [Option.toList_some, List.map_append, List.map_cons, List.map_nil]
    exact (NZ.up (g3.trans g4)).snoc ⟨l', r, ⟨x, d, o, rfl, hx, rfl, V⟩, ⟨xs, n, by wtm_at "yU", (show AllV G4 its xs by wtm_at "yU")⟩, (show ATT w G4 r (keptA t) by wtm_at "yU")⟩
  · with_reducible refine ob_ccel hI ?_; try clear hI; rintro ⟨zs, m, es, rfl, NZ, _⟩ r1 tr r2
    rw [lvs, List.take_length] at NZ
    with_reducible refine ob_eccl (S.freeze n0) ?_; intro G2 g2 e2 S
    wtm_at "yA"
    exact S.out (.refl _) ⟨ln, zs, m, rfl, e2, NZ.up g2⟩))
/-- a frame whose columns may turn still -/
noncomputable def NFr0 (w : World) (G : Heap) (W : List (Addr × Obj)) (v : Value) (f : Frm') : Prop := ∃ x d o da oa lI nv cv rv vs n es, v = .ref x ∧ G.get? x = some (vobj d) ∧ W = (d, o) :: (da, oa) :: es ∧ VD o "list" lI (.ref da) ∧
  oa.IsDictOf (strKind pw w) [("names", nv), ("class", cv), ("row.names", rv)] ∧ G.get? lI = some (lst vs n) ∧ NVs w G f.cols es vs ∧ VV w G nv ⟨"character", f.names, none⟩ ∧ VV w G cv ⟨"character", [.txt "data.frame"], none⟩ ∧ VV w G rv f.rows
theorem c_new_frame (P : PG w G) (O : Ok A 7) (X : FnAt G a (stm 104)) {lc : Addr} {vs : List Value} {n : Nat} {es : List (Addr × Obj)} (hl : G.get? lc = some (lst vs n)) (N : NVs w G cols es vs) {lnm : Addr} (hn : Its G names lnm) {rv : Value} {rd : Vd} (hr : VV w G rv rd) (hz : names.length ≤ 1000) (hz2 : cols.length ≤ 1000) :
    Run w A s G es a [.ref lc, .ref lnm, rv] fun G' W' r => NFr0 w G' W' r ⟨cols, names, rd⟩ := unus (by exact trivial : Us (by
  refine Run.enter X P.lim O [("columns", .ref lc), ("names", .ref lnm), ("row_labels", rv)] (by wtm_at "ybind") (by kernel_rfl!) fun fp s S O => ?_
  with_reducible refine ob_ecl (P.at "share" 49 (by kernel_rfl!)) ?_; intro a1 g1 X1
  with_reducible refine ob_ecl (P.at "character" 44 (by kernel_rfl!)) ?_; intro a2 g2 X2
  have lvs := N.lv
  wtm_at "ygo"
  wtm_at "yA"
  with_reducible refine iter_list O.h S (by wtm_at "yU") fun it s' TI => ?_
  refine comp_v TI (Nat.le_trans (Nat.le_trans (Nat.le_of_eq lvs) hz2) (by decide)) (by kernel_rfl!) (R := fun G i y => vs[i]? = some y) (M := fun i G mu => NVs w G cols mu vs) (fun _ _ _ _ _ h => h) N (fun C sD Wc i v' G' mu' ρ' s' it d E' hi hP hG hM hρ S Qe hQe => ?_) fun D G2 es' s' hD hG hL hM S => ?_
  · wtm_at "yA"
    have hi' : i < mu'.length := by have := hM.le; omega
    have hic : i < cols.length := (Nat.lt_of_lt_of_le hi (Nat.le_of_eq lvs))
    refine ob_eeccl (hM.at' i cols[i] v' mu'[i] (by simp [hic]) hP (by simp [hi'])) ?_; rintro l' at2 ⟨x, dd, o, rfl, hx, he, V⟩ I T
    have he : mu'[i] = (dd, o) := by simpa using he
    have pm := perm_front hi' [it, d] (dd, o)
    rw [← he, List.set_getElem_self, he] at pm
    have S := S.perm pm
    refine St.call (W := [(dd, o)]) (Rs := [it, d] ++ mu'.eraseIdx i) S (by wtm_at "yU") (c_share (by wtm_at "yU") (O.mono (by decide)) (by wtm_at "yU") (by wtm_at "yU") V) fun r G3 W3 s' g3 S hp _ => ?_
    with_reducible refine ob_cecl hp ?_; try clear hp; rintro rfl o' V' rfl
    have S := S.perm (perm_front hi' [it, d] (dd, o')).symm
    exact hQe _ _ _ _ (g3) (hP) ((hM.up g3).set (by simp [hic]) hP ⟨l', at2, ⟨x, dd, o', rfl, g3 _ _ hx, rfl, V'⟩, I.up g3, T.up g3⟩) S
  · with_reducible refine ob_ecl hM ?_; try clear hM; intro G1 g1 N'
    replace N' := N'.up g1
    clear g1
    refine ob_eeccl hL ?_; try clear hL; intro ys c hD2 ly hy
    have ey : ys = vs := by
      apply List.ext_getElem (ly)
      intro i h1 h2
      have := hy i ys[i] (by simp [h1])
      dsimp only at this
      rw [List.getElem?_eq_getElem h2] at this
      exact (Option.some.inj this).symm
    subst ey
    wtm_at "yA"
    refine ⟨kept_vec P S.le0, new_vec2 (vs := []) P (O.mono (by decide)) S fun x d o G4 s' g4 hx hd V S => ?_⟩
    wtm_at "yA"
    wtm_at "ydict"
    with_reducible refine callV S (by wtm_at "yU") (d_character (by wtm_at "yU") (O.mono (by decide)) (by wtm_at "yU") (its := names) (by wtm_at "yU") (Nat.le_trans hz (by decide))) fun nv G6 s' g6 S V6 => ?_
    wtm_at "yA"
    with_reducible refine ob_eccl (S.freeze n0) ?_; intro G7 g7 e7 S
    refine callV S (by wtm_at "yU") (d_character (by wtm_at "yU") (O.mono (by decide)) (by wtm_at "yU") (its := [.txt "data.frame"]) ⟨_, _, e7, .cons ⟨_, rfl⟩ .nil⟩ (by simp)) fun cv G8 s' g8 S V8 => ?_
    wtm_at "yA"
    refine ⟨strPairs _, _, _, carries_strPairs _ _ _ rfl, S, fun s₂ o2 ho S => ?_⟩
    replace ho : o2.IsDictOf (strKind pw w) [("names", nv), ("class", cv), ("row.names", rv)] := merged_of ho (by kernel_rfl!)
    wtm_at "yA"
    refine v_set S P (by wtm_at "yH") (by wtm_at "ymem") V (.inr ⟨_, rfl⟩) fun s' o' V' hpu => ?_
    replace S := hpu _ (by wtm_at "yput")
    wtm_at "yA"
    have S := S.perm (List.Perm.swap ..)
    wtm_at "yqs"
    exact S.out (.refl _) ⟨x, d, o', an, o2, D, nv, cv, rv, ys, c, es', rfl, by wtm_at "yU", rfl, V', ho, by wtm_at "yU", (N'.up g4).up (g6.trans (g7.trans g8)), by wtm_at "yU", by wtm_at "yU", by wtm_at "yU"⟩))
end
end -- P10
section -- P11
open PySem.Calls PySem.Spec
theorem rows_nodup (n : Nat) : ((List.range n).map fun (i : Nat) => (i : Int) + 1).Nodup := by
  rw [List.nodup_iff_pairwise_ne, List.pairwise_map]
  exact List.Pairwise.imp (fun h => by wtm_at "yo") List.nodup_range
section
variable {w : World} {A : Around} {s : Shared} {G : Heap} {a : Addr} {v : Value} {k : Str} {l : Addr} {at' : Value} {t : Option (List (Str × Value))} {its : List It} {cols : List Vd} {names : List It} {rk : Str} {ri : List It} {rd : Vd}
theorem d_check_ints (P : PG w G) (O : Ok A 1) (X : FnAt G a (stm 116)) {R : Nat} (V : VV w G v ⟨"integer", rowsOf R, none⟩) (hz : R ≤ 100000) {u : Tok} : Run w A s G [] a [v, .int (R : Nat) u] fun G' W' r => W' = [] ∧ r = .none := unus (by exact trivial : Us (by
  refine ob_eeeeccccl V.open ?_; intro l at' xs n F hl AV T lx
  have e : ((List.range R).map fun (i : Nat) => (i : Int) + 1).length = R := by simp
  have := c_check_row_labels (knd := intKind pw w) (ks := (List.range R).map fun (i : Nat) => (i : Int) + 1) (u := u) (s := s) P O X F hl (by rw [lx]; simp [rowsOf]) (fun i k v h1 h2 => by
    rw [List.getElem?_map] at h1
    with_reducible refine ob_ecl (Option.map_eq_some_iff.mp h1) ?_; rintro j e1 rfl
    refine ob_el (AV.2 i (.int ((j : Int) + 1)) v (by unfold rowsOf; rw [List.getElem?_map, e1]; rfl) h2) ?_; rintro t rfl
    exact ⟨intKind_is pw w _ _, rfl⟩) (rows_nodup R) (by rw [e]; exact hz)
  rw [e] at this
  exact this))
theorem d_check_txts (P : PG w G) (O : Ok A 1) (X : FnAt G a (stm 116)) (V : VV w G v ⟨"character", ri, none⟩) (ht : txts ri) (nd : ri.Nodup) (hz : ri.length ≤ 100000) {u : Tok} : Run w A s G [] a [v, .int (ri.length : Nat) u] fun G' W' r => W' = [] ∧ r = .none := unus (by exact trivial : Us (by
  refine ob_eeeeccccl V.open ?_; intro l at' xs n F hl AV T lx
  let g : It → Str := fun it => match it with | .txt x => x | _ => ""
  have e : (ri.map g).length = ri.length := by simp
  have hg : ∀ i ∈ ri, ∀ j ∈ ri, g i = g j → i = j := fun i hi j hj q => by
    refine ob_el (ht i hi) ?_; rintro x rfl
    refine ob_el (ht j hj) ?_; rintro y rfl
    have : x = y := q
    rw [this]
  have := c_check_row_labels (knd := strKind pw w) (ks := ri.map g) (u := u) (s := s) P O X F hl (by rw [lx]; simp) (fun i k v h1 h2 => by
    rw [List.getElem?_map] at h1
    with_reducible refine ob_ecl (Option.map_eq_some_iff.mp h1) ?_; rintro j e1 rfl
    refine ob_el (ht j (List.mem_of_getElem? e1)) ?_; rintro x rfl
    refine ob_el (AV.2 i (.txt x) v e1 h2) ?_; rintro t rfl
    exact ⟨strKind_is pw w _ _, rfl⟩) (by
      rw [List.nodup_iff_pairwise_ne, List.pairwise_map]
      refine List.Pairwise.imp_of_mem (fun {a b} ha hb h q => ?_) nd
      exact h (hg a ha b hb q)) (by rw [e]; exact hz)
  rw [e] at this
  exact this))
theorem call_new_frame {E : Value → Shared → Prop} {s0 s : Shared} {G0 G : Heap} {W0 : List Addr} {env : Env} {ρ : Str → Option Value} {Q : Value → Shared → Prop} {a : Addr} (P : PG w G) (O : Ok A 7) (X : FnAt G a (stm 104)) {lc : Addr} {vs : List Value} {n : Nat} {es : List (Addr × Obj)}
    (S : St s0 G0 W0 G es env ρ s) (h0 : ∀ e ∈ es, s0.heap.get? e.1 = none) (hl : G.get? lc = some (lst vs n)) (N : NVs w G cols es vs) {lnm : Addr} (hn : Its G names lnm) {rv : Value} (hr : VV w G rv rd) (hz : names.length ≤ 1000) (hz2 : cols.length ≤ 1000)
    (h : ∀ v G' W' s', Le G G' → NFr w G' W' v ⟨cols, names, rd⟩ → (∀ e ∈ W', s0.heap.get? e.1 = none) → St s0 G0 W0 G' W' env ρ s' → Q v s') : Kept (.ref a) s ∧ wpAny (model pw w) A (call (.ref a) [.ref lc, .ref lnm, rv]) Q E s := unus (by exact trivial : Us (by
  have S : St s0 G0 W0 G (es ++ []) env ρ s := by rw [List.append_nil]; exact S
  refine St.call (W := es) S X (c_new_frame P O X hl N hn hr hz hz2) fun r G1 W1 s' g1 S hp hn1 => ?_
  refine ob_eeeeeeeeeeeecccccccccl hp ?_; try clear hp; rintro x d o da oa lI nv cv rv vs' n' es' rfl hx rfl V ho hI N' a1 a2 a3
  have f0 : ∀ e ∈ (d, o) :: (da, oa) :: es', s0.heap.get? e.1 = none := fun e he => by
    rcases hn1 e he with q | q
    · with_reducible refine ob_ecl (List.mem_map.mp q) ?_; intro e' h1 h2
      rw [← h2]; exact h0 e' h1
    · exact q
  have S : St s0 G0 W0 G1 (es' ++ [(d, o), (da, oa)]) env ρ s' := S.perm (by
    rw [List.append_nil]
    exact (List.perm_append_comm (l₁ := [(d, o), (da, oa)]) (l₂ := es')))
  refine ob_eccl (freezeAll S fun e he => f0 e (by simp [he])) ?_; intro G2 g2 e2 S
  exact h _ G2 _ s' (g1.trans g2) ⟨x, d, o, da, oa, lI, nv, cv, rv, rfl, g2 _ _ hx, rfl, V, ho, ⟨vs', n', g2 _ _ hI, N'.still g2 e2⟩, a1.up g2, a2.up g2, a3.up g2⟩ (fun e he => f0 e (by
    rcases List.mem_cons.mp he with rfl | he
    · simp
    · rcases List.mem_cons.mp he with rfl | he
      · simp
      · cases he)) S))
theorem c_make_frame (P : PG w G) (O : Ok A 9) (X : FnAt G a (stm 115)) {lc : Addr} (V : VVs w G cols lc) {R : Nat} (hc : ∀ d ∈ cols, d.its.length = R ∧ tSmall d.t ∧ NoNm d) (hne : cols ≠ []) (hz : cols.length ≤ 1000) (hR : R ≤ 100000) {lnm : Addr} (hn : Its G names lnm) (hzn : names.length ≤ 1000) {rv : Value}
    (hr : (rv = .none ∧ rd = ⟨"integer", rowsOf R, none⟩) ∨ ∃ ri, rd = ⟨"character", ri, none⟩ ∧ VV w G rv ⟨"character", ri, none⟩ ∧ txts ri ∧ ri.Nodup ∧ ri.length = R) :
    Run w A s G [] a [.ref lc, .ref lnm, rv] fun G' W' r => NFr w G' W' r ⟨cols.map keptV, names, rd⟩ := unus (by exact trivial : Us (by
  refine Run.enter X P.lim O [("columns", .ref lc), ("names", .ref lnm), ("row_labels", rv)] (by wtm_at "ybind") (by kernel_rfl!) fun fp s S O => ?_
  have V' := V
  refine ob_eecl V' ?_; try clear V'; intro vs n hl AV
  have lvs := AV.1
  have hp : 0 < cols.length := List.length_pos_iff.mpr hne
  with_reducible refine ob_ecl (P.at "recycled_columns" 113 (by kernel_rfl!)) ?_; intro a1 g1 X1
  with_reducible refine ob_ecl (P.at "names_as_rows" 114 (by kernel_rfl!)) ?_; intro a2 g2 X2
  with_reducible refine ob_ecl (P.at "plain_rows" 105 (by kernel_rfl!)) ?_; intro a3 g3 X3
  with_reducible refine ob_ecl (P.at "check_row_labels" 116 (by kernel_rfl!)) ?_; intro a4 g4 X4
  with_reducible refine ob_ecl (P.at "new_frame" 104 (by kernel_rfl!)) ?_; intro a5 g5 X5
  wtm_at "ygo"
  wtm_at "yA"
  with_reducible refine iter_list O.h S (by wtm_at "yU") fun it s' TI => ?_
  refine for_it TI (fun i G' mu' ρ' => mu' = [] ∧ ρ' "columns" = some (.ref lc) ∧ ρ' "names" = some (.ref lnm) ∧ ρ' "row_labels" = some rv ∧ ∃ t, ρ' "rows" = some (.int (if i = 0 then 0 else (R : Int)) t)) ⟨rfl, by wtm_at "yinv", by wtm_at "yinv", by wtm_at "yinv", _, by rw [if_pos rfl]; wtm_at "yinv"⟩
    (fun i v' G' mu' ρ' s' it E' hi hP hG hI S Qb hQb => ?_) fun G' mu' ρ' s' hG hI S => ?_
  · with_reducible refine ob_ccccel hI ?_; try clear hI; rintro rfl r1 r2 r3 tr r4
    with_reducible refine ob_ecl (AV.at hP) ?_; rintro ⟨k, its, t⟩ e1 hv
    with_reducible refine ob_cl (hc _ (List.mem_of_getElem? e1)) ?_; intro h1 h2
    with_reducible refine ob_eeeeccccl hv.open ?_; intro l' at2 xs n F hl AX T lx
    dsimp only at h1
    wtm_at "yA"
    refine ⟨kept_builtin, b_max O.h S fun t s' S => ?_⟩
    wtm_at "yA"
    refine Cont.go hQb rfl (Le.rfl) (⟨rfl, by wtm_at "yinv", by wtm_at "yinv", by wtm_at "yinv", ?_⟩) S
    have e : max (if i = 0 then 0 else (R : Int)) (xs.length : Int) = if i + 1 = 0 then 0 else (R : Int) := by
      rw [if_neg (by omega : ¬ i + 1 = 0)]
      split <;> omega
    rw [← e]
    exact ⟨_, by wtm_at "yrho"⟩
  · with_reducible refine ob_ccccel hI ?_; try clear hI; rintro rfl r1 r2 r3 tr r4
    rw [if_neg (by omega : ¬ vs.length = 0)] at r4
    rcases hr with ⟨hrv, hrd⟩ | ⟨ri, hrd, VR, ht, nd, hrl⟩
    · rw [hrv] at r3
      wtm_at "yA"
      refine St.call (W := []) S (by wtm_at "yU") (c_recycled (by wtm_at "yU") (O.mono (by decide)) (by wtm_at "yU") (cols := cols) (by wtm_at "yU") (fun d hd => ⟨(hc d hd).1, (hc d hd).2.1⟩) hz hR) fun r G3 es s' g3 S hp hn0 => ?_
      with_reducible refine ob_eeeccl hp ?_; try clear hp; rintro lm zs m rfl hlm N
      replace S := nila S
      have h0 : ∀ e ∈ es, _ := fun e he => (hn0 e he).resolve_left (by simp)
      wtm_at "yA"
      with_reducible refine call0 S (by wtm_at "yU") (c_names_as_rows (by wtm_at "yU") (O.mono (by decide)) (by wtm_at "yU") (cols := cols) (by wtm_at "yU") fun d hd => (hc d hd).2.2) fun r G4 s' g4 S hp => ?_
      obtain rfl := hp
      wtm_at "yA"
      with_reducible refine callV S (by wtm_at "yU") (c_plain_rows (by wtm_at "yU") (O.mono (by decide)) (by wtm_at "yU") hR) fun rv G5 s' g5 S VR => ?_
      wtm_at "yA"
      with_reducible refine call0 S (by wtm_at "yU") (d_check_ints (by wtm_at "yU") (O.mono (by decide)) (by wtm_at "yU") VR hR) fun r G6 s' g6 S hp => ?_
      obtain rfl := hp
      wtm_at "yA"
      refine call_new_frame (by wtm_at "yU") (O.mono (by decide)) (by wtm_at "yU") S h0 (by wtm_at "yU") (N.up (by wtm_at "yL")) (names := names) (by wtm_at "yU") (rd := rd) (by rw [hrd]; wtm_at "yU") hzn (by simpa using hz) fun r G7 W7 s' g7 hF _ S => ?_
      wtm_at "yA"
      exact S.out (.refl _) hF
    · have hrn : (rv == .none) = false := by (refine ob_eecl VR ?_; try clear VR; rintro _ _ ⟨_, _, _, e, _⟩ _); rw [e]; rfl
      subst hrl
      wtm_at "yA"
      rw [hrn]
      wtm_at "yA"
      refine St.call (W := []) S (by wtm_at "yU") (c_recycled (by wtm_at "yU") (O.mono (by decide)) (by wtm_at "yU") (cols := cols) (by wtm_at "yU") (fun d hd => ⟨(hc d hd).1, (hc d hd).2.1⟩) hz hR) fun r G3 es s' g3 S hp hn0 => ?_
      with_reducible refine ob_eeeccl hp ?_; try clear hp; rintro lm zs m rfl hlm N
      replace S := nila S
      have h0 : ∀ e ∈ es, _ := fun e he => (hn0 e he).resolve_left (by simp)
      wtm_at "yA"
      rw [hrn]
      wtm_at "yA"
      with_reducible refine call0 S (by wtm_at "yU") (d_check_txts (by wtm_at "yU") (O.mono (by decide)) (by wtm_at "yU") (ri := ri) (by wtm_at "yU") ht nd hR) fun r G6 s' g6 S hp => ?_
      obtain rfl := hp
      wtm_at "yA"
      refine call_new_frame (by wtm_at "yU") (O.mono (by decide)) (by wtm_at "yU") S h0 (by wtm_at "yU") (N.up (by wtm_at "yL")) (names := names) (by wtm_at "yU") (rd := rd) (by rw [hrd]; wtm_at "yU") hzn (by simpa using hz) fun r G7 W7 s' g7 hF _ S => ?_
      wtm_at "yA"
      exact S.out (.refl _) hF))
end
end -- P11
section -- P12
open PySem.Calls PySem.Spec
section
variable {w : World} {A : Around} {s : Shared} {G : Heap} {a : Addr} {v : Value} {k : Str} {l : Addr} {at' : Value} {t : Option (List (Str × Value))} {its : List It} {cols : List Vd} {names : List It} {rk : Str} {ri : List It} {rd : Vd}
theorem c_complete_rows (P : PG w G) (O : Ok A 3) (X : FnAt G a (stm 122)) (V : VF w G v ⟨cols, names, ⟨rk, ri, none⟩⟩) {R : Nat} (hr : ri.length = R) (hR : R ≤ 1000) (hc : ∀ d ∈ cols, ColOk R d) (hz : cols.length ≤ 1000) :
    Run w A s G [] a [v] fun G' W' r => W' = [] ∧ ∃ l, r = .ref l ∧ Its G' (flags cols R) l := unus (by exact trivial : Us (by
  refine Run.enter X P.lim O [("df", v)] (by wtm_at "ybind") (by kernel_rfl!) fun fp s S O => ?_
  have V' := V
  refine ob_eeeeecccccl V'.open ?_; rintro da lI nv cv rv F D ⟨vs, n, hlI, AV⟩ VN VC VR
  have lvs := AV.1
  with_reducible refine ob_ecl (P.at "frame_rows" 106 (by kernel_rfl!)) ?_; intro a1 g1 X1
  with_reducible refine ob_ecl (P.at "is_lacking" 120 (by kernel_rfl!)) ?_; intro a2 g2 X2
  wtm_at "ygo"
  wtm_at "yA"
  with_reducible refine call0 S (by wtm_at "yU") (c_frame_rows (by wtm_at "yU") (O.mono (by decide)) (by wtm_at "yU") V (Nat.le_trans (Nat.le_trans (Nat.le_of_eq hr) hR) (by decide))) fun r G1 s' g1 S hp => ?_
  with_reducible refine ob_el hp ?_; try clear hp; rintro u rfl
  rw [hr]
  wtm_at "yA"
  with_reducible refine w_mullist S (by wtm_at "yH") (Int.natCast_nonneg _) (by simp; omega) (fun lf s' nf S => ?_) (cast_lt hR (by decide))
  rw [Int.toNat_natCast, flat_rep] at S
  replace S := keep1 S
  wtm_at "yA"
  with_reducible refine iter_list O.h S (by wtm_at "yU") fun it s' TI => ?_
  refine for_it TI (fun i G' mu' ρ' => (∃ zs m, mu' = [(lf, lst zs m)] ∧ AllV G' (flags (cols.take i) R) zs) ∧ ρ' "flags" = some (.ref lf)) ⟨⟨_, _, rfl, flags_start⟩, by wtm_at "yinv"⟩
    (fun i v' G' mu' ρ' s' it E' hi hP hG hI S Qb hQb => ?_) fun G' mu' ρ' s' hG hI S => ?_
  · with_reducible refine ob_cl hI ?_; try clear hI; rintro ⟨zs, m, rfl, AZ⟩ r1
    have lz : zs.length = R := by have := AZ.1; simpa [flags] using this
    with_reducible refine ob_ecl (AV.at hP) ?_; rintro ⟨k, its, t⟩ e1 hv
    have hco := hc _ (List.mem_of_getElem? e1)
    with_reducible refine ob_eeeeccccl hv.open ?_; intro l' at2 xs n F hl AX T lx
    have h1 : its.length = R := hco.l
    wtm_at "yA"
    wtm_at "yrange"
    rw [← flagsI_zero] at AZ
    have hG2 := hG
    refine for_it TI (fun j G2 mu' ρ' => (∃ zs m, mu' = [it, (lf, lst zs m)] ∧ AllV G2 (flagsI cols i j R) zs) ∧ ρ' "flags" = some (.ref lf) ∧ ρ' "column" = some v') ⟨⟨_, _, rfl, AZ⟩, by wtm_at "yinv", by wtm_at "yinv"⟩
      (fun j v2 G2 mu' ρ' s' it2 E' hj hP2 hG hI S Qb hQb => ?_) fun G2 mu' ρ' s' hG hI S => ?_
    · with_reducible refine ob_ccl hI ?_; try clear hI; rintro ⟨zs, m, rfl, AZ⟩ r1 r2
      with_reducible refine ob_el hP2 ?_; try clear hP2; rintro tj rfl
      have lz2 : zs.length = R := by have := AZ.1; simpa [flagsI] using this
      have hj' : j < its.length := (Nat.lt_of_lt_of_le hj (Nat.le_trans (Nat.le_of_eq lz) (Nat.le_of_eq h1.symm)))
      have hx : xs[((j : Int)).toNat]? = some (xs[j]'(Nat.lt_of_lt_of_le hj' (Nat.le_of_eq lx.symm))) := by simp
      have hv := AX.2 j (its.getD j .na) (xs[j]'(Nat.lt_of_lt_of_le hj' (Nat.le_of_eq lx.symm))) (by rw [List.getD_eq_getElem?_getD, List.getElem?_eq_getElem hj']; rfl) (by simp)
      have st := flagsI_step (j := j) e1 (by wtm_at "yo" : j < R)
      wtm_at "yA"
      with_reducible refine call0 S (by wtm_at "yU") (c_is_lacking (it := its.getD j .na) (by wtm_at "yU") (O.mono (by decide)) (by wtm_at "yU") hco.k (by wtm_at "yU") fun e => hco.f e _ (getD_mem hj')) fun r G3 s' g3 S hp => ?_
      obtain rfl := hp
      wtm_at "yA"
      have hl9 : (its.getD j .na == It.na || k == Str.ofString "double" && its.getD j .na == It.frac 0 0) = lackIt k (its.getD j .na) := rfl
      rw [hl9]
      by_cases hb : lackIt k (its.getD j .na) = true
      · rw [if_pos hb] at st
        refine ite_yes hb ?_
        wtm_at "yA"
        with_reducible refine set_list S (by wtm_at "ymem") (Int.natCast_nonneg _) (by wtm_at "yo") (Nat.lt_of_le_of_lt (Nat.le_trans (Nat.le_of_eq lz2) hR) (by decide)) fun s' hpu => ?_
        replace S := hpu _ (by wtm_at "yput")
        wtm_at "yA"
        exact Cont.go hQb rfl (g3) (⟨⟨_, _, rfl, by rw [st]; exact (AZ.up g3).set ⟨_, rfl⟩⟩, by wtm_at "yinv", by wtm_at "yinv"⟩) S
      · rw [if_neg hb] at st
        refine ite_no hb ?_
        wtm_at "yA"
        exact Cont.go hQb rfl (g3) (⟨⟨_, _, rfl, by rw [st]; exact AZ.up g3⟩, by wtm_at "yinv", by wtm_at "yinv"⟩) S
    · with_reducible refine ob_ccl hI ?_; try clear hI; rintro ⟨zs, m, rfl, AZ⟩ r1 r2
      rw [lz, flagsI_end] at AZ
      wtm_at "yA"
      exact Cont.go hQb rfl (hG) (⟨⟨_, _, rfl, AZ⟩, by wtm_at "yinv"⟩) S
  · with_reducible refine ob_cl hI ?_; try clear hI; rintro ⟨zs, m, rfl, AZ⟩ r1
    rw [lvs, List.take_length] at AZ
    refine ob_eccl (S.freeze nf) ?_; intro G2 g2 e2 S
    wtm_at "yA"
    exact S.out (.refl _) ⟨rfl, lf, rfl, zs, m, e2, by wtm_at "yU"⟩))
theorem c_is_frame_no (P : PG w G) (O : Ok A 6) (X : FnAt G a (stm 103)) (F : FV G v k l at') (hk : KOk k) (hl : k ≠ "list") : Run w A s G [] a [v] fun G' W' r => W' = [] ∧ r = .bool false := unus (by exact trivial : Us (by
  refine Run.enter X P.lim O [("v", v)] (by wtm_at "ybind") (by kernel_rfl!) fun fp s S O => ?_
  wtm_at "ygo"
  wtm_at "yA"
  have e : (k != ("list" : Str)) = true := by simpa using hl
  rw [e]
  wtm_at "yA"
  exact S.out (.refl _) ⟨rfl, rfl⟩))
theorem c_is_frame (P : PG w G) (O : Ok A 6) (X : FnAt G a (stm 103)) (V : VF w G v ⟨cols, names, ⟨rk, ri, none⟩⟩) {R : Nat} (hr : ri.length = R) (hR : R ≤ 1000) (hc : ∀ d ∈ cols, d.its.length = R) (hz : cols.length ≤ 1000) (hn : names.length = cols.length) (hp : 0 < cols.length) :
    Run w A s G [] a [v] fun G' W' r => W' = [] ∧ r = .bool true := unus (by exact trivial : Us (by
  refine Run.enter X P.lim O [("v", v)] (by wtm_at "ybind") (by kernel_rfl!) fun fp s S O => ?_
  have V' := V
  refine ob_eeeeecccccl V'.open ?_; rintro da lI nv cv rv F D ⟨vs, n, hlI, AV⟩ VN VC VR
  have lvs := AV.1
  with_reducible refine ob_eeeeccccl VC.open ?_; intro lc ac xc nc FC hlc AC TC lxc
  with_reducible refine ob_eeeeccccl VN.open ?_; intro ln an xn nn FN hln AN TN lxn
  with_reducible refine ob_ecl (P.at "class_attr" 58 (by kernel_rfl!)) ?_; intro a1 g1 X1
  with_reducible refine ob_ecl (P.at "names_of" 55 (by kernel_rfl!)) ?_; intro a2 g2 X2
  with_reducible refine ob_ecl (P.at "is_vector" 47 (by kernel_rfl!)) ?_; intro a3 g3 X3
  with_reducible refine ob_ecl (P.at "frame_rows" 106 (by kernel_rfl!)) ?_; intro a4 g4 X4
  wtm_at "ygo"
  wtm_at "yA"
  refine call0 S (by wtm_at "yU") (c_class_attr (t := some [("names", nv), ("class", cv), ("row.names", rv)]) (xs := xc) P (O.mono (by decide)) X1 F ⟨da, rfl, D⟩ (.inr ⟨cv, _, _, _, _, by with_unfolding_all rfl, FC, hlc⟩) (by rw [lxc]; simp)) fun r G1 s' g1 S hp => ?_
  with_reducible refine ob_eecl hp ?_; try clear hp; rintro l' c rfl hl'
  wtm_at "yA"
  refine notin_txt (its := [.txt "data.frame"]) (S.z.gs _ _ hl') ((AC.up g1).up S.z.gs) (by intro it h; simp at h; exact ⟨_, h⟩) ?_
  have e1 : (!([It.txt "data.frame"] : List It).contains (.txt "data.frame")) = false := by simp
  rw [e1]
  wtm_at "yA"
  refine call0 S (by wtm_at "yU") (c_names_some (k := "list") (nv := nv) (t := some [("names", nv), ("class", cv), ("row.names", rv)]) (by wtm_at "yU") (O.mono (by decide)) (by wtm_at "yU") (by simp [KOk]) (by wtm_at "yU") ⟨da, rfl, by wtm_at "yU"⟩ (by with_unfolding_all rfl) (by with_unfolding_all rfl) (FN.up g1) (by wtm_at "yU") (Nat.le_trans (Nat.le_trans (Nat.le_of_eq lxn) (Nat.le_trans (Nat.le_of_eq hn) hz)) (by decide))) fun r G2 s' g2 S hp => ?_
  with_reducible refine ob_eecl hp ?_; try clear hp; rintro l2 c2 rfl hl2
  wtm_at "yA"
  have e3 : ((xn.length : Int) != (vs.length : Int)) = false := by simp; omega
  rw [e3]
  wtm_at "yA"
  with_reducible refine iter_list O.h S (by wtm_at "yU") fun it s' TI => ?_
  refine for_it TI (fun i G' mu' ρ' => mu' = [] ∧ ρ' "v" = some v) ⟨rfl, by wtm_at "yinv"⟩ (fun i v' G' mu' ρ' s' it E' hi hP hG hI S Qb hQb => ?_) fun G' mu' ρ' s' hG hI S => ?_
  · with_reducible refine ob_cl hI ?_; try clear hI; rintro rfl r1
    with_reducible refine ob_ecl (AV.at hP) ?_; rintro ⟨k, its, t⟩ e1 hv
    have h1 : its.length = R := hc _ (List.mem_of_getElem? e1)
    with_reducible refine ob_eeeeccccl hv.open ?_; intro l' at2 xs n FX hl AX T lx
    refine ob_eeecccl FX ?_; try clear FX; rintro x d o rfl hx hd VX
    have FX : FV G (.ref x) k l' at2 := ⟨x, d, o, rfl, hx, hd, VX⟩
    wtm_at "yA"
    with_reducible refine call0 S (by wtm_at "yU") (c_is_vector (by wtm_at "yU") (O.mono (by decide)) (by wtm_at "yU") (x := x) (d := d) (by wtm_at "yU")) fun r G3 s' g3 S hp => ?_
    obtain rfl := hp
    wtm_at "yA"
    with_reducible refine call0 S (by wtm_at "yU") (c_frame_rows (by wtm_at "yU") (O.mono (by decide)) (by wtm_at "yU") (v := v) (by wtm_at "yU") (Nat.le_trans (Nat.le_trans (Nat.le_of_eq hr) hR) (by decide))) fun r G4 s' g4 S hp => ?_
    with_reducible refine ob_el hp ?_; try clear hp; rintro u rfl
    wtm_at "yA"
    have e2 : ((xs.length : Int) != (ri.length : Int)) = false := by simp; omega
    rw [e2]
    wtm_at "yA"
    exact Cont.go hQb rfl (g3.trans g4) (⟨rfl, by wtm_at "yinv"⟩) S
  · with_reducible refine ob_cl hI ?_; try clear hI; rintro rfl r1
    wtm_at "yA"
    exact S.out (.refl _) ⟨rfl, rfl⟩))
end
end -- P12
section -- P13
open PySem.Calls PySem.Spec
noncomputable def pickI (its : List It) (ps : List Nat) : List It := ps.map fun p => its.getD p .na
noncomputable def pickD (ps : List Nat) (d : Vd) : Vd := ⟨d.k, pickI d.its ps, keptA d.t⟩
section
variable {w : World} {A : Around} {s : Shared} {G : Heap} {a : Addr} {v : Value} {k : Str} {l : Addr} {at' : Value} {t : Option (List (Str × Value))} {its : List It} {cols : List Vd} {names : List It} {rk : Str} {ri : List It} {rd : Vd}
theorem fresh0 {s0 s : Shared} {G0 G : Heap} {mu : List (Addr × Obj)} {env : Env} {ρ : Str → Option Value} {W0 : List Addr} (hW : W0 = []) (S : St s0 G0 W0 G mu env ρ s) : ∀ e ∈ mu, s0.heap.get? e.1 = none := by subst hW; exact fun e he => ((S.z.mt e he).2.2).resolve_left (by simp)
theorem c_picked_labels (P : PG w G) (O : Ok A 6) (X : FnAt G a (stm 117)) (V : VF w G v ⟨cols, names, ⟨rk, ri, none⟩⟩) {ps : List Nat} {lp : Addr} (hp : Its G (ps.map nat) lp) (hps : ∀ p ∈ ps, p < ri.length) (nd : ps.Nodup) (hzp : ps.length ≤ 1000) (hz : ri.length ≤ 1000) :
    Run w A s G [] a [v, .ref lp] fun G' W' r => NVV w G' W' r ⟨rk, pickI ri ps, none⟩ := unus (by exact trivial : Us (by
  refine Run.enter X P.lim O [("df", v), ("places", .ref lp)] (by wtm_at "ybind") (by kernel_rfl!) fun fp s S O => ?_
  with_reducible refine ob_eeeeecccccl V.open ?_; intro da lI nv cv rv F D IV VN VC VR
  with_reducible refine ob_eeeeccccl VR.open ?_; intro lr ar xr nr FR hlr AR TR lxr
  refine ob_eecl hp ?_; try clear hp; intro ys m hlp AP
  have lys : ys.length = ps.length := by simpa using AP.1
  wtm_at "ygo"
  wtm_at "yA"
  with_reducible refine iter_list O.h S (by wtm_at "yU") fun it s' TI => ?_
  refine for_it TI (fun i G' mu' ρ' => (∃ o kvs, mu' = [(dn, o)] ∧ o.IsDictOf (intKind pw w) kvs ∧ kvs.map (·.1) = (ps.take i).map fun (p : Nat) => (p : Int)) ∧ ρ' "seen" = some (.ref dn) ∧ ρ' "lacks" = some (.bool false) ∧ ρ' "labels" = some rv ∧ ρ' "places" = some (.ref lp) ∧ ∃ t, ρ' "count" = some (.int (xr.length : Nat) t))
    ⟨⟨_, [], rfl, dict_nil _, rfl⟩, by wtm_at "yinv", by wtm_at "yinv", by wtm_at "yinv", by wtm_at "yinv", by wtm_at "yinv"⟩
    (fun i v' G' mu' ρ' s' it E' hi hP hG hI S Qb hQb => ?_) fun G' mu' ρ' s' hG hI S => ?_
  · with_reducible refine ob_cccccel hI ?_; try clear hI; rintro ⟨o, kvs, rfl, ho, e⟩ r1 r2 r3 r4 tc r5
    with_reducible refine ob_ecl (AP.at hP) ?_; intro itp e1 hv
    rw [List.getElem?_map] at e1
    with_reducible refine ob_ecl (Option.map_eq_some_iff.mp e1) ?_; rintro p hp rfl
    refine ob_el hv ?_; try clear hv; rintro tp rfl
    have hpl := hps p (List.mem_of_getElem? hp)
    have hle : kvs.length ≤ 100000 := by have := congrArg List.length e; simp at this; omega
    have hv : valueAt kvs (p : Int) = none := by
      refine valueAt_none_of_not_mem fun hm => ?_
      rw [e] at hm
      with_reducible refine ob_ecl (List.mem_map.mp hm) ?_; intro p' hm' q
      have q : p' = p := by wtm_at "yo"
      subst q
      with_reducible refine ob_el (List.mem_iff_getElem?.mp hm') ?_; intro j hj
      rw [List.getElem?_take] at hj
      split at hj
      · have hi' := (List.getElem?_eq_some_iff.mp hp).1
        have := (List.getElem?_inj (by wtm_at "yo") nd).mp (hj.trans hp.symm)
        omega
      · cases hj
    wtm_at "yA"
    refine d_in S (S.has (by wtm_at "ymem")) ho (S.neSys P (by wtm_at "ymem")) (intKind_is pw w _ _) fun s' S => ?_
    rw [hv]
    wtm_at "yA"
    refine d_set S (by wtm_at "ymem") ho (intKind_is pw w _ _) (by rw [sizeLine_eq]; omega) fun s' o' ho2 hpu => ?_
    replace S := hpu _ (by wtm_at "yput")
    rw [stored_absent hv] at ho2
    wtm_at "yA"
    refine Cont.go hQb rfl (Le.rfl) (⟨⟨_, _, rfl, ho2, ?_⟩, by wtm_at "yinv", by wtm_at "yinv", by wtm_at "yinv", by wtm_at "yinv", by wtm_at "yinv"⟩) S
    rw [List.map_append, e, List.take_add_one, hp]; simp
  · with_reducible refine ob_cccccel hI ?_; try clear hI; rintro ⟨o, kvs, rfl, ho, e⟩ r1 r2 r3 r4 tc r5
    replace S := S.sub (List.nil_sublist _)
    wtm_at "yA"
    with_reducible refine iter_list O.h S (by wtm_at "yU") fun it s' TI => ?_
    with_reducible refine comp_vk TI (Nat.le_trans (Nat.le_trans (Nat.le_of_eq lys) hzp) (by decide)) (by kernel_rfl!) (ItV.mono (f := fun i => (pickI ri ps).getD i .na)) (fun C sD Wc i v' G' ρ' s' it d E' hi hP hG hρ S Qe hQe => ?_) fun D9 G9 s' hD9 hG9 hL S => ?_
    · with_reducible refine ob_ecl (AP.at hP) ?_; intro itp e1 hv
      rw [List.getElem?_map] at e1
      with_reducible refine ob_ecl (Option.map_eq_some_iff.mp e1) ?_; rintro p hp rfl
      refine ob_el hv ?_; try clear hv; rintro tp rfl
      have hpl := hps p (List.mem_of_getElem? hp)
      have hx : xr[((p : Int)).toNat]? = some (xr[p]'(Nat.lt_of_lt_of_le hpl (Nat.le_of_eq lxr.symm))) := by simp
      have hv := AR.2 p (ri.getD p .na) (xr[p]'(Nat.lt_of_lt_of_le hpl (Nat.le_of_eq lxr.symm))) (by rw [List.getD_eq_getElem?_getD, List.getElem?_eq_getElem hpl]; rfl) (by simp)
      have ec : (pickI ri ps).getD i .na = ri.getD p .na := by
        unfold pickI
        rw [List.getD_eq_getElem?_getD, List.getElem?_map, hp]; rfl
      wtm_at "yA"
      exact hQe _ _ _ (Le.rfl) (by rw [ec]; wtm_at "yU") S
    · have IL : Its G9 (pickI ri ps) D9 := hL.its2 (by unfold pickI; simp [lys]) fun i it y e r => by
        rw [List.getD_eq_getElem?_getD, e] at r; exact r
      wtm_at "yA"
      refine ⟨kept_vec P S.le0, new_vec2 (vs := []) P (O.mono (by decide)) S fun x d o G4 s' g4 hx hd V S => ?_⟩
      wtm_at "yA"
      exact S.out (.refl _) ⟨D9, .none, ⟨x, d, o, rfl, hx, rfl, V⟩, IL.up g4, rfl⟩))
theorem c_pick_rows (P : PG w G) (O : Ok A 9) (X : FnAt G a (stm 118)) (V : VF w G v ⟨cols, names, ⟨rk, ri, none⟩⟩) {ps : List Nat} {lp : Addr} (hp : Its G (ps.map nat) lp) (hps : ∀ p ∈ ps, p < ri.length) (nd : ps.Nodup) (hzp : ps.length ≤ 1000) (hz : ri.length ≤ 1000)
    (hc : ∀ d ∈ cols, d.its.length = ri.length ∧ tSmall d.t) (hzc : cols.length ≤ 1000) (hzn : names.length ≤ 1000) (ht : txts names) :
    Run w A s G [] a [v, .ref lp] fun G' W' r => NFr w G' W' r ⟨cols.map (pickD ps), names, ⟨rk, pickI ri ps, none⟩⟩ := unus (by exact trivial : Us (by
  refine Run.enter X P.lim O [("df", v), ("places", .ref lp)] (by wtm_at "ybind") (by kernel_rfl!) fun fp s S O => ?_
  have V' := V
  refine ob_eeeeecccccl V'.open ?_; rintro da lI nv cv rv F D ⟨vs, n, hlI, AV⟩ VN VC VR
  have lvs := AV.1
  with_reducible refine ob_ecl (P.at "pick_items" 111 (by kernel_rfl!)) ?_; intro a1 g1 X1
  with_reducible refine ob_ecl (P.at "new_frame" 104 (by kernel_rfl!)) ?_; intro a2 g2 X2
  with_reducible refine ob_ecl (P.at "column_names" 107 (by kernel_rfl!)) ?_; intro a3 g3 X3
  with_reducible refine ob_ecl (P.at "picked_labels" 117 (by kernel_rfl!)) ?_; intro a4 g4 X4
  wtm_at "ygo"
  wtm_at "yA"
  with_reducible refine iter_list O.h S (by wtm_at "yU") fun it s' TI => ?_
  with_reducible refine comp_bi TI (Nat.le_trans (Nat.le_trans (Nat.le_of_eq lvs) hzc) (by decide)) (by kernel_rfl!) (fun i ys G mu => NVs w G ((cols.take i).map (pickD ps)) mu ys ∧ ys.length ≤ i) (fun i ys G mu h => h.2) ⟨.nil, by simp⟩ (fun C sD Wc i v' zs G' mu' ρ' s' it d0 E' hi hP hG hI hρ S Qe hQe => ?_) (by kernel_rfl!) (by kernel_rfl!) fun D ys nn G2 es s' hD hG hI S => ?_
  · with_reducible refine ob_cl hI ?_; try clear hI; intro N hl
    with_reducible refine ob_ecl (AV.at hP) ?_; rintro ⟨k, its, t⟩ e1 hv
    with_reducible refine ob_cl (hc _ (List.mem_of_getElem? e1)) ?_; intro h1 h2
    dsimp only at h1 h2
    wtm_at "yA"
    with_reducible refine callU S (by wtm_at "yU") (c_pick_items (by wtm_at "yU") (O.mono (by decide)) (by wtm_at "yU") (k := k) (its := its) (t := t) (by wtm_at "yU") (Nat.le_trans (Nat.le_trans (Nat.le_of_eq h1) hz) (by decide)) h2 (ps := ps) (by wtm_at "yU") (fun p hp => by rw [h1]; exact hps p hp) (Nat.le_trans hzp (by decide))) fun x d o l5 at5 G5 s' g5 S hd0 hx V I5 T5 => ?_
    have S := S.perm (List.perm_append_singleton (d, o) (it :: d0 :: mu')).symm
    refine hQe _ _ _ _ g5 ⟨?_, by simp; omega⟩ S
    rw [List.take_add_one, e1]
    simp only [Option.toList_some, List.map_append, List.map_cons, List.map_nil]
    exact (N.up g5).snoc ⟨l5, at5, ⟨x, d, o, rfl, hx, rfl, V⟩, I5, T5⟩
  · with_reducible refine ob_cl hI ?_; try clear hI; intro N hl
    rw [lvs, List.take_length] at N
    with_reducible refine ob_eccl (S.freeze hD) ?_; intro G3 g3 e3 S
    wtm_at "yA"
    with_reducible refine call0 S (by wtm_at "yU") (c_column_names (by wtm_at "yU") (O.mono (by decide)) (by wtm_at "yU") (v := v) (by wtm_at "yU") (Nat.le_trans hzn (by decide)) ht) fun r G4 s' g4 S hp => ?_
    with_reducible refine ob_ecl hp ?_; try clear hp; rintro lnm rfl IN
    wtm_at "yA"
    with_reducible refine callV S (by wtm_at "yU") (c_picked_labels (by wtm_at "yU") (O.mono (by decide)) (by wtm_at "yU") (v := v) (by wtm_at "yU") (ps := ps) (by wtm_at "yU") hps nd hzp hz) fun r G5 s' g5 S VR => ?_
    wtm_at "yA"
    refine call_new_frame (by wtm_at "yU") (O.mono (by decide)) (by wtm_at "yU") S (fresh0 hW0 S) (by wtm_at "yU") (N.up (by wtm_at "yL")) (names := names) (by wtm_at "yU") VR hzn (by simpa using hzc) fun r G7 W7 s' g7 hF _ S => ?_
    wtm_at "yA"
    exact S.out (.refl _) hF))
end
end -- P13
section -- P23
open PySem.Calls PySem.Spec
section
variable {w : World} {A : Around} {s : Shared} {G : Heap} {a : Addr}
theorem KLaw.ok {k : Str} (h : KLaw k) : KOk k ∧ k ≠ "list" := by
  rcases h with rfl | rfl | rfl | rfl <;> exact ⟨by simp [KOk], by decide +kernel⟩
/-- a vector that the law draws -/
noncomputable def LVec (d : Vd) (n : Nat) : Prop := KLaw d.k ∧ d.its.length = n ∧ (∀ it ∈ d.its, ItOk d.k it) ∧ d.t = none
theorem kind_get {H : Heap} {l : Addr} {t1 t2 t3 t4 : Tok} {n : Nat} {dr : Int} (_ : H.get? l = some (lst [.str "character" t1, .str "integer" t2, .str "double" t3, .str "logical" t4] n)) (h0 : 0 ≤ dr) (h1 : dr < 4) :
    ∃ k t, ([.str "character" t1, .str "integer" t2, .str "double" t3, .str "logical" t4] : List Value)[dr.toNat]? = some (.str k t) ∧ KLaw k := unus (by exact trivial : Us (by
  have hd : dr = 0 ∨ dr = 1 ∨ dr = 2 ∨ dr = 3 := d4 h0 h1
  rcases hd with rfl | rfl | rfl | rfl
  · exact ⟨_, _, rfl, .inl rfl⟩
  · exact ⟨_, _, rfl, .inr (.inl rfl)⟩
  · exact ⟨_, _, rfl, .inr (.inr (.inl rfl))⟩
  · exact ⟨_, _, rfl, .inr (.inr (.inr rfl))⟩))
theorem its_of {n : Nat} {Pp : It → Prop} {l : Addr} (x : Lst G n (fun G _ y => ∃ it, ItV G it y ∧ Pp it) l) : ∃ its, Its G its l ∧ its.length = n ∧ ∀ it ∈ its, Pp it := unus (by exact trivial : Us (by
  refine ob_eeccl x ?_; try clear x; intro ys c a b d
  have key : ∀ (ys : List Value), (∀ y ∈ ys, ∃ it, ItV G it y ∧ Pp it) → ∃ its, AllV G its ys ∧ ∀ it ∈ its, Pp it := by
    intro ys
    induction ys with
    | nil => intro _; exact ⟨[], .nil, by simp⟩
    | cons y ys ih =>
      intro h
      with_reducible refine ob_ecl (h y (by simp)) ?_; intro it h1 h2
      with_reducible refine ob_ecl (ih fun z hz => h z (by simp [hz])) ?_; intro its h3 h4
      exact ⟨it :: its, .cons h1 h3, fun z hz => by
        rcases List.mem_cons.mp hz with rfl | hz
        · exact h2
        · exact h4 z hz⟩
  with_reducible refine ob_ecl (key ys fun y hy => ?_) ?_
  · with_reducible refine ob_el (List.mem_iff_getElem?.mp hy) ?_; intro j hj
    exact d j y hj
  intro its h1 h2
  exact ⟨its, ⟨ys, c, a, h1⟩, by rw [← h1.1, b], h2⟩))
theorem c_vector (P : PG w G) (O : Ok A 4) (X : FnAt G a (stm 133)) {st ls : Addr} {W : List (Addr × Obj)} (D : Draws st W) (hs : Ints G ls) {n : Nat} {tn : Tok} (hn : n ≤ 100) :
    Run w A s G W a [.ref st, .ref ls, .int (n : Nat) tn] fun G' W' v => ∃ e W2 d, W' = e :: W2 ∧ Draws st W2 ∧ NVV w G' [e] v d ∧ LVec d n := unus (by exact trivial : Us (by
  refine Run.enter X P.lim O [("state", .ref st), ("script", .ref ls), ("size", .int (n : Nat) tn)] (by wtm_at "ybind") (by kernel_rfl!) fun fp s S O => ?_
  with_reducible refine ob_ecl (P.at "_law_take" 131 (by kernel_rfl!)) ?_; intro a1 g1 X1
  with_reducible refine ob_ecl (P.at "_law_item" 132 (by kernel_rfl!)) ?_; intro a2 g2 X2
  wtm_at "ygo"
  wtm_at "yW"
  refine callD [(ln, _)] S (by wtm_at "yU") (c_take (by wtm_at "yU") (O.mono (by decide)) (by wtm_at "yU") D (by decide) (by decide)) fun r G1 W1 s' h1 S hp => ?_
  with_reducible refine ob_ceeccl hp ?_; try clear hp; rintro D1 dr ud rfl hd0 hd1
  replace S : St _ _ _ _ ((ln, _) :: W1) _ _ _ := S
  with_reducible refine ob_eccl (S.freeze n0) ?_; intro G2 h2 e2 S
  with_reducible refine ob_eecl (kind_get e2 hd0 hd1) ?_; intro k tkk ek hk
  wtm_at "yW"
  wtm_at "yrange"
  refine comp_v TI (Nat.le_trans hn (by decide)) (by kernel_rfl!) (R := fun G _ y => ∃ it, ItV G it y ∧ ItOk k it) (M := fun _ _ mu => Draws st mu) (fun _ _ _ _ g ⟨it, a, b⟩ => ⟨it, a.up g, b⟩) D1 (fun C sD Wc i v' G' mu' ρ' s' it d E' hi hP hG hM hρ S Qe hQe => ?_) fun D5 G5 W5 s' hD5 hG5 hL5 hM5 S => ?_
  · wtm_at "yW"
    refine ob_eecl hs ?_; try clear hs; intro xs ns hls hxs
    refine callD [it, d] S (by wtm_at "yU") (c_item (by wtm_at "yU") (O.mono (by decide)) (by wtm_at "yU") hM hk ⟨xs, ns, by wtm_at "yU", hxs⟩) fun r G3 W3 s' h3 S hp => ?_
    exact hQe _ _ _ _ (h3) (hp.2) (hp.1) S
  · with_reducible refine ob_ecl hM5 ?_; try clear hM5; intro _ _ D5'
    with_reducible refine ob_eccl (its_of hL5) ?_; intro its I5 li hi
    wtm_at "yW"
    refine ⟨kept_vec P S.le0, new_vec2 (vs := []) P (O.mono (by decide)) S fun x d o G6 s' h6 hx hd V S => ?_⟩
    wtm_at "yW"
    exact S.out (.refl _) ⟨(d, o), W5, ⟨k, its, none⟩, rfl, D5', ⟨D5, .none, ⟨x, d, o, rfl, hx, rfl, V⟩, I5.up h6, rfl⟩, hk, li, hi, rfl⟩))
theorem c_lacks (P : PG w G) (O : Ok A 1) (X : FnAt G a (stm 134)) {v : Value} {k : Str} {tk : Tok} {it : It} (hk : KOk k) (I : ItV G it v) (hd : k = "double" → it = .na ∨ ∃ a b, it = .frac a b) :
    Run w A s G [] a [.str k tk, v] fun G' W' r => W' = [] ∧ r = .bool (lackIt k it) := unus (by exact trivial : Us (by
  refine Run.enter X P.lim O [("kind", .str k tk), ("item", v)] (by wtm_at "ybind") (by kernel_rfl!) fun fp s S O => ?_
  wtm_at "ygo"
  have e1 := I.isNone
  have hu := O.u
  wtm_at "ya"
  rw [e1]
  by_cases hn : it = .na
  · subst hn
    wtm_at "ya"
    exact S.out (.refl _) ⟨rfl, rfl⟩
  · have e2 : (it == .na) = false := by simpa using hn
    rw [e2]
    wtm_at "ya"
    by_cases hd' : k = "double"
    · subst hd'
      with_reducible refine ob_eel ((hd rfl).resolve_left hn) ?_; rintro x y rfl
      refine ob_eeecl I ?_; try clear I; rintro p t1 t2 rfl hp
      wtm_at "ya"
      with_reducible refine eq_frac S (by wtm_at "yU") (by wtm_at "yU") (by wtm_at "yo") ?_
      wtm_at "ya"
      exact S.out (.refl _) ⟨rfl, by simp [lackIt]⟩
    · have e3 : (k == "double") = false := by simpa using hd'
      rw [e3]
      wtm_at "ya"
      exact S.out (.refl _) ⟨rfl, by simp [lackIt, e2, e3]⟩))
end
end -- P23
section -- P27
open PySem.Calls PySem.Spec
section
variable {w : World} {A : Around} {s : Shared} {G : Heap} {a : Addr}
theorem c_vectorF (P : PG w G) (O : Ok A 4) (X : FnAt G a (stm 133)) {st ls : Addr} {W : List (Addr × Obj)} (D : Draws st W) (hs : Ints G ls) {n : Nat} {tn : Tok} (hn : n ≤ 100) :
    Run w A s G W a [.ref st, .ref ls, .int (n : Nat) tn] fun G' W' v => Draws st W' ∧ ∃ d, VV w G' v d ∧ LVec d n := unus (by exact trivial : Us (by
  refine Run.enter X P.lim O [("state", .ref st), ("script", .ref ls), ("size", .int (n : Nat) tn)] (by wtm_at "ybind") (by kernel_rfl!) fun fp s S O => ?_
  with_reducible refine ob_ecl (P.at "_law_take" 131 (by kernel_rfl!)) ?_; intro a1 g1 X1
  with_reducible refine ob_ecl (P.at "_law_item" 132 (by kernel_rfl!)) ?_; intro a2 g2 X2
  wtm_at "ygo"
  wtm_at "yW"
  refine callD [(ln, _)] S (by wtm_at "yU") (c_take (by wtm_at "yU") (O.mono (by decide)) (by wtm_at "yU") D (by decide) (by decide)) fun r G1 W1 s' h1 S hp => ?_
  with_reducible refine ob_ceeccl hp ?_; try clear hp; rintro D1 dr ud rfl hd0 hd1
  replace S : St _ _ _ _ ((ln, _) :: W1) _ _ _ := S
  with_reducible refine ob_eccl (S.freeze n0) ?_; intro G2 h2 e2 S
  with_reducible refine ob_eecl (kind_get e2 hd0 hd1) ?_; intro k tkk ek hk
  wtm_at "yW"
  wtm_at "yrange"
  refine comp_v TI (Nat.le_trans hn (by decide)) (by kernel_rfl!) (R := fun G _ y => ∃ it, ItV G it y ∧ ItOk k it) (M := fun _ _ mu => Draws st mu) (fun _ _ _ _ g ⟨it, a, b⟩ => ⟨it, a.up g, b⟩) D1 (fun C sD Wc i v' G' mu' ρ' s' it d E' hi hP hG hM hρ S Qe hQe => ?_) fun D5 G5 W5 s' hD5 hG5 hL5 hM5 S => ?_
  · wtm_at "yW"
    refine ob_eecl hs ?_; try clear hs; intro xs ns hls hxs
    refine callD [it, d] S (by wtm_at "yU") (c_item (by wtm_at "yU") (O.mono (by decide)) (by wtm_at "yU") hM hk ⟨xs, ns, by wtm_at "yU", hxs⟩) fun r G3 W3 s' h3 S hp => ?_
    exact hQe _ _ _ _ (h3) (hp.2) (hp.1) S
  · with_reducible refine ob_ecl hM5 ?_; try clear hM5; intro _ hcl D5'
    clear hcl
    with_reducible refine ob_eccl (its_of hL5) ?_; intro its I5 li hi
    wtm_at "yW"
    refine ⟨kept_vec P S.le0, new_vec2 (vs := []) P (O.mono (by decide)) S fun x d o G6 s' h6 hx hd V S => ?_⟩
    wtm_at "yW"
    refine ob_eccl (still1 (w := w) (its := its) (t := none) S hx V (I5.up h6) rfl hd) ?_; intro G7 h7 V7 S
    wtm_at "yqs"
    exact S.out (.refl _) ⟨D5', _, V7, hk, li, hi, rfl⟩))
/-- a column that the law draws -/
noncomputable def CD (w : World) (G : Heap) (size : Nat) (d : Vd) : Prop := LVec d size ∨ ∃ cs lv cv, d = ⟨"integer", cs, some [("levels", lv), ("class", cv)]⟩ ∧ cs.length = size ∧ (∀ it ∈ cs, it = .na ∨ ∃ c : Nat, it = .int ((c : Int) + 1) ∧ c < 2) ∧ VV w G lv ⟨"character", [.txt "u", .txt "v"], none⟩ ∧ VV w G cv ⟨"character", [.txt "factor"], none⟩
theorem CD.up {w : World} {G H : Heap} {size : Nat} {d : Vd} (x : CD w G size d) (g : Le G H) : CD w H size d := x.imp id fun ⟨cs, lv, cv, a, b, c, e, f⟩ => ⟨cs, lv, cv, a, b, c, e.up g, f.up g⟩
theorem CD.col {w : World} {G : Heap} {size : Nat} {d : Vd} (x : CD w G size d) : ColOk size d ∧ d.k ≠ "list" := unus (by exact trivial : Us (by
  rcases x with ⟨hk, hl, hi, ht⟩ | ⟨cs, lv, cv, rfl, h1, h2, h3, h4⟩
  · refine ⟨⟨hl, hk.ok.1, fun e it hit => ?_⟩, hk.ok.2⟩
    rcases hi it hit with h | ⟨h, _⟩ | ⟨h, _⟩ | ⟨_, h⟩ | ⟨h, _⟩
    · exact .inl h
    · rw [e] at h; exact absurd h (by decide +kernel)
    · rw [e] at h; exact absurd h (by decide +kernel)
    · exact .inr h
    · rw [e] at h; exact absurd h (by decide +kernel)
  · exact ⟨⟨h1, by simp [KOk], fun e => absurd (show ("integer" : Str) = "double" from e) (by decide +kernel)⟩, by show ("integer" : Str) ≠ "list"; decide +kernel⟩))
theorem c_columns (P : PG w G) (O : Ok A 6) (X : FnAt G a (stm 138)) {st ls : Addr} {W : List (Addr × Obj)} (D : Draws st W) (hs : Ints G ls) :
    Run w A s G W a [.ref st, .ref ls] fun G' W' v => Draws st W' ∧ ∃ p size ts lc lf ds, v = .ref p ∧ G'.get? p = some (tup [.int (size : Nat) ts, .ref lc, .ref lf]) ∧ size ≤ 6 ∧ VVs w G' ds lc ∧ Its G' (flags ds size) lf ∧ (∀ d ∈ ds, CD w G' size d) ∧ 0 < ds.length ∧ ds.length ≤ 4 := unus (by exact trivial : Us (by
  refine Run.enter X P.lim O [("state", .ref st), ("script", .ref ls)] (by wtm_at "ybind") (by kernel_rfl!) fun fp s S O => ?_
  with_reducible refine ob_ecl (P.at "_law_take" 131 (by kernel_rfl!)) ?_; intro a1 g1 X1
  with_reducible refine ob_ecl (P.at "_law_vector" 133 (by kernel_rfl!)) ?_; intro a2 g2 X2
  with_reducible refine ob_ecl (P.at "character" 44 (by kernel_rfl!)) ?_; intro a3 g3 X3
  with_reducible refine ob_ecl (P.at "_law_lacks" 134 (by kernel_rfl!)) ?_; intro a4 g4 X4
  refine ob_eecl hs ?_; try clear hs; intro xs0 ns0 hls hxs0
  wtm_at "ygo"
  wtm_at "yW"
  refine callD [] S (by wtm_at "yU") (c_take (by wtm_at "yU") (O.mono (by decide)) (by wtm_at "yU") D (by decide) (by decide)) fun r G1 W1 s' h1 S hp => ?_
  with_reducible refine ob_ceeccl hp ?_; try clear hp; rintro D1 d1 u1 rfl hd0 hd1
  replace S : St _ _ _ _ W1 _ _ _ := S
  wtm_at "yW"
  with_reducible refine w_mod S (by decide) fun t2 s' S => ?_
  obtain ⟨size, esz, hsz⟩ : ∃ size : Nat, (d1 + 4).fmod 7 = (size : Int) ∧ size ≤ 6 := by
    have f1 := Int.fmod_nonneg (a := d1 + 4) (b := 7) (by wtm_at "yo") (by decide)
    have f2 := Int.fmod_lt_of_pos (d1 + 4) (b := 7) (by decide)
    exact ⟨((d1 + 4).fmod 7).toNat, by wtm_at "yo", by wtm_at "yo"⟩
  rw [esz]
  wtm_at "yW"
  refine callD [] S (by wtm_at "yU") (c_take (by wtm_at "yU") (O.mono (by decide)) (by wtm_at "yU") D1 (by decide) (by decide)) fun r G2 W2 s' h2 S hp => ?_
  with_reducible refine ob_ceeccl hp ?_; try clear hp; rintro D2 d2 u2 rfl he0 he1
  replace S : St _ _ _ _ W2 _ _ _ := S
  wtm_at "yW"
  wtm_at "yrange"
  have en : (1 + d2).toNat = 1 + d2.toNat := by wtm_at "yo"
  refine comp_bi TI (by wtm_at "yo") (by kernel_rfl!) (fun i ys G mu => Draws st mu ∧ ∃ ds, AllVV w G ds ys ∧ ds.length = i ∧ ∀ d ∈ ds, LVec d size) (fun i ys G mu ⟨_, ds, h1, h2, _⟩ => by have := h1.1; omega) ⟨D2, [], .nil, rfl, by simp⟩ (fun C sD Wc i v' zs G' mu' ρ' s' it d0 E' hi hP hG hI hρ S Qe hQe => ?_) (by kernel_rfl!) (by kernel_rfl!) fun D5 ys nn G5 W5 s' hD hG hI S => ?_
  · with_reducible refine ob_ceccl hI ?_; try clear hI; intro DI ds hds hdl hdv
    wtm_at "yW"
    refine callD [it, d0] S (by wtm_at "yU") (c_vectorF (by wtm_at "yU") (O.mono (by decide)) (by wtm_at "yU") DI ⟨xs0, ns0, by wtm_at "yU", hxs0⟩ (Nat.le_trans hsz (by decide))) fun r G3 W3 s' h3 S hp => ?_
    with_reducible refine ob_cecl hp ?_; try clear hp; intro D3 dv V3 L3
    refine hQe _ _ _ _ (h3) (⟨D3, ds ++ [dv], (hds.up h3).snoc V3, by simp [hdl], fun d hd => ?_⟩) S
    rcases List.mem_append.mp hd with hd | hd
    · exact hdv d hd
    · obtain rfl : d = dv := by simpa using hd
      exact L3
  · with_reducible refine ob_ceccl hI ?_; try clear hI; intro D5' ds hds hdl hdv
    wtm_at "yqs"
    refine wpAny_execs_cons (stmt_cut S (fun G' mu' ρ' => ∃ W5 ys nn ds, mu' = (D5, lst ys nn) :: W5 ∧ Draws st W5 ∧ AllVV w G' ds ys ∧ (∀ d ∈ ds, CD w G' size d) ∧ 0 < ds.length ∧ ds.length ≤ 4 ∧ ρ' "columns" = some (.ref D5) ∧ ∃ t, ρ' "size" = some (.int (size : Nat) t)) ?_ fun G6 mu6 ρ6 s6 h6 hR S => ?_)
    · intro Qs hQs; wtm_at "yW"
      refine callD [(D5, lst ys nn)] S (by wtm_at "yU") (c_take (by wtm_at "yU") (O.mono (by decide)) (by wtm_at "yU") D5' (by decide) (by decide)) fun r G7 W7 s' h7 S hp => ?_
      with_reducible refine ob_ceeccl hp ?_; try clear hp; rintro D7 d7 u7 rfl hf0 hf1
      wtm_at "yW"
      by_cases h1 : d7 = 1
      · refine ite_yes (by simpa using h1) ?_
        wtm_at "yW"
        wtm_at "yrange"
        refine comp_b TI (Nat.le_trans hsz (by decide)) (by kernel_rfl!) (R := fun G _ y => ∃ it, ItV G it y ∧ (it = .na ∨ ∃ c : Nat, it = .int ((c : Int) + 1) ∧ c < 2)) (M := fun _ _ mu => ∃ W, mu = (D5, lst ys nn) :: W ∧ Draws st W) (fun _ _ _ _ g ⟨it, a, b⟩ => ⟨it, a.up g, b⟩) ⟨W7, rfl, D7⟩ (fun C sD Wc i v' G' mu' ρ' s' it d E' hi hP hG hM hρ S Qe hQe => ?_) (by kernel_rfl!) (by kernel_rfl!) fun Dc Gc Wc' s' hDc hGc hLc hMc S => ?_
        · with_reducible refine ob_ecl hM ?_; try clear hM; rintro Wi rfl DI
          wtm_at "yW"
          refine callD [it, d, (D5, lst ys nn)] S (by wtm_at "yU") (c_take (by wtm_at "yU") (O.mono (by decide)) (by wtm_at "yU") DI (by decide) (by decide)) fun r G8 W8 s' h8 S hp => ?_
          with_reducible refine ob_ceeccl hp ?_; try clear hp; rintro D8 d8 u8 rfl hg0 hg1
          wtm_at "yW"
          by_cases h3 : d8 = 3
          · refine ite_yes (by simpa using h3) ?_
            wtm_at "yW"
            exact hQe _ _ _ _ (h8) (⟨.na, rfl, .inl rfl⟩) (⟨_, rfl, D8⟩) S
          · refine ite_no (by simpa using h3) ?_
            wtm_at "yW"
            refine callD [it, d, (D5, lst ys nn)] S (by wtm_at "yU") (c_take (by wtm_at "yU") (O.mono (by decide)) (by wtm_at "yU") D8 (by decide) (by decide)) fun r G9 W9 s' h9 S hp => ?_
            with_reducible refine ob_ceeccl hp ?_; try clear hp; rintro D9 d9 u9 rfl hk0 hk1
            wtm_at "yW"
            refine hQe _ _ _ _ (h8.trans h9) (⟨.int (1 + d9), ⟨_, rfl⟩, .inr ⟨d9.toNat, ?_, by wtm_at "yo"⟩⟩) (⟨_, rfl, D9⟩) S
            congr 1
            omega
        · with_reducible refine ob_ececl hMc ?_; try clear hMc; rintro _ hcl Wx rfl Dx
          clear hcl
          with_reducible refine ob_eccl (its_of hLc) ?_; intro its Ic li hi
          wtm_at "yW"
          wtm_at "yap1"
          wtm_at "ydict"
          with_reducible refine ob_eccl (S.freeze n0) ?_; intro G10 h10 e10 S
          refine callV S (by wtm_at "yU") (d_character (by wtm_at "yU") (O.mono (by decide)) (by wtm_at "yU") (its := [.txt "u", .txt "v"]) ⟨_, _, e10, .cons ⟨_, rfl⟩ (.cons ⟨_, rfl⟩ .nil)⟩ (by simp)) fun lv G11 s' h11 S V11 => ?_
          wtm_at "yW"
          with_reducible refine ob_eccl (S.freeze n0) ?_; intro G12 h12 e12 S
          refine callV S (by wtm_at "yU") (d_character (by wtm_at "yU") (O.mono (by decide)) (by wtm_at "yU") (its := [.txt "factor"]) ⟨_, _, e12, .cons ⟨_, rfl⟩ .nil⟩ (by simp)) fun cv G13 s' h13 S V13 => ?_
          wtm_at "yW"
          refine ⟨strPairs _, _, _, carries_strPairs _ _ _ rfl, S, fun s₂ o2 ho S => ?_⟩
          replace ho : o2.IsDictOf (strKind pw w) [("levels", lv), ("class", cv)] := merged_of ho (by kernel_rfl!)
          with_reducible refine ob_eccl (AD.of P S ho na0) ?_; intro G14 h14 D14 S
          wtm_at "yW"
          refine ⟨kept_vec P S.le0, new_vec3 (vs := []) P (O.mono (by decide)) (.inr ⟨_, rfl⟩) S fun x d o G15 s' h15 hx hd V S => ?_⟩
          refine ob_eccl (still1 (w := w) (its := its) (t := some [("levels", lv), ("class", cv)]) S hx V (by wtm_at "yU") ⟨an, rfl, by wtm_at "yU"⟩ hd) ?_; intro G16 h16 V16 S
          wtm_at "yW"
          have lys : ys.length ≤ 100 := by rw [hds.1]; omega
          wtm_at "yap2"
          refine hQs _ _ _ _ (by wtm_at "yL") (⟨Wx, _, _, ds ++ [_], rfl, Dx, AllVV.snoc (by wtm_at "yU") V16, fun d hd => ?_, by simp, by simp; omega, by wtm_at "yinv", by wtm_at "yinv"⟩) S
          rcases List.mem_append.mp hd with hd | hd
          · exact .inl (hdv d hd)
          · obtain rfl := List.mem_singleton.mp hd
            exact .inr ⟨its, lv, cv, rfl, li, hi, by wtm_at "yU", by wtm_at "yU"⟩
      · refine ite_no (by simpa using h1) ?_
        wtm_at "yW"
        exact hQs _ _ _ _ (by wtm_at "yL") (⟨W7, ys, nn, ds, rfl, D7, by wtm_at "yU", fun d hd => .inl (hdv d hd), by wtm_at "yo", by wtm_at "yo", by wtm_at "yinv", by wtm_at "yinv"⟩) S
    · with_reducible refine ob_eeeecccccccel hR ?_; try clear hR; rintro W8 ys8 n8 ds8 rfl D8 A8 C8 l80 l84 r1 t8 r2
      with_reducible refine ob_eccl (S.freeze hD) ?_; intro G9 h9 e9 S
      wtm_at "yW"
      wtm_at "yrange"
      obtain ⟨lf, hlf⟩ : ∃ lf, lf = ln := ⟨_, rfl⟩
      subst hlf
      have ly8 := A8.1
      refine for_it TI (fun i G' mu' ρ' => (∃ zs m, mu' = (lf, lst zs m) :: W8 ∧ AllV G' ((List.range i).map (flagAt ds8)) zs) ∧ ρ' "full" = some (.ref lf) ∧ ρ' "columns" = some (.ref D5) ∧ ∃ t, ρ' "size" = some (.int (size : Nat) t)) ⟨⟨[], 0, rfl, .nil⟩, by wtm_at "yinv", by wtm_at "yinv", by wtm_at "yinv"⟩
        (fun i v' G' mu' ρ' s' it E' hi hP hG hI S Qb hQb => ?_) fun G' mu' ρ' s' hG hI S => ?_
      · with_reducible refine ob_cccel hI ?_; try clear hI; rintro ⟨zs, m, rfl, AZ⟩ r1 r2 tz r3
        with_reducible refine ob_el hP ?_; try clear hP; rintro tp rfl
        refine wpAny_assign_Name (S.st (by kernel_rfl!) (by kernel_rfl!) fun s' S => ?_)
        wtm_at "yW"
        with_reducible refine iter_list O.h S (by wtm_at "yU") fun itR s' TI => ?_
        have lz : zs.length = i := by have := AZ.1; simpa using this
        have hb : ∀ (j : Nat) d, ds8[j]? = some d → (fun j => lackIt (ds8.getD j ⟨"", [], none⟩).k ((ds8.getD j ⟨"", [], none⟩).its.getD i .na)) j = lackIt d.k (d.its.getD i .na) := fun j d e => by
          have : ds8.getD j ⟨"", [], none⟩ = d := by rw [List.getD_eq_getElem?_getD, e]; rfl
          simp only [this]
        refine comp_bf TI (Nat.le_trans (Nat.le_trans (Nat.le_of_eq ly8) l84) (by decide)) (by kernel_rfl!) (b := fun j => lackIt (ds8.getD j ⟨"", [], none⟩).k ((ds8.getD j ⟨"", [], none⟩).its.getD i .na)) (R := fun _ _ _ => True) (fun _ _ _ _ _ h => h) (fun C sD Wc j v' G' ρ' s' it d0 E' hj hP hG hρ S Qe Qn hQe hQn => ?_) (by kernel_rfl!) (by kernel_rfl!) fun Dk Gk s' hDk hGk hLk S => ?_
        · with_reducible refine ob_ecl (A8.at hP) ?_; rintro ⟨k, its, t⟩ ed hv
          have hcd := (C8 _ (List.mem_of_getElem? ed)).col.1
          with_reducible refine ob_eeeeccccl hv.open ?_; intro l' at2 xs n FX hl AX T lx
          have hl1 : its.length = size := hcd.l
          have hil : i < its.length := (Nat.lt_of_lt_of_le hi (Nat.le_of_eq hl1.symm))
          have hx : xs[((i : Int)).toNat]? = some (xs[i]'(Nat.lt_of_lt_of_le hil (Nat.le_of_eq lx.symm))) := by simp
          have hvi := AX.2 i (its.getD i .na) (xs[i]'(Nat.lt_of_lt_of_le hil (Nat.le_of_eq lx.symm))) (by rw [List.getD_eq_getElem?_getD, List.getElem?_eq_getElem hil]; rfl) (by simp)
          wtm_at "yW"
          with_reducible refine call0 S (by wtm_at "yU") (c_lacks (it := its.getD i .na) (by wtm_at "yU") (O.mono (by decide)) (by wtm_at "yU") hcd.k (by wtm_at "yU") fun e => hcd.f e _ (getD_mem hil)) fun r G3 s' g3 S hp => ?_
          obtain rfl := hp
          wtm_at "yW"
          refine ⟨(hb j _ ed).symm, fun h => ?_, fun h => hQn _ _ g3 S⟩
          wtm_at "yW"
          exact hQe _ _ _ (g3) (trivial) S
        · refine ob_eeccl hLk ?_; try clear hLk; intro qs cq hq lq _
          have hnl := none_lack (b := fun j => lackIt (ds8.getD j ⟨"", [], none⟩).k ((ds8.getD j ⟨"", [], none⟩).its.getD i .na)) hb
          rw [ly8] at lq
          rw [← lq] at hnl
          have lq4 : qs.length ≤ 100 := by rw [lq]; exact Nat.le_trans (List.length_filter_le ..) (by simp; omega)
          wtm_at "yW"
          wtm_at "yap1"
          by_cases q0 : qs.length = 0
          · have hf := hnl.mp q0
            refine ite_yes (by simpa using q0) ?_
            wtm_at "yW"
            wtm_at "yap2"
            refine Cont.go hQb rfl (by wtm_at "yL") (⟨⟨_, _, rfl, ?_⟩, by wtm_at "yinv", by wtm_at "yinv", by wtm_at "yinv"⟩) S
            rw [List.range_succ, List.map_append]
            exact AllV.snoc (by wtm_at "yU") (by unfold flagAt; rw [hf]; exact ⟨_, rfl⟩)
          · have hf : (ds8.any fun d => lackIt d.k (d.its.getD i .na)) = true := by
              cases e : ds8.any fun d => lackIt d.k (d.its.getD i .na) with
              | true => rfl
              | false => exact absurd (hnl.mpr e) q0
            refine ite_no (by simpa using q0) ?_
            wtm_at "yW"
            wtm_at "yap2"
            refine Cont.go hQb rfl (by wtm_at "yL") (⟨⟨_, _, rfl, ?_⟩, by wtm_at "yinv", by wtm_at "yinv", by wtm_at "yinv"⟩) S
            rw [List.range_succ, List.map_append]
            exact AllV.snoc (by wtm_at "yU") (by unfold flagAt; rw [hf]; exact ⟨_, rfl⟩)
      · with_reducible refine ob_cccel hI ?_; try clear hI; rintro ⟨zs, m, rfl, AZ⟩ r1 r2 tz r3
        wtm_at "yW"
        with_reducible refine ob_eccl (S.freeze n0) ?_; intro G20 h20 e20 S
        have hC : ∀ d ∈ ds8, CD w G20 size d := fun d hd => (C8 d hd).up (by wtm_at "yL")
        wtm_at "yqs"
        exact S.out (.refl _) ⟨D8, tn, size, _, D5, lf, ds8, rfl, by wtm_at "yU", hsz, ⟨ys8, n8, by wtm_at "yU", by wtm_at "yU"⟩, ⟨zs, m, e20, (show AllV G20 ((List.range size).map (flagAt ds8)) zs by wtm_at "yU")⟩, hC, l80, l84⟩))
end
end -- P27
section -- P24
open PySem.Calls PySem.Spec
noncomputable def deco (levs : List It) : It → It
  | .int n => levs.getD (n - 1).toNat .na
  | it => it
noncomputable def rowsP (cs : List (List It)) : List (List It) := cs.foldl (fun rows items => items.flatMap fun it => rows.map fun r => r ++ [it]) [[]]
theorem rowsP_succ {cs : List (List It)} {i : Nat} {c : List It} (h : cs[i]? = some c) : rowsP (cs.take (i + 1)) = c.flatMap fun it => (rowsP (cs.take i)).map fun r => r ++ [it] := by
  unfold rowsP; rw [List.take_add_one, h, List.foldl_append]; rfl
theorem flat_len {l : List It} {rows : List (List It)} : (l.flatMap fun it => rows.map fun r => r ++ [it]).length = l.length * rows.length := by
  induction l with
  | nil => simp
  | cons a l ih => rw [List.flatMap_cons, List.length_append, ih, List.length_map, List.length_cons, Nat.succ_mul, Nat.add_comm]
theorem rowsP_len {cs : List (List It)} : ∀ r ∈ rowsP cs, r.length = cs.length := unus (by exact trivial : Us (by
  have key : ∀ (l : List (List It)) (rows : List (List It)) (n : Nat), (∀ r ∈ rows, r.length = n) → ∀ r ∈ l.foldl (fun rows items => items.flatMap fun it => rows.map fun r => r ++ [it]) rows, r.length = n + l.length := by
    intro l
    induction l with
    | nil => intro rows n h r hr; exact h r hr
    | cons a l ih =>
      intro rows n h r hr
      have := ih _ (n + 1) (fun r hr => by
        with_reducible refine ob_ecl (List.mem_flatMap.mp hr) ?_; intro it _ hr
        with_reducible refine ob_ecl (List.mem_map.mp hr) ?_; rintro r' h1 rfl
        simp [h r' h1]) r hr
      rw [this, List.length_cons]; omega
  intro r hr
  have := key cs [[]] 0 (by simp) r hr
  omega))
noncomputable def RowV (G : Heap) (r : List It) (v : Value) : Prop := ∃ p xs, v = .ref p ∧ G.get? p = some (tup xs) ∧ AllV G r xs
theorem RowV.up {G H : Heap} {r : List It} {v : Value} (x : RowV G r v) (g : Le G H) : RowV H r v := by obtain ⟨p, xs, a, b, c⟩ := x; exact ⟨p, xs, a, g _ _ b, c.up g⟩
noncomputable def RowVs (G : Heap) (rs : List (List It)) (vs : List Value) : Prop := vs.length = rs.length ∧ ∀ (i : Nat) r v, rs[i]? = some r → vs[i]? = some v → RowV G r v
theorem RowVs.up {G H : Heap} {rs : List (List It)} {vs : List Value} (x : RowVs G rs vs) (g : Le G H) : RowVs H rs vs := ⟨x.1, fun i r v a b => (x.2 i r v a b).up g⟩
theorem RowVs.nil {G : Heap} : RowVs G [] [] := ⟨rfl, fun i p v a => by simp at a⟩
theorem RowVs.snoc {G : Heap} {ds : List (List It)} {vs : List Value} {d : List It} {v : Value} (x : RowVs G ds vs) (y : RowV G d v) : RowVs G (ds ++ [d]) (vs ++ [v]) := unus (by exact trivial : Us (by
  refine ⟨by simp [x.1], fun i d' v' a b => ?_⟩
  by_cases h : i < ds.length
  · rw [List.getElem?_append_left h] at a
    rw [List.getElem?_append_left (by rw [x.1]; exact h)] at b
    exact x.2 i d' v' a b
  · rw [List.getElem?_append_right (by omega)] at a
    rw [List.getElem?_append_right (by rw [x.1]; omega), x.1] at b
    have e : i - ds.length = 0 := by
      cases q : i - ds.length with
      | zero => rfl
      | succ n => rw [q] at a; simp at a
    rw [e] at a b
    simp at a b
    subst a b
    exact y))
theorem RowVs.at {G : Heap} {ps : List (List It)} {vs : List Value} (x : RowVs G ps vs) {i : Nat} {v : Value} (h : vs[i]? = some v) : ∃ p, ps[i]? = some p ∧ RowV G p v := by
  have : i < ps.length := by rw [← x.1]; exact (List.getElem?_eq_some_iff.mp h).1
  exact ⟨ps[i], by simp [this], x.2 i _ v (by simp [this]) h⟩
section
variable {w : World} {A : Around} {s : Shared} {G : Heap} {a : Addr} {v : Value} {k : Str} {its : List It} {t : Option (List (Str × Value))}
theorem c_texts_plain (P : PG w G) (O : Ok A 1) (X : FnAt G a (stm 135)) (V : VV w G v ⟨k, its, t⟩) (ht : t = none ∨ ∃ kvs, t = some kvs ∧ (valueAt kvs "levels").isSome = false) (hz : its.length ≤ 1000) :
    Run w A s G [] a [v] fun G' W' r => W' = [] ∧ ∃ p l tk, r = .ref p ∧ G'.get? p = some (tup [.str k tk, .ref l, .none]) ∧ Its G' its l := unus (by exact trivial : Us (by
  refine Run.enter X P.lim O [("v", v)] (by wtm_at "ybind") (by kernel_rfl!) fun fp s S O => ?_
  with_reducible refine ob_eeeeccccl V.open ?_; intro l at' xs n F hl AV T lx
  wtm_at "ygo"
  wtm_at "yA"
  revert S
  rcases ht with rfl | ⟨kvs, rfl, hn⟩ <;> intro S
  · obtain rfl : at' = .none := T
    wtm_at "yA"
    refine ⟨kept_type, b_list S (by wtm_at "yH") (by rw [sizeLine_eq]; omega) fun l2 c2 s' n2 S => ?_⟩
    with_reducible refine ob_eccl (S.freeze n2) ?_; intro G2 h2 e2 S
    wtm_at "yA"
    exact S.out (.refl _) ⟨rfl, _, l2, _, rfl, by wtm_at "yU", xs, c2, by wtm_at "yU", by wtm_at "yU"⟩
  · refine ob_ecl T ?_; try clear T; rintro dd rfl D
    wtm_at "yA"
    refine ad_notin_b true S (by wtm_at "yU") (by rw [hn]; rfl) fun s' S => ?_
    wtm_at "yA"
    refine ⟨kept_type, b_list S (by wtm_at "yH") (by rw [sizeLine_eq]; omega) fun l2 c2 s' n2 S => ?_⟩
    refine ob_eccl (S.freeze n2) ?_; intro G2 h2 e2 S
    wtm_at "yA"
    exact S.out (.refl _) ⟨rfl, _, l2, _, rfl, by wtm_at "yU", xs, c2, by wtm_at "yU", by wtm_at "yU"⟩))
theorem c_texts_fac (P : PG w G) (O : Ok A 1) (X : FnAt G a (stm 135)) {kvs : List (Str × Value)} (V : VV w G v ⟨k, its, some kvs⟩) {lv : Value} {kl : Str} {levs : List It} {tl : Option (List (Str × Value))} (hv : valueAt kvs "levels" = some lv) (VL : VV w G lv ⟨kl, levs, tl⟩) (hz : its.length ≤ 1000) (hzl : levs.length ≤ 1000)
    (hc : ∀ it ∈ its, it = .na ∨ ∃ c : Nat, it = .int ((c : Int) + 1) ∧ c < levs.length) :
    Run w A s G [] a [v] fun G' W' r => W' = [] ∧ ∃ p l ll tk, r = .ref p ∧ G'.get? p = some (tup [.str "factor" tk, .ref l, .ref ll]) ∧ Its G' (its.map (deco levs)) l ∧ Its G' levs ll := unus (by exact trivial : Us (by
  refine Run.enter X P.lim O [("v", v)] (by wtm_at "ybind") (by kernel_rfl!) fun fp s S O => ?_
  with_reducible refine ob_eeeeccccl V.open ?_; intro l at' xs n F hl AV T lx
  with_reducible refine ob_eeeeccccl VL.open ?_; intro ll al xl nl FL hll AL TL lxl
  refine ob_ecl T ?_; try clear T; rintro dd rfl D
  wtm_at "ygo"
  wtm_at "yA"
  refine ad_notin_b false S (by wtm_at "yU") (by rw [hv]; rfl) fun s' S => ?_
  wtm_at "yA"
  refine ad_sub S (by wtm_at "yU") hv (fun s' S => ?_) (by with_unfolding_all rfl)
  wtm_at "yA"
  with_reducible refine iter_list O.h S (by wtm_at "yU") fun it s' TI => ?_
  with_reducible refine comp_vk TI (Nat.le_trans (Nat.le_trans (Nat.le_of_eq lx) hz) (by decide)) (by kernel_rfl!) (ItV.mono (f := fun i => (its.map (deco levs)).getD i .na)) (fun C sD Wc i v' G' ρ' s' it d E' hi hP hG hρ S Qe hQe => ?_) fun D5 G5 s' hD5 hG5 hL5 S => ?_
  · refine ob_ecl (AV.at hP) ?_; intro iti e1 hvi
    have ed : (its.map (deco levs)).getD i .na = deco levs iti := by rw [List.getD_eq_getElem?_getD, List.getElem?_map, e1]; rfl
    rw [ed] at hQe
    rcases hc iti (List.mem_of_getElem? e1) with rfl | ⟨c, rfl, hcl⟩
    · cases hvi
      wtm_at "yA"
      exact hQe _ _ _ (Le.rfl) (rfl) S
    · refine ob_el hvi ?_; try clear hvi; rintro tc rfl
      have ec : ((c : Int) + 1 - 1) = (c : Int) := by wtm_at "yo"
      have hx : xl[((c : Int) + 1 - 1).toNat]? = some (xl[c]'(Nat.lt_of_lt_of_le hcl (Nat.le_of_eq lxl.symm))) := by rw [ec]; simp
      have hv := AL.2 c (levs.getD c .na) (xl[c]'(Nat.lt_of_lt_of_le hcl (Nat.le_of_eq lxl.symm))) (by rw [List.getD_eq_getElem?_getD, List.getElem?_eq_getElem hcl]; rfl) (by simp)
      wtm_at "yA"
      exact hQe _ _ _ (Le.rfl) (by unfold deco; dsimp only; rw [ec, Int.toNat_natCast]; wtm_at "yU") S
  · have I5 : Its G5 (its.map (deco levs)) D5 := hL5.its2 (by simp [lx]) fun i it y e r => by
      rw [List.getD_eq_getElem?_getD, e] at r; exact r
    wtm_at "yA"
    exact S.out (.refl _) ⟨rfl, _, D5, ll, _, rfl, by wtm_at "yU", by wtm_at "yU", xl, nl, by wtm_at "yU", by wtm_at "yU"⟩))
theorem c_rows (P : PG w G) (O : Ok A 1) (X : FnAt G a (stm 136)) {lc : Addr} {cs : List (List It)} {ls : List Value} {n : Nat} (hl : G.get? lc = some (lst ls n)) (lls : ls.length = cs.length) (hc : ∀ (i : Nat) c v, cs[i]? = some c → ls[i]? = some v → ∃ l, v = .ref l ∧ Its G c l) (hz : ∀ i, (rowsP (cs.take i)).length ≤ 1000) (hzc : cs.length ≤ 100) (hzi : ∀ c ∈ cs, c.length ≤ 100) :
    Run w A s G [] a [.ref lc] fun G' W' r => W' = [] ∧ ∃ l vs c, r = .ref l ∧ G'.get? l = some (lst vs c) ∧ RowVs G' (rowsP cs) vs := unus (by exact trivial : Us (by
  refine Run.enter X P.lim O [("choices", .ref lc)] (by wtm_at "ybind") (by kernel_rfl!) fun fp s S O => ?_
  wtm_at "ygo"
  wtm_at "yA"
  with_reducible refine ob_eccl (S.freeze n0) ?_; intro G1 h1 e1 S
  have R0 : RowVs G1 (rowsP (cs.take 0)) [.ref tn] := RowVs.snoc (ds := []) .nil ⟨tn, [], rfl, by wtm_at "yU", .nil⟩
  with_reducible refine iter_list O.h S (by wtm_at "yU") fun it s' TI => ?_
  refine for_it TI (fun i G' mu' ρ' => mu' = [] ∧ ∃ lr vs n, ρ' "rows" = some (.ref lr) ∧ G'.get? lr = some (lst vs n) ∧ RowVs G' (rowsP (cs.take i)) vs) ⟨rfl, _, _, _, by wtm_at "yinv", e1, R0⟩
    (fun i v' G' mu' ρ' s' it E' hi hP hG hI S Qb hQb => ?_) fun G' mu' ρ' s' hG hI S => ?_
  · refine ob_ceeeccl hI ?_; try clear hI; rintro rfl lr vs nr r1 hlr RV
    have hi' : i < cs.length := (Nat.lt_of_lt_of_le hi (Nat.le_of_eq lls))
    with_reducible refine ob_eceecl (hc i cs[i] v' (by simp [hi']) hP) ?_; rintro l rfl xs nx hlx AX
    have lxs := AX.1
    have hrl := hz i
    have hcl := hzi cs[i] (List.getElem_mem hi')
    have lvs := RV.1
    have esu := rowsP_succ (cs := cs) (i := i) (c := cs[i]) (by simp [hi'])
    have hrw : ∀ r ∈ rowsP (cs.take i), r.length ≤ 100 := fun r hr => by have := rowsP_len r hr; simp at this; omega
    generalize rowsP (cs.take i) = rows at *
    generalize cs[i] = c at *
    wtm_at "yA"
    obtain ⟨ll, hll⟩ : ∃ ll, ll = ln := ⟨_, rfl⟩
    subst hll
    with_reducible refine iter_list O.h S (by wtm_at "yU") fun itR s' TI => ?_
    refine for_it TI (fun j G2 mu' ρ' => (∃ zs m, mu' = [(ll, lst zs m), it] ∧ RowVs G2 ((c.take j).flatMap fun x => rows.map fun r => r ++ [x]) zs) ∧ ρ' "longer" = some (.ref ll) ∧ ρ' "rows" = some (.ref lr)) ⟨⟨[], 0, rfl, .nil⟩, by wtm_at "yinv", by wtm_at "yinv"⟩
      (fun j v2 G2 mu' ρ' s' it2 E' hj hP2 hG2 hI S Qb hQb => ?_) fun G2 mu' ρ' s' hG2 hI S => ?_
    · with_reducible refine ob_ccl hI ?_; try clear hI; rintro ⟨zs, m, rfl, RZ⟩ r1 r2
      with_reducible refine ob_ecl (AX.at hP2) ?_; intro x ex Vx
      have lz := RZ.1
      rw [flat_len] at lz
      have hb : (c.take j).length * rows.length ≤ 100 * 1000 := Nat.mul_le_mul (by simp; omega) hrl
      wtm_at "yA"
      with_reducible refine iter_list O.h S (by wtm_at "yU") fun itR s' TI => ?_
      refine for_it TI (fun k G3 mu' ρ' => (∃ zs m, mu' = [it2, (ll, lst zs m), it] ∧ RowVs G3 (((c.take j).flatMap fun x => rows.map fun r => r ++ [x]) ++ (rows.take k).map fun r => r ++ [x]) zs) ∧ ρ' "longer" = some (.ref ll) ∧ ρ' "rows" = some (.ref lr) ∧ ρ' "item" = some v2) ⟨⟨zs, m, rfl, by simpa using RZ⟩, by wtm_at "yinv", by wtm_at "yinv", by wtm_at "yinv"⟩
        (fun k v3 G3 mu' ρ' s' it3 E' hk hP3 hG3 hI S Qb hQb => ?_) fun G3 mu' ρ' s' hG3 hI S => ?_
      · with_reducible refine ob_cccl hI ?_; try clear hI; rintro ⟨zs, m, rfl, RZ⟩ r1 r2 r3
        with_reducible refine ob_eceeccl (RV.at hP3) ?_; rintro row er p ys rfl hp AY
        have lz := RZ.1
        rw [List.length_append, flat_len, List.length_map] at lz
        have hb2 : (rows.take k).length ≤ 1000 := by simp; omega
        have lzz : zs.length ≤ 200000 := by wtm_at "yo"
        have lyy : ys.length ≤ 100 := by rw [AY.1]; exact hrw row (List.mem_of_getElem? er)
        wtm_at "yA"
        wtm_at "yap1"
        with_reducible refine w_addtup S (by wtm_at "yU") (by wtm_at "yU") (by simp) (by rw [sizeLine_eq]; simp; omega) fun pa G5 s' h5 e5 S => ?_
        wtm_at "yA"
        wtm_at "yap2"
        refine Cont.go hQb rfl (by wtm_at "yL") (⟨⟨_, _, rfl, ?_⟩, by wtm_at "yinv", by wtm_at "yinv", by wtm_at "yinv"⟩) S
        rw [List.take_add_one, er]
        simp only [Option.toList_some, List.map_append, List.map_cons, List.map_nil]
        rw [← List.append_assoc]
        exact (RZ.up (by wtm_at "yL")).snoc ⟨pa, _, rfl, e5, AllV.snoc (by wtm_at "yU") (by wtm_at "yU")⟩
      · with_reducible refine ob_cccl hI ?_; try clear hI; rintro ⟨zs, m, rfl, RZ⟩ r1 r2 r3
        wtm_at "yA"
        refine Cont.go hQb rfl (hG3) (⟨⟨zs, m, rfl, ?_⟩, by wtm_at "yinv", by wtm_at "yinv"⟩) S
        rw [List.take_add_one, ex]
        simp only [Option.toList_some, List.flatMap_append, List.flatMap_cons, List.flatMap_nil, List.append_nil]
        rw [lvs, List.take_length] at RZ
        exact RZ
    · with_reducible refine ob_ccl hI ?_; try clear hI; rintro ⟨zs, m, rfl, RZ⟩ r1 r2
      rw [lxs, List.take_length, ← esu] at RZ
      with_reducible refine ob_eccl (S.freeze n0) ?_; intro G3 h3 e3 S
      wtm_at "yA"
      exact Cont.go hQb rfl (by wtm_at "yL") (⟨rfl, ll, zs, m, by wtm_at "yinv", e3, RZ.up h3⟩) S
  · with_reducible refine ob_ceeeccl hI ?_; try clear hI; rintro rfl lr vs nr r1 hlr RV
    rw [lls, List.take_length] at RV
    wtm_at "yA"
    exact S.out (.refl _) ⟨rfl, lr, vs, nr, rfl, hlr, RV⟩))
end
end -- P24
section -- P14
open PySem.Calls PySem.Spec
section
variable {w : World} {A : Around} {E : Value → Shared → Prop} {s0 s : Shared} {G0 G : Heap} {W0 : List Addr} {mu mu' : List (Addr × Obj)} {env : Env} {ρ : Str → Option Value} {x lf lt lu dp : Addr} {nf nt : Nat} {tf1 tf2 : Tok}
noncomputable def Frml (G : Heap) (lf : Addr) : Prop := ∃ t1 t2 n, G.get? lf = some (lst [.str "object" t1, .str "..." t2] n)
noncomputable def Tgs (G : Heap) (lt : Addr) : Prop := ∃ n, G.get? lt = some (lst [.none] n)
noncomputable def MW (lu dp : Addr) (w : World) (G : Heap) (W : List (Addr × Obj)) (xs : List Value) (kvs : List (Str × Value)) : Prop := ∃ n o, W = [(dp, o), (lu, lst xs n)] ∧ o.IsDictOf (strKind pw w) kvs
theorem c_m_init {d : Addr} (P : PG w G) (O : Ok A 1) (hx : G.get? x = some (instObj 464 d)) (ht : Tgs G lt) :
    Run w A s G [(d, emptyDict)] 421 [.ref x, .ref lf, .ref lt] fun G' W' v => v = .none ∧ ∃ o oe lu dp t n, W' = [(dp, oe), (lu, lst [.int 0 t] n), (d, o)] ∧ MD o lf lt lu dp ∧ oe.IsDictOf (strKind pw w) [] := unus (by exact trivial : Us (by
  refine Run.enter (P.mt 421 60 0 (by decide)) P.lim O [("self", .ref x), ("formals", .ref lf), ("tags", .ref lt)] (by wtm_at "ybind") (by kernel_rfl!) fun fp s S O => ?_
  refine ob_el ht ?_; try clear ht; intro n hlt
  wtm_at "ygo"
  wtm_at "yA"
  refine a_set (es := []) (n := 0) S P.K (S.z.gs _ _ hx) (by wtm_at "ymem") (by kernel_rfl!) (by kernel_rfl!) (fun _ _ => Nat.le_of_ble_eq_true (by kernel_rfl!)) fun s1 h1 t1 n1 p1 => ?_
  replace S := p1 _ (by wtm_at "yput")
  wtm_at "yA"
  refine a_set S P.K (S.z.gs _ _ hx) (by wtm_at "ymem") (by kernel_rfl!) (by kernel_rfl!) (fun _ _ => Nat.le_of_ble_eq_true (by kernel_rfl!)) fun s2 h2 t2 n2 p2 => ?_
  replace S := p2 _ (by wtm_at "yput")
  wtm_at "yA"
  refine w_mullist S (by wtm_at "yH") (by simp) (by simp) (fun lu s' nf S => ?_) (by simp)
  replace S := S.sub (List.Sublist.cons_cons _ (List.sublist_cons_self _ _))
  replace S : St _ _ _ _ ((lu, lst [.int 0 _] 0) :: _) _ _ _ := S
  wtm_at "yA"
  refine a_set S P.K (S.z.gs _ _ hx) (by wtm_at "ymem") (by kernel_rfl!) (by kernel_rfl!) (fun _ _ => Nat.le_of_ble_eq_true (by kernel_rfl!)) fun s3 h3 t3 n3 p3 => ?_
  replace S := p3 _ (by wtm_at "yput")
  wtm_at "yA"
  refine a_set S P.K (S.z.gs _ _ hx) (by wtm_at "ymem") (by kernel_rfl!) (by kernel_rfl!) (fun _ _ => Nat.le_of_ble_eq_true (by kernel_rfl!)) fun s4 h4 t4 n4 p4 => ?_
  replace S := p4 _ (by wtm_at "yput")
  wtm_at "yA"
  refine S.out (.refl _) ⟨rfl, _, _, lu, dn, _, _, rfl, ⟨fun i => [h1, h2, h3, h4].getD i 0, fun i => [t1, t2, t3, t4].getD i 0, _, rfl⟩, dict_nil _⟩))
theorem c_m_exact (P : PG w G) (O : Ok A 1) (F : FM G x lf lt lu dp) (hf : Frml G lf) (ht : Tgs G lt) : Run w A s G [] 428 [.ref x] fun G' W' v => W' = [] ∧ v = .none := unus (by exact trivial : Us (by
  refine Run.enter (P.mt 428 60 1 (by decide)) P.lim O [("self", .ref x)] (by wtm_at "ybind") (by kernel_rfl!) fun fp s S O => ?_
  refine ob_el ht ?_; try clear ht; intro n hlt
  refine ob_eeel hf ?_; try clear hf; intro t1 t2 m hlf
  wtm_at "ygo"
  wtm_at "yM"
  with_reducible refine iter_list O.h S (by wtm_at "yU") fun it s' TI => ?_
  refine for_it TI (fun i G' mu' ρ' => mu' = [] ∧ ρ' "self" = some (.ref x)) ⟨rfl, by wtm_at "yinv"⟩ (fun i v' G' mu' ρ' s' it E' hi hP hG hI S Qb hQb => ?_) fun G' mu' ρ' s' hG hI S => ?_
  · with_reducible refine ob_cl hI ?_; try clear hI; rintro rfl r1
    revert S
    rcases lt2 (by simpa using hi) with rfl | rfl <;> intro S
    · obtain rfl : Value.str "object" t1 = v' := by simpa using hP
      wtm_at "yM"
      wtm_at "yrange"
      refine for_it TI (fun i G2 mu' ρ' => mu' = [it] ∧ ρ' "self" = some (.ref x) ∧ ρ' "name" = some (.str "object" t1)) ⟨rfl, by wtm_at "yinv", by wtm_at "yinv"⟩ (fun j v2 G2 mu' ρ' s' it2 E' hj hP2 hG2 hI S Qb hQb => ?_) fun G2 mu' ρ' s' hG2 hI S => ?_
      · with_reducible refine ob_ccl hI ?_; try clear hI; rintro rfl r1 r2
        with_reducible refine ob_el hP2 ?_; try clear hP2; rintro tj rfl
        obtain rfl : j = 0 := by simpa using hj
        wtm_at "yM"
        with_reducible refine EqNone.eq_none_str ?_
        wtm_at "yM"
        exact Cont.go hQb rfl (Le.rfl) (⟨rfl, by wtm_at "yinv", by wtm_at "yinv"⟩) S
      · refine ob_ccl hI ?_; try clear hI; rintro rfl r1 r2
        wtm_at "yM"
        exact Cont.go hQb rfl (hG2) (⟨rfl, by wtm_at "yinv"⟩) S
    · obtain rfl : Value.str "..." t2 = v' := by simpa using hP
      wtm_at "yM"
      exact Cont.go hQb rfl (Le.rfl) (⟨rfl, by wtm_at "yinv"⟩) S
  · refine ob_cl hI ?_; try clear hI; rintro rfl r1
    wtm_at "yM"
    exact S.out (.refl _) ⟨rfl, rfl⟩))
theorem c_m_partial_of (P : PG w G) (O : Ok A 1) (F : FM G x lf lt lu dp) (ht : Tgs G lt) {n : Nat} {tu : Tok} {nm : Str} {tn : Tok} : Run w A s G [(lu, lst [.int 0 tu] n)] 442 [.ref x, .str nm tn] fun G' W' v => v = .none ∧ W' = [(lu, lst [.int 0 tu] n)] := unus (by exact trivial : Us (by
  refine Run.enter (P.mt 442 60 3 (by decide)) P.lim O [("self", .ref x), ("name", .str nm tn)] (by wtm_at "ybind") (by kernel_rfl!) fun fp s S O => ?_
  refine ob_el ht ?_; try clear ht; intro m hlt
  wtm_at "ygo"
  wtm_at "yM"
  wtm_at "yrange"
  refine for_it TI (fun i G2 mu' ρ' => mu' = [(lu, lst [.int 0 tu] n)] ∧ ρ' "self" = some (.ref x)) ⟨rfl, by wtm_at "yinv"⟩ (fun j v2 G2 mu' ρ' s' it2 E' hj hP2 hG2 hI S Qb hQb => ?_) fun G2 mu' ρ' s' hG2 hI S => ?_
  · with_reducible refine ob_cl hI ?_; try clear hI; rintro rfl r1
    refine ob_el hP2 ?_; try clear hP2; rintro tj rfl
    obtain rfl : j = 0 := by simpa using hj
    wtm_at "yM"
    exact Cont.go hQb rfl (Le.rfl) (⟨rfl, by wtm_at "yinv"⟩) S
  · refine ob_cl hI ?_; try clear hI; rintro rfl r1
    wtm_at "yM"
    exact S.out (.refl _) ⟨rfl, rfl⟩))
theorem c_m_is_free (P : PG w G) (O : Ok A 1) (F : FM G x lf lt lu dp) (ht : Tgs G lt) {n : Nat} {tu tz : Tok} : Run w A s G [(lu, lst [.int 0 tu] n)] 456 [.ref x, .int 0 tz] fun G' W' v => v = .bool true ∧ W' = [(lu, lst [.int 0 tu] n)] := unus (by exact trivial : Us (by
  refine Run.enter (P.mt 456 60 5 (by decide)) P.lim O [("self", .ref x), ("place", .int 0 tz)] (by wtm_at "ybind") (by kernel_rfl!) fun fp s S O => ?_
  refine ob_el ht ?_; try clear ht; intro m hlt
  wtm_at "ygo"
  wtm_at "yM"
  exact S.out (.refl _) ⟨rfl, rfl⟩))
theorem c_m_partial (P : PG w G) (O : Ok A 3) (F : FM G x lf lt lu dp) (hf : Frml G lf) (ht : Tgs G lt) {n : Nat} {tu : Tok} {o : Obj} (ho : o.IsDictOf (strKind pw w) []) : Run w A s G [(lu, lst [.int 0 tu] n), (dp, o)] 435 [.ref x] fun G' W' v => v = .none ∧ W' = [(lu, lst [.int 0 tu] n), (dp, o)] := unus (by exact trivial : Us (by
  refine Run.enter (P.mt 435 60 2 (by decide)) P.lim O [("self", .ref x)] (by wtm_at "ybind") (by kernel_rfl!) fun fp s S O => ?_
  refine ob_eeel hf ?_; try clear hf; intro t1 t2 m hlf
  wtm_at "ygo"
  wtm_at "yM"
  with_reducible refine iter_list O.h S (by wtm_at "yU") fun it s' TI => ?_
  refine for_it TI (fun i G' mu' ρ' => mu' = [(lu, lst [.int 0 tu] n), (dp, o)] ∧ ρ' "self" = some (.ref x)) ⟨rfl, by wtm_at "yinv"⟩ (fun i v' G' mu' ρ' s' it E' hi hP hG hI S Qb hQb => ?_) fun G' mu' ρ' s' hG hI S => ?_
  · with_reducible refine ob_cl hI ?_; try clear hI; rintro rfl r1
    revert S
    rcases lt2 (by simpa using hi) with rfl | rfl <;> intro S
    · obtain rfl : Value.str "object" t1 = v' := by simpa using hP
      wtm_at "yM"
      refine d_notin S (S.has (by wtm_at "ymem")) ho (S.neSys P (by wtm_at "ymem")) (strKind_is pw w _ _) fun s' S => ?_
      wtm_at "yM"
      intro pl
      with_reducible refine m_meth 442 P S (by wtm_at "yU") (by kernel_rfl!) (fun _ _ => by kernel_rfl!) ?_
      wtm_at "yM"
      have S := S.perm (List.Perm.swap (lu, lst [.int 0 tu] n) it [(dp, o)])
      refine St.call (W := [(lu, lst [.int 0 tu] n)]) (Rs := [it, (dp, o)]) S (P.mt 442 60 3 (by decide) |>.up hG) (c_m_partial_of (by wtm_at "yU") (O.mono (by decide)) (by wtm_at "yU") (by (refine ob_el ht ?_; try clear ht; intro n h); exact ⟨n, by wtm_at "yU"⟩)) fun r G3 W3 s' g3 S hp _ => ?_
      with_reducible refine ob_cl hp ?_; try clear hp; rintro rfl rfl
      have S := S.perm (List.Perm.swap it (lu, lst [.int 0 tu] n) [(dp, o)])
      wtm_at "yM"
      exact Cont.go hQb rfl (g3) (⟨rfl, by wtm_at "yinv"⟩) S
    · obtain rfl : Value.str "..." t2 = v' := by simpa using hP
      wtm_at "yM"
      exact S.out (List.sublist_cons_self _ _) ⟨rfl, rfl⟩
  · with_reducible refine ob_cl hI ?_; try clear hI; rintro rfl r1
    wtm_at "yM"
    exact S.out (.refl _) ⟨rfl, rfl⟩))
end
end -- P14
section -- P15
open PySem.Calls PySem.Spec
section
variable {w : World} {A : Around} {E : Value → Shared → Prop} {s0 s : Shared} {G0 G : Heap} {W0 : List Addr} {mu mu' : List (Addr × Obj)} {env : Env} {ρ : Str → Option Value} {x lf lt lu dp : Addr} {nf nt : Nat} {tf1 tf2 : Tok} {a : Addr}
theorem c_m_positional (P : PG w G) (O : Ok A 3) (F : FM G x lf lt lu dp) (hf : Frml G lf) (ht : Tgs G lt) {n : Nat} {tu : Tok} {o : Obj} (ho : o.IsDictOf (strKind pw w) []) :
    Run w A s G [(lu, lst [.int 0 tu] n), (dp, o)] 449 [.ref x] fun G' W' v => v = .none ∧ ∃ t2 o' tp, W' = [(lu, lst [.int 2 t2] n), (dp, o')] ∧ o'.IsDictOf (strKind pw w) [("object", .int 0 tp)] := unus (by exact trivial : Us (by
  refine Run.enter (P.mt 449 60 4 (by decide)) P.lim O [("self", .ref x)] (by wtm_at "ybind") (by kernel_rfl!) fun fp s S O => ?_
  refine ob_eeel hf ?_; try clear hf; intro t1 t2 m hlf
  refine ob_el ht ?_; try clear ht; intro mt hlt
  wtm_at "ygo"
  wtm_at "yM"
  with_reducible refine iter_list O.h S (by wtm_at "yU") fun it s' TI => ?_
  refine for_it TI (fun i G' mu' ρ' => ρ' "self" = some (.ref x) ∧ (∃ t, ρ' "place" = some (.int 0 t)) ∧ if i = 0 then mu' = [(lu, lst [.int 0 tu] n), (dp, o)] else ∃ t2 o' tp, mu' = [(lu, lst [.int 2 t2] n), (dp, o')] ∧ o'.IsDictOf (strKind pw w) [("object", .int 0 tp)])
    ⟨by wtm_at "yinv", by wtm_at "yinv", by rw [if_pos rfl]⟩ (fun i v' G' mu' ρ' s' it E' hi hP hG hI S Qb hQb => ?_) fun G' mu' ρ' s' hG hI S => ?_
  · with_reducible refine ob_ccl hI ?_; try clear hI; rintro r1 ⟨tpl, r2⟩ hm
    revert S
    rcases lt2 (by simpa using hi) with rfl | rfl <;> intro S
    · rw [if_pos rfl] at hm
      subst hm
      obtain rfl : Value.str "object" t1 = v' := by simpa using hP
      wtm_at "yM"
      refine d_notin S (S.has (by wtm_at "ymem")) ho (S.neSys P (by wtm_at "ymem")) (strKind_is pw w _ _) fun s' S => ?_
      wtm_at "yM"
      refine while_skip ?_
      wtm_at "yM"
      intro pl
      with_reducible refine m_meth 456 P S (by wtm_at "yU") (by kernel_rfl!) (fun _ _ => by kernel_rfl!) ?_
      wtm_at "yM"
      have S := S.perm (List.Perm.swap (lu, lst [.int 0 tu] n) it [(dp, o)])
      refine St.call (W := [(lu, lst [.int 0 tu] n)]) (Rs := [it, (dp, o)]) S (P.mt 456 60 5 (by decide) |>.up (by wtm_at "yL")) (c_m_is_free (by wtm_at "yU") (O.mono (by decide)) (by wtm_at "yU") (lt := lt) ⟨mt, by wtm_at "yU"⟩) fun r G3 W3 s' g3 S hp _ => ?_
      with_reducible refine ob_cl hp ?_; try clear hp; rintro rfl rfl
      have S := S.perm (List.Perm.swap it (lu, lst [.int 0 tu] n) [(dp, o)])
      wtm_at "yM"
      refine ⟨rfl, ?_⟩
      wtm_at "yM"
      refine d_set S (by wtm_at "ymem") ho (strKind_is pw w _ _) (by simp) fun s' o' ho2 hpu => ?_
      replace S := hpu _ (by wtm_at "yput")
      wtm_at "yM"
      with_reducible refine set_list S (by wtm_at "ymem") (by decide) (by simp) (by simp) fun s' hpu => ?_
      replace S := hpu _ (by wtm_at "yput")
      wtm_at "yM"
      exact Cont.go hQb rfl (g3) (⟨by wtm_at "yinv", by wtm_at "yinv", by refine ite_no (by decide) ?_; exact ⟨_, o', _, rfl, ho2⟩⟩) S
    · rw [if_neg (by omega)] at hm
      with_reducible refine ob_eeecl hm ?_; try clear hm; rintro tu2 o' tp rfl ho'
      obtain rfl : Value.str "..." t2 = v' := by simpa using hP
      wtm_at "yM"
      exact S.out (List.sublist_cons_self _ _) ⟨rfl, _, _, _, rfl, ho'⟩
  · with_reducible refine ob_ccl hI ?_; try clear hI; rintro r1 ⟨tpl, r2⟩ hm
    rw [if_neg (by simp)] at hm
    refine ob_eeecl hm ?_; try clear hm; rintro tu2 o' tp rfl ho'
    wtm_at "yM"
    exact S.out (.refl _) ⟨rfl, _, _, _, rfl, ho'⟩))
theorem c_m_rest (P : PG w G) (O : Ok A 1) (F : FM G x lf lt lu dp) (ht : Tgs G lt) {n : Nat} {t2 : Tok} (hu : G.get? lu = some (lst [.int 2 t2] n)) : Run w A s G [] 461 [.ref x] fun G' W' v => W' = [] ∧ ∃ lr c, v = .ref lr ∧ G'.get? lr = some (lst [] c) := unus (by exact trivial : Us (by
  refine Run.enter (P.mt 461 60 6 (by decide)) P.lim O [("self", .ref x)] (by wtm_at "ybind") (by kernel_rfl!) fun fp s S O => ?_
  refine ob_el ht ?_; try clear ht; intro mt hlt
  wtm_at "ygo"
  wtm_at "yM"
  wtm_at "yrange"
  refine comp_vf TI (by simp) (by kernel_rfl!) (b := fun _ => false) (R := fun _ _ _ => True) (fun _ _ _ _ _ h => h) (fun C sD Wc i v' G' ρ' s' it d E' hi hP hG hρ S Qe Qn hQe hQn => ?_) fun D G' s' hD hG hL S => ?_
  · with_reducible refine ob_el hP ?_; try clear hP; rintro ti rfl
    obtain rfl : i = 0 := by simpa using hi
    wtm_at "yM"
    exact ⟨rfl, fun h => absurd h Bool.false_ne_true, fun h => hQn _ _ Le.rfl S⟩
  · refine ob_eeccl hL ?_; try clear hL; intro ys c e1 e2 _
    have : ys = [] := by simpa using e2
    subst this
    wtm_at "yM"
    exact S.out (.refl _) ⟨rfl, D, c, rfl, e1⟩))
theorem c_match_names (P : PG w G) (O : Ok A 6) (X : FnAt G a (stm 64)) (hf : Frml G lf) {la p : Addr} {m : Nat} {v : Value} (hla : G.get? la = some (lst [.ref p] m)) (hp : G.get? p = some (tup [.none, v])) :
    Run w A s G [] a [.ref lf, .ref la, .none] fun G' W' r => W' = [] ∧ ∃ q dp lr c tp, r = .ref q ∧ G'.get? q = some (tup [.ref dp, .ref lr]) ∧ AD w G' dp [("object", .int 0 tp)] ∧ G'.get? lr = some (lst [] c) := unus (by exact trivial : Us (by
  refine Run.enterD X P.lim O [("formals", .ref lf), ("args", .ref la), ("show", .none)] (fun nm q T ot m kV doc pm an cdv ct h1 h2 => BindsTo.of_defaults rfl h1 h2 rfl (by kernel_rfl!)) (by kernel_rfl!) fun fp s S O => ?_
  wtm_at "ygo"
  wtm_at "yM"
  with_reducible refine iter_list O.h S (by wtm_at "yU") fun it s' TI => ?_
  refine comp_vk TI (by simp) (by kernel_rfl!) (R := fun _ _ y => y = .none) (fun _ _ _ _ _ h => h) (fun C sD Wc i v' G' ρ' s' it d E' hi hP hG hρ S Qe hQe => ?_) fun D G1 s' hD hG hL S => ?_
  · obtain rfl : i = 0 := by simpa using hi
    obtain rfl : Value.ref p = v' := by simpa using hP
    wtm_at "yM"
    exact hQe _ _ _ (Le.rfl) (rfl) S
  · refine ob_eeccl hL ?_; try clear hL; intro ys c e1 e2 e3
    have : ys = [.none] := by
      (refine ob_el (List.length_eq_one_iff.mp (by simpa using e2)) ?_; rintro y rfl); rw [e3 0 y (by simp)]
    subst this
    wtm_at "yM"
    refine ⟨kept_cls (P.K.keeps S.le0) (by kernel_rfl!), ?_⟩
    refine new_inst (W := []) (Rs := []) (f := 421) (Pi := fun x d G' W' => ∃ o oe lu dp t n, W' = [(dp, oe), (lu, lst [.int 0 t] n), (d, o)] ∧ MD o lf D lu dp ∧ oe.IsDictOf (strKind pw w) []) S (by exact (P.up (by wtm_at "yL")).K) (by kernel_rfl!) (by kernel_rfl!) (fun A' x d G1 s1 OO g1 hx hs1 hm hnd => ?_) fun x d G' W' s' g hx hd ⟨o, oe, lu, dp, t, n, e, M, ho⟩ S => ?_
    · have P1 : PG w G1 := P.up (by wtm_at "yL")
      exact c_m_init P1 (OO 1 (O.mono (by decide))) hx ⟨c, by wtm_at "yU"⟩ hs1 hm hnd
    · subst e
      have S := nila S
      have fr := fresh0 hW0 S
      have S := S.perm (mu' := [(d, o), (lu, lst [.int 0 t] n), (dp, oe)]) (List.reverse_perm _).symm
      with_reducible refine ob_eccl (S.freeze (fr (d, o) (by simp))) ?_; intro G3 g3 e3 S
      have F : FM G3 x lf D lu dp := ⟨d, o, g3 _ _ hx, e3, M⟩
      have hf' : Frml G3 lf := by
        refine ob_eeel hf ?_; try clear hf; intro t1 t2 n h
        exact ⟨t1, t2, n, by wtm_at "yU"⟩
      have ht' : Tgs G3 D := ⟨c, by wtm_at "yU"⟩
      have P3 : PG w G3 := by wtm_at "yU"
      wtm_at "yM"
      intro pl
      with_reducible refine m_meth 428 P S F (by kernel_rfl!) (fun _ _ => by kernel_rfl!) ?_
      wtm_at "yM"
      with_reducible refine call0 S (P3.mt 428 60 1 (by decide)) (c_m_exact P3 (O.mono (by decide)) F hf' ht') fun r G4 s' g4 S hp => ?_
      obtain rfl := hp
      wtm_at "yM"
      intro pl
      with_reducible refine m_meth 435 P S (by wtm_at "yU") (by kernel_rfl!) (fun _ _ => by kernel_rfl!) ?_
      wtm_at "yM"
      have P4 : PG w G4 := P3.up g4
      have hf4 : Frml G4 lf := by
        refine ob_eeel hf' ?_; try clear hf'; intro t1 t2 n h
        exact ⟨t1, t2, n, by wtm_at "yU"⟩
      have ht4 : Tgs G4 D := ⟨c, by wtm_at "yU"⟩
      refine St.call (W := [(lu, lst [.int 0 t] n), (dp, oe)]) (Rs := []) S (P4.mt 435 60 2 (by decide)) (c_m_partial P4 (O.mono (by decide)) (F.up' g4) hf4 ht4 ho) fun r G5 W5 s' g5 S hp _ => ?_
      with_reducible refine ob_cl hp ?_; try clear hp; rintro rfl rfl
      have S := nila S
      wtm_at "yM"
      intro pl
      with_reducible refine m_meth 449 P S (by wtm_at "yU") (by kernel_rfl!) (fun _ _ => by kernel_rfl!) ?_
      wtm_at "yM"
      have P5 : PG w G5 := P4.up g5
      have hf5 : Frml G5 lf := by
        refine ob_eeel hf4 ?_; try clear hf4; intro t1 t2 n h
        exact ⟨t1, t2, n, by wtm_at "yU"⟩
      have ht5 : Tgs G5 D := ⟨c, by wtm_at "yU"⟩
      refine St.call (W := [(lu, lst [.int 0 t] n), (dp, oe)]) (Rs := []) S (P5.mt 449 60 4 (by decide)) (c_m_positional P5 (O.mono (by decide)) ((F.up' g4).up' g5) hf5 ht5 ho) fun r G6 W6 s' g6 S hp _ => ?_
      with_reducible refine ob_ceeecl hp ?_; try clear hp; rintro rfl tu2 o6 tp rfl ho6
      have S := nila S
      have fr := fresh0 hW0 S
      with_reducible refine ob_eccl (S.freeze (fr (lu, _) (by simp))) ?_; intro G7 g7 e7 S
      with_reducible refine ob_eccl (AD.of P S ho6 (fr (dp, o6) (by simp))) ?_; intro G8 g8 D8 S
      wtm_at "yM"
      intro pl
      with_reducible refine m_meth 461 P S (by wtm_at "yU") (by kernel_rfl!) (fun _ _ => by kernel_rfl!) ?_
      wtm_at "yM"
      have P8 : PG w G8 := by wtm_at "yU"
      refine call0 S (P8.mt 461 60 6 (by decide)) (c_m_rest P8 (O.mono (by decide)) (by wtm_at "yU") (lt := D) ⟨c, by wtm_at "yU"⟩ (by wtm_at "yU")) fun r G9 s' g9 S hp => ?_
      refine ob_eecl hp ?_; try clear hp; rintro lr c9 rfl h9
      wtm_at "yM"
      exact S.out (.refl _) ⟨rfl, tn, dp, lr, c9, tp, rfl, by wtm_at "yU", by wtm_at "yU", by wtm_at "yU"⟩))
theorem c_take_obj (P : PG w G) (O : Ok A 8) (X : FnAt G a (stm 66)) (hf : Frml G lf) {la p d : Addr} {m : Nat} {v : Value} (hla : G.get? la = some (lst [.ref p] m)) (hp : G.get? p = some (tup [.none, v])) :
    Run w A s G [] a [.ref la, .ref lf] fun G' W' r => W' = [] ∧ ∃ l lr c, r = .ref l ∧ G'.get? l = some (lst [v, .ref lr] c) := unus (by exact trivial : Us (by
  refine Run.enterD X P.lim O [("args", .ref la), ("formals", .ref lf), ("show", .none)] (fun nm q T ot m kV doc pm an cdv ct h1 h2 => BindsTo.of_defaults rfl h1 h2 rfl (by kernel_rfl!)) (by kernel_rfl!) fun fp s S O => ?_
  refine ob_eeel hf ?_; try clear hf; intro t1 t2 n hlf
  with_reducible refine ob_ecl (P.at "match_names" 64 (by kernel_rfl!)) ?_; intro a1 g1 X1
  wtm_at "ygo"
  wtm_at "yM"
  wtm_at "yat"
  refine ⟨kept_type, b_list S (by wtm_at "yH") (by simp [sizeLine_eq]) fun l2 c2 s' n2 S => ?_⟩
  with_reducible refine ob_eccl (S.freeze n2) ?_; intro G2 g2 e2 S
  wtm_at "yM"
  refine call0 S (by wtm_at "yU") (c_match_names (by wtm_at "yU") (O.mono (by decide)) (by wtm_at "yU") ⟨t1, t2, _, e2⟩ (by wtm_at "yU") (by wtm_at "yU")) fun r G3 s' g3 S hp => ?_
  with_reducible refine ob_eeeeecccl hp ?_; try clear hp; rintro q dp lr c tp rfl hq D hlr
  refine assign_two O.h S (by wtm_at "yH") (by kernel_rfl!) (by kernel_rfl!) (by kernel_rfl!) fun s' S => ?_
  wtm_at "yM"
  with_reducible refine iter_list O.h S (by wtm_at "yU") fun it s' TI => ?_
  refine for_it TI (fun i G' mu' ρ' => ρ' "places" = some (.ref dp) ∧ ρ' "rest" = some (.ref lr) ∧ ρ' "args" = some (.ref la) ∧ ρ' "values" = some (.ref ln) ∧ ∃ zs m lr, mu' = [(ln, lst zs m)] ∧ zs = [v, .ref lr].take i)
    ⟨by wtm_at "yinv", by wtm_at "yinv", by wtm_at "yinv", by wtm_at "yinv", _, _, lr, rfl, rfl⟩ (fun i v' G' mu' ρ' s' it E' hi hP hG hI S Qb hQb => ?_) fun G' mu' ρ' s' hG hI S => ?_
  · with_reducible refine ob_cccceeecl hI ?_; try clear hI; rintro r1 r2 r3 r4 zs mz lr2 rfl hzs
    revert S
    rcases lt2 (by simpa using hi) with rfl | rfl <;> intro S
    · obtain rfl : Value.str "object" t1 = v' := by simpa using hP
      obtain rfl : zs = [] := hzs
      wtm_at "yM"
      intro pl
      with_reducible refine meth_list (by wtm_at "yH") PySem.F.slot_list_append (by kernel_rfl!) ?_
      wtm_at "yM"
      wtm_at "yap2"
      exact Cont.go hQb rfl (Le.rfl) (⟨by wtm_at "yinv", by wtm_at "yinv", by wtm_at "yinv", by wtm_at "yinv", _, _, lr2, rfl, rfl⟩) S
    · obtain rfl : Value.str "..." t2 = v' := by simpa using hP
      obtain rfl : zs = [v] := hzs
      wtm_at "yM"
      intro pl
      with_reducible refine meth_list (by wtm_at "yH") PySem.F.slot_list_append (by kernel_rfl!) ?_
      wtm_at "yM"
      with_reducible refine iter_list O.h S (by wtm_at "yU") fun it s' TI => ?_
      refine comp_vk TI (by simp) (by kernel_rfl!) (R := fun _ _ _ => True) (fun _ _ _ _ _ h => h) (fun C sD Wc i v' G' ρ' s' it d E' hi hP hG hρ S => absurd hi (by simp)) fun D9 G9 s' hD9 hG9 hL S => ?_
      wtm_at "yM"
      wtm_at "yap2"
      exact Cont.go hQb rfl (hG9) (⟨by wtm_at "yinv", by wtm_at "yinv", by wtm_at "yinv", by wtm_at "yinv", _, _, D9, rfl, rfl⟩) S
  · with_reducible refine ob_cccceeecl hI ?_; try clear hI; rintro r1 r2 r3 r4 zs mz lr2 rfl hzs
    with_reducible refine ob_eccl (S.freeze n0) ?_; intro G4 g4 e4 S
    wtm_at "yM"
    exact S.out (.refl _) ⟨rfl, ln, lr2, mz, rfl, by rw [e4, hzs]; rfl⟩))
end
end -- P15
section -- P16
open PySem.Calls PySem.Spec
noncomputable def omK : Option (List It) → Value → Value → List (Str × Value)
  | none, _, cv => [("class", cv)]
  | some _, nv, cv => [("names", nv), ("class", cv)]
noncomputable def incs (ps : List Nat) : List It := ps.map fun (p : Nat) => .int ((p : Int) + 1)
/-- a note of what was left out -/
noncomputable def Note (w : World) (G : Heap) (v : Value) (ps : List Nat) (tx : Option (List It)) : Prop := ∃ nv cv, VV w G v ⟨"integer", incs ps, some (omK tx nv cv)⟩ ∧ VV w G cv ⟨"character", [.txt "omit"], none⟩ ∧ ∀ t, tx = some t → VV w G nv ⟨"character", pickI t ps, none⟩
theorem Note.up {w : World} {G H : Heap} {v : Value} {ps : List Nat} {tx : Option (List It)} (x : Note w G v ps tx) (g : Le G H) : Note w H v ps tx := by obtain ⟨nv, cv, a, b, c⟩ := x; exact ⟨nv, cv, a.up g, b.up g, fun t e => (c t e).up g⟩
theorem pickI_at {its : List It} {ps : List Nat} {i p : Nat} (hp : ps[i]? = some p) : (pickI its ps).getD i .na = its.getD p .na := by
  unfold pickI
  rw [List.getD_eq_getElem?_getD, List.getElem?_map, hp]; rfl
section
variable {w : World} {A : Around} {s : Shared} {G : Heap} {a : Addr} {v : Value} {k : Str} {l : Addr} {at' : Value} {t : Option (List (Str × Value))} {its : List It} {cols : List Vd} {names : List It} {rk : Str} {ri : List It} {rd : Vd}
theorem c_needed (P : PG w G) (O : Ok A 1) (X : FnAt G a (stm 65)) {tn : Tok} {x : Addr} : Run w A s G [] a [.ref x, .str "object" tn] fun G' W' r => W' = [] ∧ r = .ref x := by
  refine Run.enter X P.lim O [("value", .ref x), ("name", .str "object" tn)] (by wtm_at "ybind") (by kernel_rfl!) fun fp s S O => ?_
  wtm_at "ygo"
  wtm_at "yA"
  exact S.out (.refl _) ⟨rfl, rfl⟩
theorem c_omitted (P : PG w G) (O : Ok A 7) (X : FnAt G a (stm 127)) {ps : List Nat} {lp : Addr} (hp : Its G (ps.map nat) lp) (hzp : ps.length ≤ 1000) {tv : Value} {tx : Option (List It)} (ht : (tx = none ∧ tv = .none) ∨ ∃ tl lt, tx = some tl ∧ tv = .ref lt ∧ Its G tl lt ∧ tl.length ≤ 100000 ∧ ∀ p ∈ ps, p < tl.length) :
    Run w A s G [] a [.ref lp, tv] fun G' W' r => W' = [] ∧ Note w G' r ps tx := unus (by exact trivial : Us (by
  refine Run.enter X P.lim O [("places", .ref lp), ("texts", tv)] (by wtm_at "ybind") (by kernel_rfl!) fun fp s S O => ?_
  refine ob_eecl hp ?_; try clear hp; intro ys m hlp AP
  have lys : ys.length = ps.length := by simpa using AP.1
  with_reducible refine ob_ecl (P.at "integer" 43 (by kernel_rfl!)) ?_; intro a2 g2 X2
  with_reducible refine ob_ecl (P.at "character" 44 (by kernel_rfl!)) ?_; intro a3 g3 X3
  wtm_at "ygo"
  wtm_at "yA"
  with_reducible refine iter_list O.h S (by wtm_at "yU") fun it s' TI => ?_
  with_reducible refine comp_vk TI (Nat.le_trans (Nat.le_trans (Nat.le_of_eq lys) hzp) (by decide)) (by kernel_rfl!) (ItV.mono (f := fun i => (incs ps).getD i .na)) (fun C sD Wc i v' G' ρ' s' it d E' hi hP hG hρ S Qe hQe => ?_) fun D9 G9 s' hD9 hG9 hL S => ?_
  · with_reducible refine ob_ecl (AP.at hP) ?_; intro itp e1 hv
    rw [List.getElem?_map] at e1
    with_reducible refine ob_ecl (Option.map_eq_some_iff.mp e1) ?_; rintro p hp rfl
    refine ob_el hv ?_; try clear hv; rintro tp rfl
    have ec : (incs ps).getD i .na = .int ((p : Int) + 1) := by
      unfold incs
      rw [List.getD_eq_getElem?_getD, List.getElem?_map, hp]; rfl
    wtm_at "yA"
    exact hQe _ _ _ (Le.rfl) (by rw [ec]; exact ⟨_, rfl⟩) S
  · have II : Its G9 (incs ps) D9 := hL.its2 (by unfold incs; simp [lys]) fun i it y e r => by
      rw [List.getD_eq_getElem?_getD, e] at r; exact r
    wtm_at "yA"
    with_reducible refine callU S (by wtm_at "yU") (d_integer (by wtm_at "yU") (O.mono (by decide)) (by wtm_at "yU") II (by unfold incs; simp; omega)) fun x d o l5 at5 G5 s' g5 S hd0 hx V I5 T5 => ?_
    wtm_at "yA"
    refine v_set S P (by wtm_at "yH") (by wtm_at "ymem") V (.inr ⟨_, rfl⟩) fun s' o' V' hpu => ?_
    replace S := hpu _ (by wtm_at "yput")
    have S := S.perm (List.Perm.swap (d, o') (dn, emptyDict) [])
    with_reducible refine ob_eccl (S.freeze hd0) ?_; intro G6 g6 e6 S
    have F : FV G6 (.ref x) "integer" l5 (.ref dn) := ⟨x, d, o', rfl, g6 _ _ hx, e6, V'⟩
    revert S
    rcases ht with ⟨rfl, rfl⟩ | ⟨tl, lt, rfl, rfl, IT, htl, hps⟩ <;> intro S
    · wtm_at "yA"
      with_reducible refine ob_eccl (S.freeze n0) ?_; intro G7 g7 e7 S
      refine callV S (by wtm_at "yU") (d_character (by wtm_at "yU") (O.mono (by decide)) (by wtm_at "yU") (its := [.txt "omit"]) ⟨_, _, e7, .cons ⟨_, rfl⟩ .nil⟩ (by simp)) fun cv G8 s' g8 S VC => ?_
      wtm_at "yA"
      refine d_set S (by wtm_at "ymem") (dict_nil (strKind pw w)) (strKind_is pw w _ _) (by simp) fun s' o2 ho hpu => ?_
      replace S := hpu _ (by wtm_at "yput")
      replace ho : o2.IsDictOf (strKind pw w) [("class", cv)] := ho
      wtm_at "yA"
      with_reducible refine ob_eccl (AD.of P S ho nd0) ?_; intro G9 g9 D9 S
      wtm_at "yqs"
      exact S.out (.refl _) ⟨rfl, .none, cv, ⟨l5, .ref dn, by wtm_at "yU", by wtm_at "yU", ⟨dn, rfl, D9⟩⟩, by wtm_at "yU", fun t e => by cases e⟩
    · refine ob_eecl IT ?_; try clear IT; intro zs mz hlt AZ
      have lzs := AZ.1
      wtm_at "yA"
      with_reducible refine iter_list O.h S (by wtm_at "yU") fun it s' TI => ?_
      with_reducible refine comp_vk TI (Nat.le_trans (Nat.le_trans (Nat.le_of_eq lys) hzp) (by decide)) (by kernel_rfl!) (ItV.mono (f := fun i => (pickI tl ps).getD i .na)) (fun C sD Wc i v' G' ρ' s' it d E' hi hP hG hρ S Qe hQe => ?_) fun D8 G8 s' hD8 hG8 hL8 S => ?_
      · with_reducible refine ob_ecl (AP.at hP) ?_; intro itp e1 hv
        rw [List.getElem?_map] at e1
        with_reducible refine ob_ecl (Option.map_eq_some_iff.mp e1) ?_; rintro p hp rfl
        refine ob_el hv ?_; try clear hv; rintro tp rfl
        have hpl := hps p (List.mem_of_getElem? hp)
        have hx : zs[((p : Int)).toNat]? = some (zs[p]'(Nat.lt_of_lt_of_le hpl (Nat.le_of_eq lzs.symm))) := by simp
        have hv := AZ.2 p (tl.getD p .na) (zs[p]'(Nat.lt_of_lt_of_le hpl (Nat.le_of_eq lzs.symm))) (by rw [List.getD_eq_getElem?_getD, List.getElem?_eq_getElem hpl]; rfl) (by simp)
        wtm_at "yA"
        exact hQe _ _ _ (Le.rfl) (by rw [pickI_at hp]; wtm_at "yU") S
      · have IN : Its G8 (pickI tl ps) D8 := hL8.its2 (by unfold pickI; simp [lys]) fun i it y e r => by
          rw [List.getD_eq_getElem?_getD, e] at r; exact r
        wtm_at "yA"
        with_reducible refine callV S (by wtm_at "yU") (d_character (by wtm_at "yU") (O.mono (by decide)) (by wtm_at "yU") IN (by unfold pickI; simp; omega)) fun nv G9 s' g9 S VN => ?_
        wtm_at "yA"
        refine d_set S (by wtm_at "ymem") (dict_nil (strKind pw w)) (strKind_is pw w _ _) (by simp) fun s' o1 ho1 hpu => ?_
        replace S := hpu _ (by wtm_at "yput")
        replace ho1 : o1.IsDictOf (strKind pw w) [("names", nv)] := ho1
        wtm_at "yA"
        with_reducible refine ob_eccl (S.freeze n0) ?_; intro G7 g7 e7 S
        refine callV S (by wtm_at "yU") (d_character (by wtm_at "yU") (O.mono (by decide)) (by wtm_at "yU") (its := [.txt "omit"]) ⟨_, _, e7, .cons ⟨_, rfl⟩ .nil⟩ (by simp)) fun cv G10 s' g10 S VC => ?_
        wtm_at "yA"
        refine d_set S (by wtm_at "ymem") ho1 (strKind_is pw w _ _) (by simp [sizeLine_eq]) fun s' o2 ho hpu => ?_
        replace S := hpu _ (by wtm_at "yput")
        replace ho : o2.IsDictOf (strKind pw w) [("names", nv), ("class", cv)] := ho
        wtm_at "yA"
        with_reducible refine ob_eccl (AD.of P S ho nd0) ?_; intro G11 g11 D11 S
        wtm_at "yqs"
        exact S.out (.refl _) ⟨rfl, nv, cv, ⟨l5, .ref dn, by wtm_at "yU", by wtm_at "yU", ⟨dn, rfl, D11⟩⟩, by wtm_at "yU", fun t e => by cases e; wtm_at "yU"⟩))
end
end -- P16
section -- P17
open PySem.Calls PySem.Spec
noncomputable def okAt (cols : List Vd) (p : Nat) : Bool := !(cols.any fun d => lackIt d.k (d.its.getD p .na))
noncomputable def keptP (cols : List Vd) (R : Nat) : List Nat := (List.range R).filter (okAt cols)
noncomputable def goneP (cols : List Vd) (R : Nat) : List Nat := (List.range R).filter fun p => !okAt cols p
theorem keptP_lt {cols : List Vd} {R : Nat} : ∀ p ∈ keptP cols R, p < R := fun p hp => by simpa using (List.mem_filter.mp hp).1
theorem goneP_lt {cols : List Vd} {R : Nat} : ∀ p ∈ goneP cols R, p < R := fun p hp => by simpa using (List.mem_filter.mp hp).1
theorem keptP_nodup {cols : List Vd} {R : Nat} : (keptP cols R).Nodup := List.nodup_range.filter _
theorem keptP_len {cols : List Vd} {R : Nat} : (keptP cols R).length ≤ R := by
  have := List.length_filter_le (okAt cols) (List.range R)
  rw [List.length_range] at this
  exact this
theorem goneP_len {cols : List Vd} {R : Nat} : (goneP cols R).length ≤ R := by
  have := List.length_filter_le (fun p => !okAt cols p) (List.range R)
  rw [List.length_range] at this
  exact this
theorem flag_of {cols : List Vd} {p : Nat} {G : Heap} {v : Value} (h : ItV G (flagAt cols p) v) : ∃ t, v = .int (if okAt cols p then 1 else 0) t := by
  refine ob_el h ?_; try clear h; rintro t rfl
  refine ⟨t, ?_⟩
  unfold okAt
  cases cols.any fun d => lackIt d.k (d.its.getD p .na) <;> rfl
theorem is_one {b : Bool} : ((if b = true then (1 : Int) else 0) == 1) = b := by cases b <;> rfl
theorem is_zero {b : Bool} : ((if b = true then (1 : Int) else 0) == 0) = !b := by cases b <;> rfl
/-- a frame with a note -/
noncomputable def VFN (w : World) (G : Heap) (v : Value) (f : Frm') (ov : Value) : Prop := ∃ da lI nv cv rv, FV G v "list" lI (.ref da) ∧ AD w G da [("names", nv), ("class", cv), ("row.names", rv), ("na.action", ov)] ∧ VVs w G f.cols lI ∧ VV w G nv ⟨"character", f.names, none⟩ ∧ VV w G cv ⟨"character", [.txt "data.frame"], none⟩ ∧ VV w G rv f.rows
section
variable {w : World} {A : Around} {s : Shared} {G : Heap} {a : Addr} {v : Value} {k : Str} {l : Addr} {at' : Value} {t : Option (List (Str × Value))} {its : List It} {cols : List Vd} {names : List It} {rk : Str} {ri : List It} {rd : Vd}
theorem c_na_omit_frame (P : PG w G) (O : Ok A 10) (X : FnAt G a (stm 128)) {la p : Addr} {m : Nat} (hla : G.get? la = some (lst [.ref p] m)) (hp : G.get? p = some (tup [.none, v])) (V : VF w G v ⟨cols, names, ⟨rk, ri, none⟩⟩)
    (hR : ri.length ≤ 1000) (hc : ∀ d ∈ cols, ColOk ri.length d ∧ tSmall d.t) (hz : cols.length ≤ 1000) (hn : names.length = cols.length) (hpos : 0 < cols.length) (ht : txts names) (hl : ∀ it ∈ ri, LOk rk it) :
    Run w A s G [] a [.none, .ref la, .none] fun G' W' r => W' = [] ∧ ((goneP cols ri.length = [] ∧ r = v) ∨ (goneP cols ri.length ≠ [] ∧ ∃ ov, VFN w G' r ⟨cols.map (pickD (keptP cols ri.length)), names, ⟨rk, pickI ri (keptP cols ri.length), none⟩⟩ ov ∧ Note w G' ov (goneP cols ri.length) (some (ri.map labelOf)))) := unus (by exact trivial : Us (by
  refine Run.enter X P.lim O [("interp", .none), ("args", .ref la), ("env", .none)] (by wtm_at "ybind") (by kernel_rfl!) fun fp s S O => ?_
  with_reducible refine ob_eeeeecccccl V.open ?_; intro da lI nv cv rv F D IV VN VC VR
  refine ob_eeecccl F ?_; try clear F; rintro x d o rfl hx hd VX
  have F : FV G (.ref x) "list" lI (.ref da) := ⟨x, d, o, rfl, hx, hd, VX⟩
  with_reducible refine ob_ecl (P.at "take" 66 (by kernel_rfl!)) ?_; intro a1 g1 X1
  with_reducible refine ob_ecl (P.at "needed" 65 (by kernel_rfl!)) ?_; intro a2 g2 X2
  with_reducible refine ob_ecl (P.at "is_vector" 47 (by kernel_rfl!)) ?_; intro a3 g3 X3
  with_reducible refine ob_ecl (P.at "is_frame" 103 (by kernel_rfl!)) ?_; intro a4 g4 X4
  with_reducible refine ob_ecl (P.at "complete_rows" 122 (by kernel_rfl!)) ?_; intro a5 g5 X5
  with_reducible refine ob_ecl (P.at "pick_rows" 118 (by kernel_rfl!)) ?_; intro a6 g6 X6
  with_reducible refine ob_ecl (P.at "omitted" 127 (by kernel_rfl!)) ?_; intro a7 g7 X7
  with_reducible refine ob_ecl (P.at "row_names" 108 (by kernel_rfl!)) ?_; intro a8 g8 X8
  wtm_at "ygo"
  wtm_at "yA"
  with_reducible refine ob_eccl (S.freeze n0) ?_; intro G0 h0 e0 S
  refine call0 S (by wtm_at "yU") (c_take_obj (by wtm_at "yU") (O.mono (by decide)) (by wtm_at "yU") ⟨_, _, _, e0⟩ (d := d) (by wtm_at "yU") (by wtm_at "yU")) fun r G1 s' h1 S hp => ?_
  with_reducible refine ob_eeecl hp ?_; try clear hp; rintro lt lr c1 rfl hlt
  wtm_at "yA"
  with_reducible refine call0 S (by wtm_at "yU") (c_needed (by wtm_at "yU") (O.mono (by decide)) (by wtm_at "yU")) fun r G2 s' h2 S hp => ?_
  obtain rfl := hp
  wtm_at "yA"
  with_reducible refine call0 S (by wtm_at "yU") (c_is_vector (by wtm_at "yU") (O.mono (by decide)) (by wtm_at "yU") (x := x) (d := d) (by wtm_at "yU")) fun r G3 s' h3 S hp => ?_
  obtain rfl := hp
  wtm_at "yA"
  with_reducible refine call0 S (by wtm_at "yU") (c_is_frame (by wtm_at "yU") (O.mono (by decide)) (by wtm_at "yU") (v := .ref x) (by wtm_at "yU") rfl hR (fun d hd => (hc d hd).1.l) hz hn hpos) fun r G4 s' h4 S hp => ?_
  obtain rfl := hp
  wtm_at "yA"
  with_reducible refine call0 S (by wtm_at "yU") (c_is_frame (by wtm_at "yU") (O.mono (by decide)) (by wtm_at "yU") (v := .ref x) (by wtm_at "yU") rfl hR (fun d hd => (hc d hd).1.l) hz hn hpos) fun r G5 s' h5 S hp => ?_
  obtain rfl := hp
  wtm_at "yA"
  with_reducible refine call0 S (by wtm_at "yU") (c_complete_rows (by wtm_at "yU") (O.mono (by decide)) (by wtm_at "yU") (v := .ref x) (by wtm_at "yU") rfl hR (fun d hd => (hc d hd).1) hz) fun r G6 s' h6 S hp => ?_
  with_reducible refine ob_eceecl hp ?_; try clear hp; rintro lf rfl fs nf hlf AF
  have lfs : fs.length = ri.length := by simpa [flags] using AF.1
  wtm_at "yA"
  wtm_at "yrange"
  with_reducible refine comp_bf TI (Nat.le_trans (Nat.le_trans (Nat.le_of_eq lfs) hR) (by decide)) (by kernel_rfl!) (b := okAt cols) (ItV.mono (f := nat)) (fun C sD Wc i v' G' ρ' s' it d E' hi hP hG hρ S Qe Qn hQe hQn => ?_) (by kernel_rfl!) (by kernel_rfl!) fun D7 G7 s' hD7 hG7 hL7 S => ?_
  · with_reducible refine ob_el hP ?_; try clear hP; rintro ti rfl
    have hx : fs[((i : Int)).toNat]? = some (fs[i]) := by simp
    refine ob_el (flag_of (AF.2 i (flagAt cols i) fs[i] (by unfold flags; rw [List.getElem?_map, List.getElem?_range (Nat.lt_of_lt_of_le hi (Nat.le_of_eq lfs))]; rfl) (by simp))) ?_; intro t2 e2
    rw [e2] at hx
    wtm_at "yA"
    refine ⟨is_one, fun h => ?_, fun h => hQn _ _ Le.rfl S⟩
    wtm_at "yA"
    exact hQe _ _ _ (Le.rfl) (⟨_, rfl⟩) S
  have IK : Its G7 ((keptP cols ri.length).map nat) D7 := by rw [lfs] at hL7; exact hL7.its
  wtm_at "yA"
  wtm_at "yrange"
  with_reducible refine comp_bf TI (Nat.le_trans (Nat.le_trans (Nat.le_of_eq lfs) hR) (by decide)) (by kernel_rfl!) (b := fun p => !okAt cols p) (ItV.mono (f := nat)) (fun C sD Wc i v' G' ρ' s' it d E' hi hP hG hρ S Qe Qn hQe hQn => ?_) (by kernel_rfl!) (by kernel_rfl!) fun D8 G8 s' hD8 hG8 hL8 S => ?_
  · with_reducible refine ob_el hP ?_; try clear hP; rintro ti rfl
    have hx : fs[((i : Int)).toNat]? = some (fs[i]) := by simp
    refine ob_el (flag_of (AF.2 i (flagAt cols i) fs[i] (by unfold flags; rw [List.getElem?_map, List.getElem?_range (Nat.lt_of_lt_of_le hi (Nat.le_of_eq lfs))]; rfl) (by simp))) ?_; intro t2 e2
    rw [e2] at hx
    wtm_at "yA"
    refine ⟨is_zero, fun h => ?_, fun h => hQn _ _ Le.rfl S⟩
    wtm_at "yA"
    exact hQe _ _ _ (Le.rfl) (⟨_, rfl⟩) S
  have IG : Its G8 ((goneP cols ri.length).map nat) D8 := by rw [lfs] at hL8; exact hL8.its
  refine ob_eecl IG ?_; try clear IG; intro zs mz hzs AZ
  have lz : zs.length = (goneP cols ri.length).length := by simpa using AZ.1
  have lg := goneP_len (cols := cols) (R := ri.length)
  have lk := keptP_len (cols := cols) (R := ri.length)
  wtm_at "yA"
  by_cases hg0 : goneP cols ri.length = []
  · refine ite_yes (by simp [lz, hg0]) ?_
    wtm_at "yA"
    exact S.out (.refl _) ⟨rfl, .inl ⟨hg0, rfl⟩⟩
  · have : ¬ (goneP cols ri.length).length = 0 := fun h => hg0 (List.length_eq_zero_iff.mp h)
    have hz0 : ¬ zs = [] := fun h => this (by rw [← lz, h]; rfl)
    refine ite_no (by simpa using hz0) ?_
    wtm_at "yA"
    with_reducible refine call0 S (by wtm_at "yU") (c_is_frame (by wtm_at "yU") (O.mono (by decide)) (by wtm_at "yU") (v := .ref x) (by wtm_at "yU") rfl hR (fun d hd => (hc d hd).1.l) hz hn hpos) fun r G9 s' h9 S hp => ?_
    obtain rfl := hp
    wtm_at "yA"
    refine St.call (W := []) S (by wtm_at "yU") (c_pick_rows (by wtm_at "yU") (O.mono (by decide)) (by wtm_at "yU") (v := .ref x) (by wtm_at "yU") (ps := keptP cols ri.length) (by wtm_at "yU") keptP_lt keptP_nodup (Nat.le_trans lk hR) hR (fun d hd => ⟨(hc d hd).1.l, (hc d hd).2⟩) hz (Nat.le_trans (Nat.le_of_eq hn) hz) ht) fun r G10 W10 s' h10 S hp _ => ?_
    refine ob_eeeeeeeeeccccccccl hp ?_; try clear hp; rintro x2 d2 o2 da2 oa2 lI2 nv2 cv2 rv2 rfl hx2 rfl V2 ho2 I2 VN2 VC2 VR2
    have fr := fresh0 hW0 (nila S)
    with_reducible refine ob_eccl (St.freeze (p := (d2, o2)) (mu := [(da2, oa2)]) (nila S) (fr (d2, o2) (by simp))) ?_; intro G11 h11 e11 S
    have F2 : FV G11 (.ref x2) "list" lI2 (.ref da2) := ⟨x2, d2, o2, rfl, h11 _ _ hx2, e11, V2⟩
    wtm_at "yA"
    with_reducible refine call0 S (by wtm_at "yU") (c_row_names (by wtm_at "yU") (O.mono (by decide)) (by wtm_at "yU") (v := .ref x) (by wtm_at "yU") (Nat.le_trans hR (by decide)) hl) fun r G12 s' h12 S hp => ?_
    with_reducible refine ob_ecl hp ?_; try clear hp; rintro l12 rfl I12
    wtm_at "yA"
    refine call0 S (by wtm_at "yU") (c_omitted (by wtm_at "yU") (O.mono (by decide)) (by wtm_at "yU") (ps := goneP cols ri.length) ⟨zs, mz, by wtm_at "yU", by wtm_at "yU"⟩ (Nat.le_trans lg hR) (tx := some (ri.map labelOf)) (.inr ⟨_, _, rfl, rfl, I12, by simp; omega, fun p hp => by simpa using goneP_lt p hp⟩)) fun ov G13 s' h13 S hN => ?_
    wtm_at "yA"
    refine d_set S (by wtm_at "ymem") ho2 (strKind_is pw w _ _) (by simp [sizeLine_eq]) fun s' o3 ho hpu => ?_
    replace S := hpu _ (by wtm_at "yput")
    replace ho : o3.IsDictOf (strKind pw w) [("names", nv2), ("class", cv2), ("row.names", rv2), ("na.action", ov)] := ho
    wtm_at "yA"
    with_reducible refine ob_eccl (AD.of P S ho (fr (da2, oa2) (by simp))) ?_; intro G14 h14 D14 S
    wtm_at "yqs"
    exact S.out (.refl _) ⟨rfl, .inr ⟨hg0, ov, ⟨da2, lI2, nv2, cv2, rv2, by wtm_at "yU", D14, by wtm_at "yU", by wtm_at "yU", by wtm_at "yU", by wtm_at "yU"⟩, hN.up h14⟩⟩))
end
end -- P17
section -- P18
open PySem.Calls PySem.Spec
noncomputable def naK : Option (List It) → Value → Value → List (Str × Value)
  | none, _, ov => [("na.action", ov)]
  | some _, nv, ov => [("names", nv), ("na.action", ov)]
section
variable {w : World} {A : Around} {s : Shared} {G : Heap} {a : Addr} {v : Value} {k : Str} {l : Addr} {at' : Value} {t : Option (List (Str × Value))} {its : List It} {cols : List Vd} {names : List It} {rk : Str} {ri : List It} {rd : Vd}
theorem none_elim {P : List It → Prop} : ∀ t, (none : Option (List It)) = some t → P t := fun t e => nomatch e
theorem tSmall_none : tSmall none := fun kvs e => by cases e
theorem freeze_all {s0 s : Shared} {G0 G : Heap} {mu : List (Addr × Obj)} {env : Env} {ρ : Str → Option Value} {W0 : List Addr} (hW : W0 = []) (S : St s0 G0 W0 G mu env ρ s) : ∃ G', Le G G' ∧ (∀ e ∈ mu, G'.get? e.1 = some e.2) ∧ St s0 G0 W0 G' [] env ρ s :=
  freezeAll (es := mu) (Rs := []) (by rw [List.append_nil]; exact S) (fresh0 hW S)
theorem c_na_omit_vec (P : PG w G) (O : Ok A 11) (X : FnAt G a (stm 128)) {la p : Addr} {m : Nat} (hla : G.get? la = some (lst [.ref p] m)) (hp : G.get? p = some (tup [.none, v])) (V : VV w G v ⟨k, its, t⟩)
    (hk : KOk k) (hkl : k ≠ "list") (hR : its.length ≤ 1000) (hd : k = "double" → ∀ it ∈ its, it = .na ∨ ∃ a b, it = .frac a b) {tx : Option (List It)}
    (ht : (t = none ∧ tx = none) ∨ ∃ nv nl, t = some ([("names", nv)] : List (Str × Value)) ∧ tx = some nl ∧ VV w G nv ⟨"character", nl, none⟩ ∧ nl.length = its.length) :
    Run w A s G [] a [.none, .ref la, .none] fun G' W' r => W' = [] ∧ ((goneP [⟨k, its, none⟩] its.length = [] ∧ r = v) ∨ (goneP [⟨k, its, none⟩] its.length ≠ [] ∧ ∃ nv2 ov, VV w G' r ⟨k, pickI its (keptP [⟨k, its, none⟩] its.length), some (naK tx nv2 ov)⟩ ∧
      (∀ t, tx = some t → VV w G' nv2 ⟨"character", pickI t (keptP [⟨k, its, none⟩] its.length), none⟩) ∧ Note w G' ov (goneP [⟨k, its, none⟩] its.length) tx)) := unus (by exact trivial : Us (by
  refine Run.enter X P.lim O [("interp", .none), ("args", .ref la), ("env", .none)] (by wtm_at "ybind") (by kernel_rfl!) fun fp s S O => ?_
  generalize hC : ([⟨k, its, none⟩] : List Vd) = Cx
  have V' := V
  with_reducible refine ob_eeeeccccl V'.open ?_; intro l at' xs n F hl AV T lx
  refine ob_eeecccl F ?_; try clear F; rintro x d o rfl hx hdd VX
  have F : FV G (.ref x) k l at' := ⟨x, d, o, rfl, hx, hdd, VX⟩
  with_reducible refine ob_ecl (P.at "take" 66 (by kernel_rfl!)) ?_; intro a1 g1 X1
  with_reducible refine ob_ecl (P.at "needed" 65 (by kernel_rfl!)) ?_; intro a2 g2 X2
  with_reducible refine ob_ecl (P.at "is_vector" 47 (by kernel_rfl!)) ?_; intro a3 g3 X3
  with_reducible refine ob_ecl (P.at "is_frame" 103 (by kernel_rfl!)) ?_; intro a4 g4 X4
  with_reducible refine ob_ecl (P.at "complete_rows" 122 (by kernel_rfl!)) ?_; intro a5 g5 X5
  with_reducible refine ob_ecl (P.at "pick_items" 111 (by kernel_rfl!)) ?_; intro a6 g6 X6
  with_reducible refine ob_ecl (P.at "omitted" 127 (by kernel_rfl!)) ?_; intro a7 g7 X7
  with_reducible refine ob_ecl (P.at "names_of" 55 (by kernel_rfl!)) ?_; intro a8 g8 X8
  with_reducible refine ob_ecl (P.at "make_frame" 115 (by kernel_rfl!)) ?_; intro a9 g9 X9
  with_reducible refine ob_ecl (P.at "character" 44 (by kernel_rfl!)) ?_; intro a10 g10 X10
  have hkl' : (k == ("list" : Str)) = false := by simpa using hkl
  wtm_at "ygo"
  wtm_at "yA"
  with_reducible refine ob_eccl (S.freeze n0) ?_; intro G0 h0 e0 S
  refine call0 S (by wtm_at "yU") (c_take_obj (by wtm_at "yU") (O.mono (by decide)) (by wtm_at "yU") ⟨_, _, _, e0⟩ (d := d) (by wtm_at "yU") (by wtm_at "yU")) fun r G1 s' h1 S hp => ?_
  with_reducible refine ob_eeecl hp ?_; try clear hp; rintro lt lr c1 rfl hlt
  wtm_at "yA"
  with_reducible refine call0 S (by wtm_at "yU") (c_needed (by wtm_at "yU") (O.mono (by decide)) (by wtm_at "yU")) fun r G2 s' h2 S hp => ?_
  obtain rfl := hp
  wtm_at "yA"
  with_reducible refine call0 S (by wtm_at "yU") (c_is_vector (by wtm_at "yU") (O.mono (by decide)) (by wtm_at "yU") (x := x) (d := d) (by wtm_at "yU")) fun r G3 s' h3 S hp => ?_
  obtain rfl := hp
  wtm_at "yA"
  with_reducible refine call0 S (by wtm_at "yU") (c_is_frame_no (by wtm_at "yU") (O.mono (by decide)) (by wtm_at "yU") (v := .ref x) (by wtm_at "yU") hk hkl) fun r G4 s' h4 S hp => ?_
  obtain rfl := hp
  wtm_at "yA"
  refine ⟨kept_vec P S.le0, new_vec2 (vs := []) P (O.mono (by decide)) S fun x3 d3 o3 G5 s' h5 hx3 hd3 V3 S => ?_⟩
  refine ob_eccl (still1 (w := w) (its := its) (t := none) S hx3 V3 ⟨xs, n, by wtm_at "yU", by wtm_at "yU"⟩ rfl hd3) ?_; intro G6 h6 VV3 S
  wtm_at "yA"
  with_reducible refine ob_eccl (freeze_all hW0 S) ?_; intro G8 h8 e8 S
  have e7 := e8 _ (List.mem_cons_self ..)
  have e8 := e8 _ (List.mem_cons_of_mem _ (List.mem_cons_self ..))
  have VV8 : VV w G8 (.ref x3) ⟨k, its, none⟩ := by wtm_at "yU"
  have hvs := (⟨_, _, e8, AllVV.snoc (ds := []) .nil VV8⟩ : VVs w G8 [⟨k, its, none⟩] _)
  rw [hC] at hvs
  refine callF (by wtm_at "yU") S (by wtm_at "yU") (c_make_frame (rd := ⟨"integer", rowsOf its.length, none⟩) (by wtm_at "yU") (O.mono (by decide)) (by wtm_at "yU") hvs (R := its.length) (by
    rw [← hC]
    intro d hd
    obtain rfl : d = ⟨k, its, none⟩ := by simpa using hd
    exact ⟨rfl, tSmall_none, hk, rfl, rfl⟩) (by rw [← hC]; simp) (by rw [← hC]; simp) (Nat.le_trans hR (by decide)) (names := [.txt "x"]) ⟨_, _, e7, .cons ⟨_, rfl⟩ .nil⟩ (by simp) (.inl ⟨rfl, rfl⟩)) fun fv G9 s' h9 S VFr => ?_
  have eC : Cx.map keptV = Cx := by rw [← hC]; rfl
  rw [eC] at VFr
  have hcC : ∀ d ∈ Cx, ColOk its.length d := by
    rw [← hC]
    intro d hd
    obtain rfl : d = ⟨k, its, none⟩ := by simpa using hd
    exact ⟨rfl, hk, ‹_›⟩
  wtm_at "yA"
  with_reducible refine call0 S (by wtm_at "yU") (c_complete_rows (by wtm_at "yU") (O.mono (by decide)) (by wtm_at "yU") (v := fv) (by wtm_at "yU") (by simp [rowsOf]) hR hcC (by rw [← hC]; simp)) fun r G10 s' h10 S hp => ?_
  with_reducible refine ob_eceecl hp ?_; try clear hp; rintro lf rfl fs nf hlf AF
  have lfs : fs.length = its.length := by simpa [flags] using AF.1
  wtm_at "yA"
  wtm_at "yrange"
  with_reducible refine comp_bf TI (Nat.le_trans (Nat.le_trans (Nat.le_of_eq lfs) hR) (by decide)) (by kernel_rfl!) (b := okAt Cx) (ItV.mono (f := nat)) (fun C sD Wc i v' G' ρ' s' it d E' hi hP hG hρ S Qe Qn hQe hQn => ?_) (by kernel_rfl!) (by kernel_rfl!) fun D17 G17 s' hD17 hG17 hL17 S => ?_
  · with_reducible refine ob_el hP ?_; try clear hP; rintro ti rfl
    have hx : fs[((i : Int)).toNat]? = some (fs[i]) := by simp
    refine ob_el (flag_of (AF.2 i (flagAt Cx i) fs[i] (by unfold flags; rw [List.getElem?_map, List.getElem?_range (Nat.lt_of_lt_of_le hi (Nat.le_of_eq lfs))]; rfl) (by simp))) ?_; intro t2 e2
    rw [e2] at hx
    wtm_at "yA"
    refine ⟨is_one, fun h => ?_, fun h => hQn _ _ Le.rfl S⟩
    wtm_at "yA"
    exact hQe _ _ _ (Le.rfl) (⟨_, rfl⟩) S
  have IK : Its G17 ((keptP Cx its.length).map nat) D17 := by rw [lfs] at hL17; exact hL17.its
  wtm_at "yA"
  wtm_at "yrange"
  with_reducible refine comp_bf TI (Nat.le_trans (Nat.le_trans (Nat.le_of_eq lfs) hR) (by decide)) (by kernel_rfl!) (b := fun p => !okAt Cx p) (ItV.mono (f := nat)) (fun C sD Wc i v' G' ρ' s' it d E' hi hP hG hρ S Qe Qn hQe hQn => ?_) (by kernel_rfl!) (by kernel_rfl!) fun D18 G18 s' hD18 hG18 hL18 S => ?_
  · with_reducible refine ob_el hP ?_; try clear hP; rintro ti rfl
    have hx : fs[((i : Int)).toNat]? = some (fs[i]) := by simp
    refine ob_el (flag_of (AF.2 i (flagAt Cx i) fs[i] (by unfold flags; rw [List.getElem?_map, List.getElem?_range (Nat.lt_of_lt_of_le hi (Nat.le_of_eq lfs))]; rfl) (by simp))) ?_; intro t2 e2
    rw [e2] at hx
    wtm_at "yA"
    refine ⟨is_zero, fun h => ?_, fun h => hQn _ _ Le.rfl S⟩
    wtm_at "yA"
    exact hQe _ _ _ (Le.rfl) (⟨_, rfl⟩) S
  have IG : Its G18 ((goneP Cx its.length).map nat) D18 := by rw [lfs] at hL18; exact hL18.its
  refine ob_eecl IG ?_; try clear IG; intro zs mz hzs AZ
  have lz : zs.length = (goneP Cx its.length).length := by simpa using AZ.1
  have lg := goneP_len (cols := Cx) (R := its.length)
  have lk := keptP_len (cols := Cx) (R := its.length)
  wtm_at "yA"
  by_cases hg0 : goneP Cx its.length = []
  · refine ite_yes (by simp [lz, hg0]) ?_
    wtm_at "yA"
    exact S.out (.refl _) ⟨rfl, .inl ⟨hg0, rfl⟩⟩
  · have : ¬ (goneP Cx its.length).length = 0 := fun h => hg0 (List.length_eq_zero_iff.mp h)
    have hz0 : ¬ zs = [] := fun h => this (by rw [← lz, h]; rfl)
    refine ite_no (by simpa using hz0) ?_
    wtm_at "yA"
    with_reducible refine call0 S (by wtm_at "yU") (c_is_frame_no (by wtm_at "yU") (O.mono (by decide)) (by wtm_at "yU") (v := .ref x) (by wtm_at "yU") hk hkl) fun r G19 s' h19 S hp => ?_
    obtain rfl := hp
    wtm_at "yA"
    have hts : tSmall t := by
      rcases ht with ⟨rfl, _⟩ | ⟨nv, nl, rfl, _⟩
      · exact tSmall_none
      · intro kvs e; cases e; simp
    have hkt : keptA t = none := by
      rcases ht with ⟨rfl, _⟩ | ⟨nv, nl, rfl, _⟩
      · rfl
      · exact keptA_none (by unfold keptL; simp)
    with_reducible refine callU S (by wtm_at "yU") (c_pick_items (by wtm_at "yU") (O.mono (by decide)) (by wtm_at "yU") (k := k) (its := its) (t := t) (by wtm_at "yU") (Nat.le_trans hR (by decide)) hts (ps := keptP Cx its.length) (by wtm_at "yU") keptP_lt (Nat.le_trans (Nat.le_trans lk hR) (by decide))) fun x2 d2 o2 l5 at5 G20 s' h20 S hd2 hx2 V2 I2 T2 => ?_
    rw [hkt] at T2
    replace I2 : Its G20 (pickI its (keptP Cx its.length)) l5 := I2
    obtain rfl : at5 = .none := T2
    wtm_at "yA"
    revert S
    rcases ht with ⟨rfl, rfl⟩ | ⟨nv, nl, rfl, rfl, VN, lnl⟩ <;> intro S
    · with_reducible refine call0 S (by wtm_at "yU") (c_names_none (by wtm_at "yU") (O.mono (by decide)) (by wtm_at "yU") hk (v := .ref x) (k := k) (l := l) (at' := at') (t := none) (by wtm_at "yU") (by wtm_at "yU") rfl rfl) fun r G21 s' h21 S hp => ?_
      obtain rfl := hp
      wtm_at "yA"
      have hob := dict_nil (strKind pw w)
      refine v_attrs S P (by wtm_at "yH") (S.has (by wtm_at "ymem")) V2 fun s' S => ?_
      wtm_at "yA"
      refine call0 S (by wtm_at "yU") (c_omitted (by wtm_at "yU") (O.mono (by decide)) (by wtm_at "yU") (ps := goneP Cx its.length) ⟨zs, mz, by wtm_at "yU", by wtm_at "yU"⟩ (Nat.le_trans lg hR) (tx := none) (.inl ⟨rfl, rfl⟩)) fun ov G22 s' h22 S hN => ?_
      wtm_at "yA"
      refine d_set S (by wtm_at "ymem") hob (strKind_is pw w _ _) (by simp [sizeLine_eq]) fun s' o3 ho hpu => ?_
      replace S := hpu _ (by wtm_at "yput")
      replace ho : o3.IsDictOf (strKind pw w) [("na.action", ov)] := ho
      wtm_at "yA"
      with_reducible refine ob_eccl (AD.of P S ho nd0) ?_; intro G23 h23 D23 S
      refine v_set S P (by wtm_at "yH") (by wtm_at "ymem") V2 (.inr ⟨_, rfl⟩) fun s' o' V' hpu => ?_
      replace S := hpu _ (by wtm_at "yput")
      with_reducible refine ob_eccl (S.freeze hd2) ?_; intro G24 h24 e24 S
      wtm_at "yA"
      exact S.out (.refl _) ⟨rfl, .inr ⟨hg0, .none, ov, ⟨l5, _, ⟨x2, d2, o', rfl, by wtm_at "yU", e24, V'⟩, (show Its G24 (pickI its (keptP Cx its.length)) l5 by wtm_at "yU"), ⟨_, rfl, (show AD w G24 dn [("na.action", ov)] by wtm_at "yU")⟩⟩, none_elim, (hN.up h23).up h24⟩⟩
    · with_reducible refine ob_eeeeccccl VN.open ?_; intro ln2 an2 xn nn FN hln AN TN lxn
      with_reducible refine call0 S (by wtm_at "yU") (c_names_some (by wtm_at "yU") (O.mono (by decide)) (by wtm_at "yU") hk (v := .ref x) (k := k) (l := l) (at' := at') (t := some [("names", nv)]) (by wtm_at "yU") (by wtm_at "yU") rfl (nv := nv) (by with_unfolding_all rfl) (kn := "character") (ln := ln2) (an := an2) (by wtm_at "yU") (xs := xn) (n := nn) (by wtm_at "yU") (Nat.le_trans (Nat.le_trans (Nat.le_of_eq lxn) (Nat.le_trans (Nat.le_of_eq lnl) hR)) (by decide))) fun r G21 s' h21 S hp => ?_
      with_reducible refine ob_eecl hp ?_; try clear hp; rintro l21 c21 rfl hl21
      have A21 : AllV G21 nl xn := by wtm_at "yU"
      refine ob_eecl IK ?_; try clear IK; intro ks mk hks AK
      have lks : ks.length = (keptP Cx its.length).length := by simpa using AK.1
      wtm_at "yA"
      wtm_at "ydict"
      have nd0 := na0
      with_reducible refine iter_list O.h S (by wtm_at "yU") fun it s' TI => ?_
      with_reducible refine comp_vk TI (Nat.le_trans (Nat.le_trans (Nat.le_of_eq lks) (Nat.le_trans lk hR)) (by decide)) (by kernel_rfl!) (ItV.mono (f := fun i => (pickI nl (keptP Cx its.length)).getD i .na)) (fun C sD Wc i v' G' ρ' s' it d E' hi hP hG hρ S Qe hQe => ?_) fun D28 G28 s' hD28 hG28 hL28 S => ?_
      · with_reducible refine ob_ecl (AK.at hP) ?_; intro itp e1 hv
        rw [List.getElem?_map] at e1
        with_reducible refine ob_ecl (Option.map_eq_some_iff.mp e1) ?_; rintro p hp rfl
        refine ob_el hv ?_; try clear hv; rintro tp rfl
        have hpl : p < nl.length := by rw [lnl]; exact keptP_lt p (List.mem_of_getElem? hp)
        have hx : xn[((p : Int)).toNat]? = some (xn[p]'(Nat.lt_of_lt_of_le hpl (Nat.le_of_eq lxn.symm))) := by simp
        have hv := A21.2 p (nl.getD p .na) (xn[p]'(Nat.lt_of_lt_of_le hpl (Nat.le_of_eq lxn.symm))) (by rw [List.getD_eq_getElem?_getD, List.getElem?_eq_getElem hpl]; rfl) (by simp)
        wtm_at "yA"
        exact hQe _ _ _ (Le.rfl) (by rw [pickI_at hp]; wtm_at "yU") S
      have IN : Its G28 (pickI nl (keptP Cx its.length)) D28 := hL28.its2 (by unfold pickI; simp [lks]) fun i it y e r => by
        rw [List.getD_eq_getElem?_getD, e] at r; exact r
      wtm_at "yA"
      with_reducible refine callV S (by wtm_at "yU") (d_character (by wtm_at "yU") (O.mono (by decide)) (by wtm_at "yU") IN (by unfold pickI; simp; omega)) fun nv2 G29 s' h29 S VN2 => ?_
      wtm_at "yA"
      refine ⟨strPairs _, _, _, carries_strPairs _ _ _ rfl, S, fun s₂ ob hob S => ?_⟩
      replace hob : ob.IsDictOf (strKind pw w) [("names", nv2)] := merged_of hob (by kernel_rfl!)
      wtm_at "yA"
      refine v_attrs S P (by wtm_at "yH") (S.has (by wtm_at "ymem")) V2 fun s' S => ?_
      wtm_at "yA"
      refine call0 S (by wtm_at "yU") (c_omitted (by wtm_at "yU") (O.mono (by decide)) (by wtm_at "yU") (ps := goneP Cx its.length) ⟨zs, mz, by wtm_at "yU", by wtm_at "yU"⟩ (Nat.le_trans lg hR) (tx := some nl) (.inr ⟨_, _, rfl, rfl, ⟨xn, _, by wtm_at "yU", by wtm_at "yU"⟩, (Nat.le_trans (Nat.le_trans (Nat.le_of_eq lnl) hR) (by decide)), fun p hp => by rw [lnl]; exact goneP_lt p hp⟩)) fun ov G22 s' h22 S hN => ?_
      wtm_at "yA"
      refine d_set S (by wtm_at "ymem") hob (strKind_is pw w _ _) (by simp [sizeLine_eq]) fun s' o3 ho hpu => ?_
      replace S := hpu _ (by wtm_at "yput")
      replace ho : o3.IsDictOf (strKind pw w) [("names", nv2), ("na.action", ov)] := ho
      wtm_at "yA"
      with_reducible refine ob_eccl (AD.of P S ho nd0) ?_; intro G23 h23 D23 S
      refine v_set S P (by wtm_at "yH") (by wtm_at "ymem") V2 (.inr ⟨_, rfl⟩) fun s' o' V' hpu => ?_
      replace S := hpu _ (by wtm_at "yput")
      with_reducible refine ob_eccl (S.freeze hd2) ?_; intro G24 h24 e24 S
      wtm_at "yA"
      exact S.out (.refl _) ⟨rfl, .inr ⟨hg0, nv2, ov, ⟨l5, _, ⟨x2, d2, o', rfl, by wtm_at "yU", e24, V'⟩, (show Its G24 (pickI its (keptP Cx its.length)) l5 by wtm_at "yU"), ⟨_, rfl, (show AD w G24 an [("names", nv2), ("na.action", ov)] by wtm_at "yU")⟩⟩, fun t e => by cases e; wtm_at "yU", (hN.up h23).up h24⟩⟩))
end
end -- P18
section -- P25
open PySem.Calls PySem.Spec
section
variable {w : World} {A : Around} {E : Value → Shared → Prop} {s0 s : Shared} {G0 G : Heap} {W0 : List Addr} {mu mu' : List (Addr × Obj)} {env : Env} {ρ : Str → Option Value}
theorem ne_its {l b : Addr} {its : List It} {Q : Value → Shared → Prop} (S : St s0 G0 W0 G mu env ρ s) (x : Its G its l) (y : Its G its b) (hu : A.units + 20 < cLine) (h : Q (.bool false) s) : wpAny (model pw w) A (compareOp .NotEq (.ref l) (.ref b)) Q E s := by
  refine ob_eecl (x.up S.z.gs) ?_; intro xs n h1 a1
  refine ob_eecl (y.up S.z.gs) ?_; intro ys m h2 a2
  exact ne_items h1 h2 a1 a2 hu h
theorem eq_its {l b : Addr} {its : List It} {Q : Value → Shared → Prop} (S : St s0 G0 W0 G mu env ρ s) (x : Its G its l) (y : Its G its b) (hu : A.units + 20 < cLine) (h : Q (.bool true) s) : wpAny (model pw w) A (compareOp .Eq (.ref l) (.ref b)) Q E s := by
  refine ob_eecl (x.up S.z.gs) ?_; intro xs n h1 a1
  refine ob_eecl (y.up S.z.gs) ?_; intro ys m h2 a2
  exact eq_items h1 h2 a1 a2 hu h
end
section
variable {w : World} {A : Around} {s : Shared} {G : Heap} {a : Addr} {v : Value} {k : Str} {l : Addr}
theorem c_note_right (P : PG w G) (O : Ok A 1) (X : FnAt G a (stm 139)) {da : Addr} {kvs : List (Str × Value)} {ov : Value} {ps : List Nat} {tx : Option (List It)} (F : FV G v k l (.ref da)) (D : AD w G da kvs) (hv : valueAt kvs "na.action" = some ov) (N : Note w G ov ps tx)
    {lp : Addr} (hp : Its G (ps.map nat) lp) (hzp : ps.length ≤ 1000) {hv' : Value} (ht : (tx = none ∧ hv' = .none) ∨ ∃ tl lt, tx = some tl ∧ hv' = .ref lt ∧ Its G tl lt ∧ tl.length ≤ 100000 ∧ ∀ p ∈ ps, p < tl.length) :
    Run w A s G [] a [v, .ref lp, hv'] fun G' W' r => W' = [] ∧ r = .bool true := unus (by exact trivial : Us (by
  refine Run.enter X P.lim O [("made", v), ("gone", .ref lp), ("heads", hv')] (by wtm_at "ybind") (by kernel_rfl!) fun fp s S O => ?_
  have hu := O.u
  refine ob_eecl hp ?_; try clear hp; intro ys m hlp AP
  have lys : ys.length = ps.length := by simpa using AP.1
  refine ob_eeccl N ?_; try clear N; intro nv cv VN VC VT
  with_reducible refine ob_eeeeccccl VN.open ?_; intro ln1 an1 xn nn FN hln AN TN lxn
  refine ob_ecl TN ?_; try clear TN; rintro dn1 rfl DN
  with_reducible refine ob_eeeeccccl VC.open ?_; intro lc ac xc nc FC hlc AC TC lxc
  wtm_at "ygo"
  wtm_at "yA"
  refine ad_sub S (by wtm_at "yU") hv (fun s' S => ?_) (by with_unfolding_all rfl)
  wtm_at "yA"
  with_reducible refine iter_list O.h S (by wtm_at "yU") fun it s' TI => ?_
  with_reducible refine comp_vk TI (Nat.le_trans (Nat.le_trans (Nat.le_of_eq lys) hzp) (by decide)) (by kernel_rfl!) (ItV.mono (f := fun i => (incs ps).getD i .na)) (fun C sD Wc i v' G' ρ' s' it d E' hi hP hG hρ S Qe hQe => ?_) fun D9 G9 s' hD9 hG9 hL S => ?_
  · with_reducible refine ob_ecl (AP.at hP) ?_; intro itp e1 hv
    rw [List.getElem?_map] at e1
    with_reducible refine ob_ecl (Option.map_eq_some_iff.mp e1) ?_; rintro p hp rfl
    refine ob_el hv ?_; try clear hv; rintro tp rfl
    have ec : (incs ps).getD i .na = .int ((p : Int) + 1) := by
      unfold incs
      rw [List.getD_eq_getElem?_getD, List.getElem?_map, hp]; rfl
    wtm_at "yA"
    exact hQe _ _ _ (Le.rfl) (by rw [ec]; exact ⟨_, rfl⟩) S
  · have II : Its G9 (incs ps) D9 := hL.its2 (by unfold incs; simp [lys]) fun i it y e r => by
      rw [List.getD_eq_getElem?_getD, e] at r; exact r
    wtm_at "yA"
    refine ne_its (its := incs ps) S ⟨xn, nn, by wtm_at "yU", by wtm_at "yU"⟩ II (by wtm_at "yo") ?_
    wtm_at "yA"
    refine ad_sub S (kvs := omK tx nv cv) (v := cv) (by wtm_at "yU") (by cases tx <;> (unfold omK; wtm_at "yva")) (fun s' S => ?_) (by with_unfolding_all rfl)
    wtm_at "yA"
    with_reducible refine ob_eccl (S.freeze n0) ?_; intro G10 h10 e10 S
    refine ne_its (its := [.txt "omit"]) S ⟨xc, nc, by wtm_at "yU", by wtm_at "yU"⟩ ⟨_, _, e10, .cons ⟨_, rfl⟩ .nil⟩ (by wtm_at "yo") ?_
    rcases ht with ⟨e1, e2⟩ | ⟨tl, lt, e1, e2, IT, htl, hps⟩
    · revert S; subst e1 e2; intro S
      wtm_at "yA"
      exact S.out (.refl _) ⟨rfl, rfl⟩
    · revert S; subst e1 e2; intro S
      refine ob_eecl IT ?_; try clear IT; intro zs mz hlt AZ
      have lzs := AZ.1
      have VT := VT tl rfl
      with_reducible refine ob_eeeeccccl VT.open ?_; intro lq aq xq nq FQ hlq AQ TQ lxq
      wtm_at "yA"
      refine ad_sub S (kvs := omK (some tl) nv cv) (v := nv) (by wtm_at "yU") (by unfold omK; wtm_at "yva") (fun s' S => ?_) (by with_unfolding_all rfl)
      wtm_at "yA"
      with_reducible refine iter_list O.h S (by wtm_at "yU") fun it s' TI => ?_
      with_reducible refine comp_vk TI (Nat.le_trans (Nat.le_trans (Nat.le_of_eq lys) hzp) (by decide)) (by kernel_rfl!) (ItV.mono (f := fun i => (pickI tl ps).getD i .na)) (fun C sD Wc i v' G' ρ' s' it d E' hi hP hG hρ S Qe hQe => ?_) fun D8 G8 s' hD8 hG8 hL8 S => ?_
      · with_reducible refine ob_ecl (AP.at hP) ?_; intro itp e1 hv
        rw [List.getElem?_map] at e1
        with_reducible refine ob_ecl (Option.map_eq_some_iff.mp e1) ?_; rintro p hp rfl
        refine ob_el hv ?_; try clear hv; rintro tp rfl
        have hpl := hps p (List.mem_of_getElem? hp)
        have hx : zs[((p : Int)).toNat]? = some (zs[p]'(Nat.lt_of_lt_of_le hpl (Nat.le_of_eq lzs.symm))) := by simp
        have hv := AZ.2 p (tl.getD p .na) (zs[p]'(Nat.lt_of_lt_of_le hpl (Nat.le_of_eq lzs.symm))) (by rw [List.getD_eq_getElem?_getD, List.getElem?_eq_getElem hpl]; rfl) (by simp)
        wtm_at "yA"
        exact hQe _ _ _ (Le.rfl) (by rw [pickI_at hp]; wtm_at "yU") S
      · have IN : Its G8 (pickI tl ps) D8 := hL8.its2 (by unfold pickI; simp [lys]) fun i it y e r => by
          rw [List.getD_eq_getElem?_getD, e] at r; exact r
        wtm_at "yA"
        refine eq_its (its := pickI tl ps) S ⟨xq, nq, by wtm_at "yU", by wtm_at "yU"⟩ IN (by wtm_at "yo") ?_
        wtm_at "yA"
        exact S.out (.refl _) ⟨rfl, rfl⟩))
end
end -- P25
section -- P28
open PySem.Calls PySem.Spec
section
variable {w : World} {A : Around} {s : Shared} {G : Heap} {a : Addr}
/-- the names that the law gives -/
noncomputable def nmsOf (n : Nat) : List It := (List.range n).map fun (i : Nat) => .txt (("n" : Str) ++ ((toString (i : Int) : String) : Str))
theorem KLaw.frac {k : Str} {its : List It} (hk : KLaw k) (hi : ∀ it ∈ its, ItOk k it) : k = "double" → ∀ it ∈ its, it = .na ∨ ∃ a b, it = .frac a b := fun e it hit => by
  rcases hi it hit with h | ⟨h, _⟩ | ⟨h, _⟩ | ⟨_, h⟩ | ⟨h, _⟩
  · exact .inl h
  · rw [e] at h; exact absurd h (by decide +kernel)
  · rw [e] at h; exact absurd h (by decide +kernel)
  · exact .inr h
  · rw [e] at h; exact absurd h (by decide +kernel)
theorem nums_nat {ps : List Nat} : nums (ps.map nat) := fun it h => by
  refine ob_ecl (List.mem_map.mp h) ?_; rintro p _ rfl
  exact ⟨_, rfl⟩
theorem kept_has {C : List Vd} {n i : Nat} (h : i < n) : ((keptP C n).map nat).contains (.int (i : Int)) = okAt C i := unus (by exact trivial : Us (by
  rw [Bool.eq_iff_iff, List.contains_iff_mem, List.mem_map]
  constructor
  · rintro ⟨p, hp, e⟩
    have : p = i := by unfold nat at e; injection e with e; omega
    subst this
    exact (List.mem_filter.mp hp).2
  · intro e
    exact ⟨i, List.mem_filter.mpr ⟨by simpa using h, e⟩, rfl⟩))
theorem kept_all {C : List Vd} {n : Nat} (h : goneP C n = []) : keptP C n = List.range n := by
  unfold goneP at h
  rw [List.filter_eq_nil_iff] at h
  exact List.filter_eq_self.mpr fun p hp => by simpa using h p hp
theorem pickI_all {its : List It} {n : Nat} (h : n = its.length) : pickI its (List.range n) = its := unus (by exact trivial : Us (by
  subst h
  apply List.ext_getElem?
  intro i
  unfold pickI
  rw [List.getElem?_map]
  by_cases hi : i < its.length
  · rw [List.getElem?_range hi, Option.map_some, List.getD_eq_getElem?_getD, List.getElem?_eq_getElem hi]; rfl
  · rw [List.getElem?_eq_none (by simpa using hi), List.getElem?_eq_none (by simpa using hi)]; rfl))
theorem num_len {i : Nat} (h : i < 10 ^ 9) : ((toString (i : Int) : String) : Str).length ≤ 10 := PySem.W.KT.len_num (Int.natCast_nonneg _) (cast_lt (Nat.le_of_lt h) (by decide))
theorem c_vector_right (P : PG w G) (O : Ok A 13) (X : FnAt G a (stm 141)) {st : Addr} {W : List (Addr × Obj)} (D : Draws st W) {e : Addr × Obj} {v : Value} {d : Vd} {n : Nat} (V : NVV w G [e] v d) (L : LVec d n) (hn : n ≤ 10) :
    Run w A s G (e :: W) a [.ref st, v] fun G' W' r => r = .bool true := unus (by exact trivial : Us (by
  obtain ⟨k, its, t⟩ := d
  refine ob_cccl L ?_; try clear L; intro hk hl hit ht
  dsimp only at hk hl hit ht
  subst ht
  refine ob_eeccl V ?_; try clear V; rintro l at' ⟨x, dd, o, rfl, hx, he, VX⟩ ⟨xs, nx, hlx, AV⟩ T
  obtain rfl : at' = .none := T
  obtain rfl : e = (dd, o) := by simpa using he
  refine Run.enter X P.lim O [("state", .ref st), ("v", .ref x)] (by wtm_at "ybind") (by kernel_rfl!) fun fp s S O => ?_
  with_reducible refine ob_ecl (P.at "_law_take" 131 (by kernel_rfl!)) ?_; intro a1 g1 X1
  with_reducible refine ob_ecl (P.at "character" 44 (by kernel_rfl!)) ?_; intro a2 g2 X2
  with_reducible refine ob_ecl (P.at "_law_lacks" 134 (by kernel_rfl!)) ?_; intro a3 g3 X3
  with_reducible refine ob_ecl (P.at "b_na_omit" 128 (by kernel_rfl!)) ?_; intro a4 g4 X4
  with_reducible refine ob_ecl (P.at "_law_note_right" 139 (by kernel_rfl!)) ?_; intro a5 g5 X5
  have lxs : xs.length = its.length := AV.1
  wtm_at "ygo"
  iterate 4 wtm_at "yb"
  wtm_at "yqs"
  refine wpAny_execs_cons (stmt_cut S (fun G' mu' ρ' => Draws st mu' ∧ ∃ t tx hv, VV w G' (.ref x) ⟨k, its, t⟩ ∧ ρ' "heads" = some hv ∧ ρ' "v" = some (.ref x) ∧ ((t = none ∧ tx = none ∧ hv = .none) ∨ ∃ nv lh, t = some ([("names", nv)] : List (Str × Value)) ∧ tx = some (nmsOf its.length) ∧ hv = .ref lh ∧ Its G' (nmsOf its.length) lh ∧ VV w G' nv ⟨"character", nmsOf its.length, none⟩)) ?_ fun G6 W6 ρ6 s6 h6 hR S => ?_)
  · intro Qs hQs; wtm_at "yW"
    refine callD [(dd, o)] S (by wtm_at "yU") (c_take (by wtm_at "yU") (O.mono (by decide)) (by wtm_at "yU") D (by decide) (by decide)) fun r G1 W1 s' h1 S hp => ?_
    with_reducible refine ob_ceeccl hp ?_; try clear hp; rintro D1 d1 u1 rfl hd0 hd1
    replace S : St _ _ _ _ ((dd, o) :: W1) _ _ _ := S
    wtm_at "yW"
    by_cases hd : d1 = 1
    · refine ite_yes (by simpa using hd) ?_
      wtm_at "yW"
      refine v_items S P (by wtm_at "yH") (S.has (by wtm_at "ymem")) VX fun s' S => ?_
      wtm_at "yW"
      wtm_at "yrange"
      with_reducible refine comp_vk TI (Nat.le_trans (Nat.le_trans (Nat.le_of_eq lxs) (Nat.le_trans (Nat.le_of_eq hl) hn)) (by decide)) (by kernel_rfl!) (ItV.mono (f := fun (i : Nat) => .txt (("n" : Str) ++ ((toString (i : Int) : String) : Str)))) (fun C sD Wc i v' G' ρ' s' it d E' hi hP hG hρ S Qe hQe => ?_) fun D5 G5 s' hD5 hG5 hL5 S => ?_
      · with_reducible refine ob_el hP ?_; try clear hP; rintro ti rfl
        have hnl := num_len (i := i) (Nat.lt_of_le_of_lt (Nat.le_trans (Nat.le_of_lt hi) (Nat.le_trans (Nat.le_of_eq lxs) (Nat.le_trans (Nat.le_of_eq hl) hn))) (by decide))
        wtm_at "yW"
        refine ⟨kept_type, b_str S (neg_lt_cast (by decide)) (cast_lt (Nat.le_trans (Nat.le_of_lt hi) (Nat.le_trans (Nat.le_of_eq lxs) (Nat.le_trans (Nat.le_of_eq hl) hn))) (by decide)) fun tS s' S => ?_⟩
        wtm_at "yW"
        refine w_addstr S (by rw [Str.length_append, sizeLine_eq]; have : ("n" : Str).length = 1 := by decide +kernel
                              omega) fun tV s' S => ?_
        exact hQe _ _ _ (Le.rfl) (⟨_, rfl⟩) S
      · have IH : Its G5 (nmsOf its.length) D5 := by rw [← lxs]; exact hL5.its
        wtm_at "yW"
        wtm_at "ydict"
        with_reducible refine callV S (by wtm_at "yU") (d_character (by wtm_at "yU") (O.mono (by decide)) (by wtm_at "yU") IH (by unfold nmsOf; simp; omega)) fun nv G11 s' h11 S V11 => ?_
        wtm_at "yW"
        refine ⟨strPairs _, _, _, carries_strPairs _ _ _ rfl, S, fun s₂ o2 ho S => ?_⟩
        replace ho : o2.IsDictOf (strKind pw w) [("names", nv)] := merged_of ho (by kernel_rfl!)
        with_reducible refine ob_eccl (AD.of P S ho na0) ?_; intro G14 h14 D14 S
        wtm_at "yW"
        refine v_set S P (by wtm_at "yH") (by wtm_at "ymem") VX (.inr ⟨_, rfl⟩) fun s' o' V' hpu => ?_
        replace S := hpu _ (by wtm_at "yput")
        wtm_at "yW"
        with_reducible refine ob_eccl (St.rest (p := (dd, o')) (mu := W1) S) ?_; intro G15 h15 e15 S
        exact hQs _ _ _ _ (by wtm_at "yL") (⟨D1, some [("names", nv)], some (nmsOf its.length), .ref D5, ⟨l, _, ⟨x, dd, o', rfl, by wtm_at "yU", e15, V'⟩, ⟨xs, nx, by wtm_at "yU", by wtm_at "yU"⟩, ⟨an, rfl, by wtm_at "yU"⟩⟩, by wtm_at "yinv", by wtm_at "yinv", .inr ⟨nv, D5, rfl, rfl, rfl, by wtm_at "yU", by wtm_at "yU"⟩⟩) S
    · refine ite_no (by simpa using hd) ?_
      wtm_at "yW"
      with_reducible refine ob_eccl (St.rest (p := (dd, o)) (mu := W1) S) ?_; intro G2 h2 e2 S
      exact hQs _ _ _ _ (by wtm_at "yL") (⟨D1, none, none, .none, ⟨l, .none, ⟨x, dd, o, rfl, by wtm_at "yU", e2, VX⟩, ⟨xs, nx, by wtm_at "yU", by wtm_at "yU"⟩, rfl⟩, by wtm_at "yinv", by wtm_at "yinv", .inl ⟨rfl, rfl, rfl⟩⟩) S
  · with_reducible refine ob_ceeecccl hR ?_; try clear hR; intro D6 t tx hv V6 r1 r2 hcase
    have V6' := V6
    with_reducible refine ob_eeeeccccl V6'.open ?_; intro l6 at6 xs6 n6 F6 hl6 A6 T6 lx6
    generalize hC : ([⟨k, its, none⟩] : List Vd) = Cx
    have hok : ∀ p, (!(lackIt k (its.getD p .na))) = okAt Cx p := fun p => by rw [← hC]; simp [okAt]
    have hkk := hk.ok
    have hfr : k = "double" → ∀ it ∈ its, it = .na ∨ ∃ a b, it = .frac a b := hk.frac hit
    wtm_at "yW"
    wtm_at "yrange"
    with_reducible refine comp_vf TI (Nat.le_trans (Nat.le_trans (Nat.le_of_eq lx6) (Nat.le_trans (Nat.le_of_eq hl) hn)) (by decide)) (by kernel_rfl!) (b := okAt Cx) (ItV.mono (f := nat)) (fun C sD Wc i v' G' ρ' s' it d E' hi hP hG hρ S Qe Qn hQe hQn => ?_) fun D7 G7 s' hD7 hG7 hL7 S => ?_
    · with_reducible refine ob_el hP ?_; try clear hP; rintro ti rfl
      have hil : i < its.length := (Nat.lt_of_lt_of_le hi (Nat.le_of_eq lx6))
      have hx : xs6[((i : Int)).toNat]? = some (xs6[i]'(hi)) := by simp
      have hvi := A6.2 i (its.getD i .na) (xs6[i]'(hi)) (by rw [List.getD_eq_getElem?_getD, List.getElem?_eq_getElem hil]; rfl) (by simp)
      wtm_at "yW"
      with_reducible refine call0 S (by wtm_at "yU") (c_lacks (it := its.getD i .na) (by wtm_at "yU") (O.mono (by decide)) (by wtm_at "yU") hkk.1 (by wtm_at "yU") fun e => hfr e _ (getD_mem hil)) fun r G3 s' g3 S hp => ?_
      obtain rfl := hp
      wtm_at "yW"
      refine ⟨hok i, fun h => ?_, fun h => hQn _ _ g3 S⟩
      wtm_at "yW"
      exact hQe _ _ _ (g3) (⟨_, rfl⟩) S
    have IK : Its G7 ((keptP Cx its.length).map nat) D7 := by rw [lx6] at hL7; exact hL7.its
    refine ob_eecl IK ?_; try clear IK; intro ks mk hks AK
    have lks : ks.length = (keptP Cx its.length).length := by simpa using AK.1
    wtm_at "yW"
    wtm_at "yrange"
    with_reducible refine comp_bf TI (Nat.le_trans (Nat.le_trans (Nat.le_of_eq lx6) (Nat.le_trans (Nat.le_of_eq hl) hn)) (by decide)) (by kernel_rfl!) (b := fun p => !okAt Cx p) (ItV.mono (f := nat)) (fun C sD Wc i v' G' ρ' s' it d E' hi hP hG hρ S Qe Qn hQe hQn => ?_) (by kernel_rfl!) (by kernel_rfl!) fun D8 G8 s' hD8 hG8 hL8 S => ?_
    · with_reducible refine ob_el hP ?_; try clear hP; rintro ti rfl
      wtm_at "yW"
      refine notin_int (by wtm_at "yH") (AllV.up (by wtm_at "yU") S.z.gs) nums_nat ?_
      wtm_at "yW"
      refine ⟨by rw [kept_has (Nat.lt_of_lt_of_le hi (Nat.le_of_eq lx6))], fun h => ?_, fun h => hQn _ _ Le.rfl S⟩
      wtm_at "yW"
      exact hQe _ _ _ (Le.rfl) (⟨_, rfl⟩) S
    have IG : Its G8 ((goneP Cx its.length).map nat) D8 := by rw [lx6] at hL8; exact hL8.its
    refine ob_eecl IG ?_; try clear IG; intro gs mg hgs AG
    have lgs : gs.length = (goneP Cx its.length).length := by simpa using AG.1
    have lg := goneP_len (cols := Cx) (R := its.length)
    have lk := keptP_len (cols := Cx) (R := its.length)
    wtm_at "yW"
    with_reducible refine ob_eccl (S.freeze n0) ?_; intro G9 h9 e9 S
    have htx : (t = none ∧ tx = none) ∨ ∃ nv nl, t = some ([("names", nv)] : List (Str × Value)) ∧ tx = some nl ∧ VV w G9 nv ⟨"character", nl, none⟩ ∧ nl.length = its.length := by
      rcases hcase with ⟨e1, e2, _⟩ | ⟨nv, lh, e1, e2, _, _, VN⟩
      · exact .inl ⟨e1, e2⟩
      · exact .inr ⟨nv, _, e1, e2, by wtm_at "yU", by simp [nmsOf]⟩
    with_reducible refine call0 S (by wtm_at "yU") (c_na_omit_vec (by wtm_at "yU") (O.mono (by decide)) (by wtm_at "yU") (la := ln) e9 (by wtm_at "yU") (v := .ref x) (k := k) (its := its) (t := t) (by wtm_at "yU") hkk.1 hkk.2 (Nat.le_trans (Nat.le_trans (Nat.le_of_eq hl) hn) (by decide)) hfr (tx := tx) htx) fun r G10 s' h10 S hp => ?_
    rw [hC] at hp
    have hm : ∃ tm, VV w G10 r ⟨k, pickI its (keptP Cx its.length), tm⟩ ∧ ((goneP Cx its.length = [] ∧ tm = t) ∨ (goneP Cx its.length ≠ [] ∧ ∃ nv2 ov, tm = some (naK tx nv2 ov) ∧ (∀ t, tx = some t → VV w G10 nv2 ⟨"character", pickI t (keptP Cx its.length), none⟩) ∧ Note w G10 ov (goneP Cx its.length) tx)) := by
      rcases hp with ⟨e1, rfl⟩ | ⟨e1, nv2, ov, e2, e3, e4⟩
      · rw [kept_all e1, pickI_all rfl]
        exact ⟨t, by wtm_at "yU", .inl ⟨e1, rfl⟩⟩
      · exact ⟨_, e2, .inr ⟨e1, nv2, ov, rfl, e3, e4⟩⟩
    clear hp
    with_reducible refine ob_ecl hm ?_; try clear hm; intro tm VM hm
    with_reducible refine ob_eeeeccccl VM.open ?_; intro lm am xm nm FM hlm AM TM lxm
    wtm_at "yW"
    refine ite_no (by simp) ?_
    wtm_at "yW"
    with_reducible refine iter_list O.h S (by wtm_at "yU") fun it s' TI => ?_
    with_reducible refine comp_vk TI (Nat.le_trans (Nat.le_trans (Nat.le_of_eq lks) (Nat.le_trans lk (Nat.le_trans (Nat.le_of_eq hl) hn))) (by decide)) (by kernel_rfl!) (ItV.mono (f := fun i => (pickI its (keptP Cx its.length)).getD i .na)) (fun C sD Wc i v' G' ρ' s' it d E' hi hP hG hρ S Qe hQe => ?_) fun D11 G11 s' hD11 hG11 hL11 S => ?_
    · with_reducible refine ob_ecl (AK.at hP) ?_; intro itp e1 hv
      rw [List.getElem?_map] at e1
      with_reducible refine ob_ecl (Option.map_eq_some_iff.mp e1) ?_; rintro p hp rfl
      refine ob_el hv ?_; try clear hv; rintro tp rfl
      have hpl := keptP_lt p (List.mem_of_getElem? hp)
      have hx : xs6[((p : Int)).toNat]? = some (xs6[p]'(Nat.lt_of_lt_of_le hpl (Nat.le_of_eq lx6.symm))) := by simp
      have hv := A6.2 p (its.getD p .na) (xs6[p]'(Nat.lt_of_lt_of_le hpl (Nat.le_of_eq lx6.symm))) (by rw [List.getD_eq_getElem?_getD, List.getElem?_eq_getElem hpl]; rfl) (by simp)
      wtm_at "yW"
      exact hQe _ _ _ (Le.rfl) (by rw [pickI_at hp]; wtm_at "yU") S
    have I11 : Its G11 (pickI its (keptP Cx its.length)) D11 := hL11.its2 (by unfold pickI; simp [lks]) fun i it y e r => by
      rw [List.getD_eq_getElem?_getD, e] at r; exact r
    have hu := O.u
    wtm_at "yW"
    refine ne_its (its := pickI its (keptP Cx its.length)) S ⟨xm, nm, by wtm_at "yU", by wtm_at "yU"⟩ I11 (by wtm_at "yo") ?_
    wtm_at "yW"
    revert S
    rcases hm with ⟨hg0, rfl⟩ | ⟨hg0, nv2, ov, rfl, V2, N2⟩ <;> intro S
    · have hz0 : gs.length = 0 := by rw [lgs, hg0]; rfl
      revert S; rcases hcase with ⟨rfl, rfl, rfl⟩ | ⟨nv, lh, rfl, rfl, rfl, IH, VN⟩ <;> intro S
      · obtain rfl : am = .none := TM
        wtm_at "yW"
        with_reducible refine ob_eccl (AD.of P S (dict_nil (strKind pw w)) nd0) ?_; intro G12 h12 D12 S
        wtm_at "yW"
        exact S.out (List.nil_sublist _) rfl
      · refine ob_ecl TM ?_; try clear TM; rintro da rfl DA
        with_reducible refine ob_eeeeccccl VN.open ?_; intro lq aq xq nq FQ hlq AQ TQ lxq
        refine ob_eecl IH ?_; try clear IH; intro ys ny hlh AH
        have lnm : (nmsOf its.length).length = its.length := by simp [nmsOf]
        have lys : ys.length = its.length := by rw [AH.1, lnm]
        wtm_at "yW"
        with_reducible refine iter_list O.h S (by wtm_at "yU") fun it s' TI => ?_
        with_reducible refine comp_vk TI (Nat.le_trans (Nat.le_trans (Nat.le_of_eq lks) (Nat.le_trans lk (Nat.le_trans (Nat.le_of_eq hl) hn))) (by decide)) (by kernel_rfl!) (ItV.mono (f := fun i => (pickI (nmsOf its.length) (keptP Cx its.length)).getD i .na)) (fun C sD Wc i v' G' ρ' s' it d E' hi hP hG hρ S Qe hQe => ?_) fun D13 G13 s' hD13 hG13 hL13 S => ?_
        · with_reducible refine ob_ecl (AK.at hP) ?_; intro itp e1 hv
          rw [List.getElem?_map] at e1
          with_reducible refine ob_ecl (Option.map_eq_some_iff.mp e1) ?_; rintro p hp rfl
          refine ob_el hv ?_; try clear hv; rintro tp rfl
          have hpl := keptP_lt p (List.mem_of_getElem? hp)
          have hx : ys[((p : Int)).toNat]? = some (ys[p]'(Nat.lt_of_lt_of_le hpl (Nat.le_of_eq lys.symm))) := by simp
          have hv := AH.2 p ((nmsOf its.length).getD p .na) (ys[p]'(Nat.lt_of_lt_of_le hpl (Nat.le_of_eq lys.symm))) (by rw [List.getD_eq_getElem?_getD, List.getElem?_eq_getElem (by rw [lnm]; exact hpl)]; rfl) (by simp)
          wtm_at "yW"
          exact hQe _ _ _ (Le.rfl) (by rw [pickI_at hp]; wtm_at "yU") S
        have I13 : Its G13 (pickI (nmsOf its.length) (keptP Cx its.length)) D13 := hL13.its2 (by unfold pickI; simp [lks]) fun i it y e r => by
          rw [List.getD_eq_getElem?_getD, e] at r; exact r
        wtm_at "yW"
        have ek : pickI (nmsOf its.length) (keptP Cx its.length) = nmsOf its.length := by rw [kept_all hg0, pickI_all lnm.symm]
        rw [ek] at I13
        refine ne_its (its := nmsOf its.length) S ⟨xq, nq, by wtm_at "yU", by wtm_at "yU"⟩ I13 (by wtm_at "yo") ?_
        wtm_at "yW"
        exact S.out (List.nil_sublist _) rfl
    · have hz0 : gs.length ≠ 0 := fun e => hg0 (List.length_eq_zero_iff.mp (lgs ▸ e))
      revert S; rcases hcase with ⟨rfl, rfl, rfl⟩ | ⟨nv, lh, rfl, rfl, rfl, IH, VN⟩ <;> intro S
      · refine ob_ecl TM ?_; try clear TM; rintro da rfl DA
        replace DA : AD w G10 da [("na.action", ov)] := DA
        wtm_at "yW"
        refine call0 S (by wtm_at "yU") (c_note_right (by wtm_at "yU") (O.mono (by decide)) (by wtm_at "yU") (v := r) (k := k) (l := lm) (by wtm_at "yU") (da := da) (kvs := [("na.action", ov)]) (by wtm_at "yU") (by wtm_at "yva") (N2.up (by wtm_at "yL")) ⟨gs, mg, by wtm_at "yU", by wtm_at "yU"⟩ (Nat.le_trans (Nat.le_trans lg (Nat.le_trans (Nat.le_of_eq hl) hn)) (by decide)) (.inl ⟨rfl, rfl⟩)) fun r2 G14 s' h14 S hp => ?_
        obtain rfl := hp
        wtm_at "yW"
        exact S.out (List.nil_sublist _) rfl
      · refine ob_ecl TM ?_; try clear TM; rintro da rfl DA
        replace DA : AD w G10 da [("names", nv2), ("na.action", ov)] := DA
        refine ob_eeeeccccl ((V2 _ rfl).open) ?_; intro lq aq xq nq FQ hlq AQ TQ lxq
        refine ob_eecl IH ?_; try clear IH; intro ys ny hlh AH
        have lnm : (nmsOf its.length).length = its.length := by simp [nmsOf]
        have lys : ys.length = its.length := by rw [AH.1, lnm]
        wtm_at "yW"
        with_reducible refine iter_list O.h S (by wtm_at "yU") fun it s' TI => ?_
        with_reducible refine comp_vk TI (Nat.le_trans (Nat.le_trans (Nat.le_of_eq lks) (Nat.le_trans lk (Nat.le_trans (Nat.le_of_eq hl) hn))) (by decide)) (by kernel_rfl!) (ItV.mono (f := fun i => (pickI (nmsOf its.length) (keptP Cx its.length)).getD i .na)) (fun C sD Wc i v' G' ρ' s' it d E' hi hP hG hρ S Qe hQe => ?_) fun D13 G13 s' hD13 hG13 hL13 S => ?_
        · with_reducible refine ob_ecl (AK.at hP) ?_; intro itp e1 hv
          rw [List.getElem?_map] at e1
          with_reducible refine ob_ecl (Option.map_eq_some_iff.mp e1) ?_; rintro p hp rfl
          refine ob_el hv ?_; try clear hv; rintro tp rfl
          have hpl := keptP_lt p (List.mem_of_getElem? hp)
          have hx : ys[((p : Int)).toNat]? = some (ys[p]'(Nat.lt_of_lt_of_le hpl (Nat.le_of_eq lys.symm))) := by simp
          have hv := AH.2 p ((nmsOf its.length).getD p .na) (ys[p]'(Nat.lt_of_lt_of_le hpl (Nat.le_of_eq lys.symm))) (by rw [List.getD_eq_getElem?_getD, List.getElem?_eq_getElem (by rw [lnm]; exact hpl)]; rfl) (by simp)
          wtm_at "yW"
          exact hQe _ _ _ (Le.rfl) (by rw [pickI_at hp]; wtm_at "yU") S
        have I13 : Its G13 (pickI (nmsOf its.length) (keptP Cx its.length)) D13 := hL13.its2 (by unfold pickI; simp [lks]) fun i it y e r => by
          rw [List.getD_eq_getElem?_getD, e] at r; exact r
        wtm_at "yW"
        refine ne_its (its := pickI (nmsOf its.length) (keptP Cx its.length)) S ⟨xq, nq, by wtm_at "yU", by wtm_at "yU"⟩ I13 (by wtm_at "yo") ?_
        wtm_at "yW"
        refine call0 S (by wtm_at "yU") (c_note_right (by wtm_at "yU") (O.mono (by decide)) (by wtm_at "yU") (v := r) (k := k) (l := lm) (by wtm_at "yU") (da := da) (kvs := [("names", nv2), ("na.action", ov)]) (by wtm_at "yU") (by wtm_at "yva") (N2.up (by wtm_at "yL")) ⟨gs, mg, by wtm_at "yU", by wtm_at "yU"⟩ (Nat.le_trans (Nat.le_trans lg (Nat.le_trans (Nat.le_of_eq hl) hn)) (by decide)) (.inr ⟨nmsOf its.length, lh, rfl, rfl, ⟨ys, ny, by wtm_at "yU", by wtm_at "yU"⟩, (Nat.le_trans (Nat.le_trans (Nat.le_of_eq lnm) (Nat.le_trans (Nat.le_of_eq hl) hn)) (by decide)), fun p hp => by rw [lnm]; exact goneP_lt p hp⟩)) fun r2 G14 s' h14 S hp => ?_
        obtain rfl := hp
        wtm_at "yW"
        exact S.out (List.nil_sublist _) rfl))
end
end -- P28
section -- P29
open PySem.Calls PySem.Spec
/-- how a column's items read as texts -/
noncomputable def Txt (w : World) (G : Heap) (d : Vd) (f : It → It) : Prop := (d.t = none ∧ f = id) ∨ ∃ lv cv, d.t = some ([("levels", lv), ("class", cv)] : List (Str × Value)) ∧ f = deco [.txt "u", .txt "v"] ∧ (∀ it ∈ d.its, it = .na ∨ ∃ c : Nat, it = .int ((c : Int) + 1) ∧ c < 2) ∧ VV w G lv ⟨"character", [.txt "u", .txt "v"], none⟩
theorem Txt.up {w : World} {G H : Heap} {d : Vd} {f : It → It} (x : Txt w G d f) (g : Le G H) : Txt w H d f := x.imp id fun ⟨lv, cv, a, b, c, e⟩ => ⟨lv, cv, a, b, c, e.up g⟩
theorem Txt.na {w : World} {G : Heap} {d : Vd} {f : It → It} (x : Txt w G d f) : f .na = .na := by
  rcases x with ⟨_, rfl⟩ | ⟨_, _, _, rfl, _⟩ <;> rfl
theorem keptA_fac {lv cv : Value} : keptA (some ([("levels", lv), ("class", cv)] : List (Str × Value))) = some ([("levels", lv), ("class", cv)] : List (Str × Value)) := by
  have e : keptL ([("levels", lv), ("class", cv)] : List (Str × Value)) = ([("levels", lv), ("class", cv)] : List (Str × Value)) := by
    unfold keptL
    rw [List.filter_cons, if_pos (by kernel_rfl!), List.filter_cons, if_pos (by kernel_rfl!), List.filter_nil]
  rw [keptA_some (by rw [e]; simp), e]
theorem CD.txt {w : World} {G : Heap} {size : Nat} {d : Vd} (x : CD w G size d) : ∃ f, Txt w G d f ∧ ∀ ps : List Nat, (∀ p ∈ ps, p < size) → Txt w G (pickD ps d) f := unus (by exact trivial : Us (by
  rcases x with ⟨_, _, _, ht⟩ | ⟨cs, lv, cv, rfl, h1, h2, h3, h4⟩
  · exact ⟨id, .inl ⟨ht, rfl⟩, fun ps _ => .inl ⟨by unfold pickD; rw [ht]; rfl, rfl⟩⟩
  · refine ⟨_, .inr ⟨lv, cv, rfl, rfl, h2, h3⟩, fun ps hps => .inr ⟨lv, cv, keptA_fac, rfl, fun it hit => ?_, h3⟩⟩
    refine ob_ecl (List.mem_map.mp hit) ?_; rintro p hp rfl
    exact h2 _ (getD_mem (by rw [h1]; exact hps p hp))))
theorem CD.kept {w : World} {G : Heap} {size : Nat} {d : Vd} (x : CD w G size d) : keptA d.t = d.t := by
  rcases x with ⟨_, _, _, ht⟩ | ⟨cs, lv, cv, rfl, h1, h2, h3, h4⟩
  · rw [ht]; rfl
  · exact keptA_fac
theorem CD.nonm {w : World} {G : Heap} {size : Nat} {d : Vd} (x : CD w G size d) : d.its.length = size ∧ tSmall d.t ∧ NoNm d := unus (by exact trivial : Us (by
  have hk := x.col.1
  refine ⟨hk.l, ?_, hk.k, ?_, ?_⟩
  · rcases x with ⟨_, _, _, ht⟩ | ⟨cs, lv, cv, rfl, _⟩
    · rw [ht]; exact tSmall_none
    · intro kvs e; cases e; simp
  · rcases x with ⟨_, _, _, ht⟩ | ⟨cs, lv, cv, rfl, _⟩
    · rw [ht]; rfl
    · kernel_rfl!
  · rcases x with ⟨_, _, _, ht⟩ | ⟨cs, lv, cv, rfl, _⟩
    · rw [ht]; rfl
    · kernel_rfl!))
theorem cd_kept {w : World} {G : Heap} {size : Nat} {ds : List Vd} (h : ∀ d ∈ ds, CD w G size d) : ds.map keptV = ds := by
  have : ds.map keptV = ds.map id := List.map_congr_left fun d hd => by
    unfold keptV; rw [(h d hd).kept]; rfl
  rw [this, List.map_id]
theorem cd_all {w : World} {G : Heap} {size : Nat} {ds : List Vd} (h : ∀ d ∈ ds, CD w G size d) : ds.map (pickD (List.range size)) = ds := by
  have : ds.map (pickD (List.range size)) = ds.map id := List.map_congr_left fun d hd => by
    unfold pickD; rw [(h d hd).kept, pickI_all (h d hd).col.1.l.symm]; rfl
  rw [this, List.map_id]
theorem pickI_map {its : List It} {ps : List Nat} {f : It → It} (hf : f .na = .na) : pickI (its.map f) ps = (pickI its ps).map f := unus (by exact trivial : Us (by
  unfold pickI
  rw [List.map_map]
  refine List.map_congr_left fun p _ => ?_
  show (its.map f).getD p .na = f (its.getD p .na)
  rw [List.getD_eq_getElem?_getD, List.getD_eq_getElem?_getD, List.getElem?_map]
  cases its[p]? with
  | none => exact hf.symm
  | some x => rfl))
/-- the names of the law's columns -/
noncomputable def cmsOf (n : Nat) : List It := (List.range n).map fun (i : Nat) => .txt (("c" : Str) ++ ((toString (i : Int) : String) : Str))
theorem cms_txts {n : Nat} : txts (cmsOf n) := fun it h => by
  refine ob_ecl (List.mem_map.mp h) ?_; rintro i _ rfl
  exact ⟨_, rfl⟩
/-- what na.omit makes of the frame -/
noncomputable def MadeF (w : World) (G : Heap) (r : Value) (ds : List Vd) (names : List It) (rk : Str) (ri : List It) : Prop := ∃ da lI nv cv rv kvs, FV G r "list" lI (.ref da) ∧ AD w G da kvs ∧
  (valueAt kvs "names" = some nv ∧ valueAt kvs "class" = some cv ∧ valueAt kvs "row.names" = some rv) ∧ VVs w G (ds.map (pickD (keptP ds ri.length))) lI ∧ VV w G nv ⟨"character", names, none⟩ ∧ VV w G cv ⟨"character", [.txt "data.frame"], none⟩ ∧ VV w G rv ⟨rk, pickI ri (keptP ds ri.length), none⟩ ∧
  ((goneP ds ri.length = [] ∧ (valueAt kvs "na.action").isSome = false) ∨ (goneP ds ri.length ≠ [] ∧ ∃ ov, valueAt kvs "na.action" = some ov ∧ Note w G ov (goneP ds ri.length) (some (ri.map labelOf))))
section
variable {w : World} {A : Around} {s : Shared} {G : Heap} {a : Addr} {v : Value}
theorem c_texts (P : PG w G) (O : Ok A 1) (X : FnAt G a (stm 135)) {d : Vd} {f : It → It} (V : VV w G v d) (T : Txt w G d f) (hz : d.its.length ≤ 1000) :
    Run w A s G [] a [v] fun G' W' r => W' = [] ∧ ∃ p l x0 x2, r = .ref p ∧ G'.get? p = some (tup [x0, .ref l, x2]) ∧ Its G' (d.its.map f) l := unus (by exact trivial : Us (by
  obtain ⟨k, its, t⟩ := d
  rcases T with ⟨h, rfl⟩ | ⟨lv, cv, h, rfl, hc, VL⟩
  · obtain rfl : t = none := h
    refine run_mono (c_texts_plain P O X V (.inl rfl) hz) fun G' W' r _ ⟨h0, p, l, tk, h1, h2, h3⟩ => ⟨h0, p, l, _, _, h1, h2, by rw [List.map_id]; exact h3⟩
  · obtain rfl : t = some ([("levels", lv), ("class", cv)] : List (Str × Value)) := h
    refine run_mono (c_texts_fac P O X V (by wtm_at "yva") VL hz (by simp) hc) fun G' W' r _ ⟨h0, p, l, ll, tk, h1, h2, h3, _⟩ => ⟨h0, p, l, _, _, h1, h2, h3⟩))
theorem made_of {G : Heap} {r fv : Value} {ds : List Vd} {names : List It} {rk : Str} {ri : List It} (hds : ∀ d ∈ ds, CD w G ri.length d) (V : VF w G fv ⟨ds, names, ⟨rk, ri, none⟩⟩)
    (h : (goneP ds ri.length = [] ∧ r = fv) ∨ (goneP ds ri.length ≠ [] ∧ ∃ ov, VFN w G r ⟨ds.map (pickD (keptP ds ri.length)), names, ⟨rk, pickI ri (keptP ds ri.length), none⟩⟩ ov ∧ Note w G ov (goneP ds ri.length) (some (ri.map labelOf)))) : MadeF w G r ds names rk ri := unus (by exact trivial : Us (by
  rcases h with ⟨h0, rfl⟩ | ⟨h0, ov, ⟨da, lI, nv, cv, rv, F, D, IV, VN, VC, VR⟩, N⟩
  · refine ob_eeeeecccccl V.open ?_; intro da lI nv cv rv F D IV VN VC VR
    refine ⟨da, lI, nv, cv, rv, _, F, D, ⟨by wtm_at "yva", by wtm_at "yva", by wtm_at "yva"⟩, ?_, VN, VC, ?_, .inl ⟨h0, by kernel_rfl!⟩⟩
    · rw [kept_all h0, cd_all hds]; exact IV
    · rw [kept_all h0, pickI_all rfl]; exact VR
  · exact ⟨da, lI, nv, cv, rv, _, F, D, ⟨by wtm_at "yva", by wtm_at "yva", by wtm_at "yva"⟩, IV, VN, VC, VR, .inr ⟨h0, ov, by wtm_at "yva", N⟩⟩))
theorem c_omit_right (P : PG w G) (O : Ok A 13) (X : FnAt G a (stm 140)) {size : Nat} {ts : Tok} {ds : List Vd} {lc lf : Addr} (hsz : size ≤ 6) (VC : VVs w G ds lc) (IF : Its G (flags ds size) lf) (hC : ∀ d ∈ ds, CD w G size d) (h0 : 0 < ds.length) (h4 : ds.length ≤ 4)
    {lv : Value} {rk : Str} {ri : List It} (hr : (lv = .none ∧ rk = "integer" ∧ ri = rowsOf size) ∨ (rk = "character" ∧ VV w G lv ⟨"character", ri, none⟩ ∧ txts ri ∧ ri.Nodup ∧ ri.length = size)) :
    Run w A s G [] a [.int (size : Nat) ts, .ref lc, .ref lf, lv] fun G' W' r => W' = [] ∧ r = .bool true := unus (by exact trivial : Us (by
  refine Run.enter X P.lim O [("size", .int (size : Nat) ts), ("columns", .ref lc), ("full", .ref lf), ("law_labels", lv)] (by wtm_at "ybind") (by kernel_rfl!) fun fp s S O => ?_
  with_reducible refine ob_ecl (P.at "make_frame" 115 (by kernel_rfl!)) ?_; intro a1 g1 X1
  with_reducible refine ob_ecl (P.at "b_na_omit" 128 (by kernel_rfl!)) ?_; intro a2 g2 X2
  with_reducible refine ob_ecl (P.at "_law_texts_of" 135 (by kernel_rfl!)) ?_; intro a3 g3 X3
  with_reducible refine ob_ecl (P.at "_law_note_right" 139 (by kernel_rfl!)) ?_; intro a4 g4 X4
  have lri : ri.length = size := by
    rcases hr with ⟨_, _, rfl⟩ | ⟨_, _, _, _, h⟩
    · simp [rowsOf]
    · exact h
  refine ob_eecl IF ?_; try clear IF; intro fs nf hlf AF
  have lfs : fs.length = size := by simpa [flags] using AF.1
  refine ob_eecl VC ?_; try clear VC; intro cv0 nc0 hlc AC
  have lcv := AC.1
  have hu := O.u
  wtm_at "ygo"
  wtm_at "yW"
  wtm_at "yrange"
  with_reducible refine comp_bf TI (Nat.le_trans hsz (by decide)) (by kernel_rfl!) (b := okAt ds) (ItV.mono (f := nat)) (fun C sD Wc i v' G' ρ' s' it d E' hi hP hG hρ S Qe Qn hQe hQn => ?_) (by kernel_rfl!) (by kernel_rfl!) fun D1 G1 s' hD1 hG1 hL1 S => ?_
  · with_reducible refine ob_el hP ?_; try clear hP; rintro ti rfl
    have hx : fs[((i : Int)).toNat]? = some (fs[i]) := by simp
    refine ob_el (flag_of (AF.2 i (flagAt ds i) fs[i] (by unfold flags; rw [List.getElem?_map, List.getElem?_range (hi)]; rfl) (by simp))) ?_; intro t2 e2
    rw [e2] at hx
    wtm_at "yW"
    refine ⟨is_one, fun h => ?_, fun h => hQn _ _ Le.rfl S⟩
    wtm_at "yW"
    exact hQe _ _ _ (Le.rfl) (⟨_, rfl⟩) S
  have IK : Its G1 ((keptP ds size).map nat) D1 := hL1.its
  refine ob_eecl IK ?_; try clear IK; intro ks mk hks AK
  have lks : ks.length = (keptP ds size).length := by simpa using AK.1
  wtm_at "yW"
  wtm_at "yrange"
  with_reducible refine comp_bf TI (Nat.le_trans hsz (by decide)) (by kernel_rfl!) (b := fun p => !okAt ds p) (ItV.mono (f := nat)) (fun C sD Wc i v' G' ρ' s' it d E' hi hP hG hρ S Qe Qn hQe hQn => ?_) (by kernel_rfl!) (by kernel_rfl!) fun D2 G2 s' hD2 hG2 hL2 S => ?_
  · with_reducible refine ob_el hP ?_; try clear hP; rintro ti rfl
    have hx : fs[((i : Int)).toNat]? = some (fs[i]) := by simp
    refine ob_el (flag_of (AF.2 i (flagAt ds i) fs[i] (by unfold flags; rw [List.getElem?_map, List.getElem?_range (hi)]; rfl) (by simp))) ?_; intro t2 e2
    rw [e2] at hx
    wtm_at "yW"
    refine ⟨is_zero, fun h => ?_, fun h => hQn _ _ Le.rfl S⟩
    wtm_at "yW"
    exact hQe _ _ _ (Le.rfl) (⟨_, rfl⟩) S
  have IG : Its G2 ((goneP ds size).map nat) D2 := hL2.its
  refine ob_eecl IG ?_; try clear IG; intro gs mg hgs AG
  have lgs : gs.length = (goneP ds size).length := by simpa using AG.1
  have lg := goneP_len (cols := ds) (R := size)
  have lk := keptP_len (cols := ds) (R := size)
  wtm_at "yW"
  wtm_at "yrange"
  with_reducible refine comp_bk TI (Nat.le_trans (Nat.le_trans (Nat.le_of_eq lcv) h4) (by decide)) (by kernel_rfl!) (ItV.mono (f := fun (i : Nat) => .txt (("c" : Str) ++ ((toString (i : Int) : String) : Str)))) (fun C sD Wc i v' G' ρ' s' it d E' hi hP hG hρ S Qe hQe => ?_) (by kernel_rfl!) (by kernel_rfl!) fun D3 G3 s' hD3 hG3 hL3 S => ?_
  · with_reducible refine ob_el hP ?_; try clear hP; rintro ti rfl
    have hnl := num_len (i := i) (Nat.lt_of_le_of_lt (Nat.le_trans (Nat.le_of_lt hi) (Nat.le_trans (Nat.le_of_eq lcv) h4)) (by decide))
    wtm_at "yW"
    refine ⟨kept_type, b_str S (neg_lt_cast (by decide)) (cast_lt (Nat.le_trans (Nat.le_of_lt hi) (Nat.le_trans (Nat.le_of_eq lcv) h4)) (by decide)) fun tS s' S => ?_⟩
    wtm_at "yW"
    refine w_addstr S (by rw [Str.length_append, sizeLine_eq]; have : ("c" : Str).length = 1 := by decide +kernel
                          omega) fun tV s' S => ?_
    exact hQe _ _ _ (Le.rfl) (⟨_, rfl⟩) S
  have IH : Its G3 (cmsOf ds.length) D3 := by rw [← lcv]; exact hL3.its
  have lcm : (cmsOf ds.length).length = ds.length := by simp [cmsOf]
  wtm_at "yW"
  have hrd : (lv = .none ∧ (⟨rk, ri, none⟩ : Vd) = ⟨"integer", rowsOf size, none⟩) ∨ ∃ ri', (⟨rk, ri, none⟩ : Vd) = ⟨"character", ri', none⟩ ∧ VV w G3 lv ⟨"character", ri', none⟩ ∧ txts ri' ∧ ri'.Nodup ∧ ri'.length = size := by
    rcases hr with ⟨e1, e2, e3⟩ | ⟨e1, e2, e3, e4, e5⟩
    · exact .inl ⟨e1, by rw [e2, e3]⟩
    · exact .inr ⟨ri, by rw [e1], by wtm_at "yU", e3, e4, e5⟩
  have hlo : ∀ it ∈ ri, LOk rk it := by
    rcases hr with ⟨_, rfl, rfl⟩ | ⟨rfl, _, e3, _, _⟩
    · intro it h
      with_reducible refine ob_ecl (List.mem_map.mp h) ?_; rintro i hi rfl
      have : i < size := by simpa using hi
      exact .inl ⟨rfl, .inr ⟨_, rfl, by wtm_at "yo", (cast_lt1 (Nat.le_trans (Nat.le_of_lt this) hsz) (by decide))⟩⟩
    · exact fun it h => .inr ⟨rfl, .inr (e3 it h)⟩
  have hne : ds ≠ [] := fun e => by rw [e] at h0; exact absurd h0 (by simp)
  have hK : ds.map keptV = ds := cd_kept hC
  refine callF (by wtm_at "yU") S (by wtm_at "yU") (c_make_frame (rd := ⟨rk, ri, none⟩) (by wtm_at "yU") (O.mono (by decide)) (by wtm_at "yU") (cols := ds) ⟨cv0, nc0, by wtm_at "yU", by wtm_at "yU"⟩ (R := size) (fun d hd => (hC d hd).nonm) hne (Nat.le_trans h4 (by decide)) (Nat.le_trans hsz (by decide)) IH (Nat.le_trans (Nat.le_trans (Nat.le_of_eq lcm) h4) (by decide)) hrd) fun fv G4 s' h4' S VFr => ?_
  rw [hK] at VFr
  subst lri
  have hC4 : ∀ d ∈ ds, CD w G4 ri.length d := fun d hd => (hC d hd).up (by wtm_at "yL")
  wtm_at "yW"
  with_reducible refine ob_eccl (S.freeze n0) ?_; intro G5 h5 e5 S
  with_reducible refine call0 S (by wtm_at "yU") (c_na_omit_frame (by wtm_at "yU") (O.mono (by decide)) (by wtm_at "yU") e5 (by wtm_at "yU") (v := fv) (cols := ds) (names := cmsOf ds.length) (rk := rk) (ri := ri) (by wtm_at "yU") (Nat.le_trans hsz (by decide)) (fun d hd => ⟨(hC d hd).col.1, (hC d hd).nonm.2.1⟩) (Nat.le_trans h4 (by decide)) lcm h0 cms_txts hlo) fun r G6 s' h6 S hp => ?_
  refine ob_eeeeeecccccccl (made_of (fun d hd => (hC4 d hd).up (by wtm_at "yL")) (VFr.up (by wtm_at "yL")) hp) ?_; rintro da lI nv cv rv kvs F D ⟨kn, kc, kr⟩ IV VN VC VR hm
  with_reducible refine ob_eeeeecccccl VFr.open ?_; intro fda flI fnv fcv frv FF FD FIV FVN FVC FVR
  clear hp
  wtm_at "yW"
  with_reducible refine ob_eeeeccccl VN.open ?_; intro ln1 an1 xn1 nn1 FN1 hln1 AN1 TN1 lxn1
  with_reducible refine ob_eeeeccccl VC.open ?_; intro ln2 an2 xn2 nn2 FN2 hln2 AN2 TN2 lxn2
  with_reducible refine ob_eeeeccccl VR.open ?_; intro ln3 an3 xn3 nn3 FN3 hln3 AN3 TN3 lxn3
  with_reducible refine ob_eeeeccccl FVR.open ?_; intro ln4 an4 xn4 nn4 FN4 hln4 AN4 TN4 lxn4
  refine ad_sub S (by wtm_at "yU") kn (fun s' S => ?_) (by with_unfolding_all rfl)
  wtm_at "yW"
  refine ne_its (its := cmsOf ds.length) S ⟨xn1, nn1, by wtm_at "yU", by wtm_at "yU"⟩ (by wtm_at "yU") (by wtm_at "yo") ?_
  wtm_at "yW"
  refine ad_sub S (by wtm_at "yU") kc (fun s' S => ?_) (by with_unfolding_all rfl)
  wtm_at "yW"
  with_reducible refine ob_eccl (S.freeze n0) ?_; intro G7 h7 e7 S
  refine ne_its (its := [.txt "data.frame"]) S ⟨xn2, nn2, by wtm_at "yU", by wtm_at "yU"⟩ ⟨_, _, e7, .cons ⟨_, rfl⟩ .nil⟩ (by wtm_at "yo") ?_
  wtm_at "yW"
  refine ad_sub S (by wtm_at "yU") kr (fun s' S => ?_) (by with_unfolding_all rfl)
  wtm_at "yW"
  refine ite_no (by simp) ?_
  wtm_at "yW"
  refine ad_sub S (by wtm_at "yU") kr (fun s' S => ?_) (by with_unfolding_all rfl)
  wtm_at "yW"
  with_reducible refine iter_list O.h S (by wtm_at "yU") fun it s' TI => ?_
  with_reducible refine comp_vk TI (Nat.le_trans (Nat.le_trans (Nat.le_of_eq lks) (Nat.le_trans lk hsz)) (by decide)) (by kernel_rfl!) (ItV.mono (f := fun i => (pickI ri (keptP ds ri.length)).getD i .na)) (fun C sD Wc i v' G' ρ' s' it d E' hi hP hG hρ S Qe hQe => ?_) fun D8 G8 s' hD8 hG8 hL8 S => ?_
  · with_reducible refine ob_ecl (AK.at hP) ?_; intro itp e1 hv
    rw [List.getElem?_map] at e1
    with_reducible refine ob_ecl (Option.map_eq_some_iff.mp e1) ?_; rintro p hp rfl
    refine ob_el hv ?_; try clear hv; rintro tp rfl
    have hpl := keptP_lt p (List.mem_of_getElem? hp)
    have hx : xn4[((p : Int)).toNat]? = some (xn4[p]'(Nat.lt_of_lt_of_le hpl (Nat.le_of_eq lxn4.symm))) := by simp
    have hv := AN4.2 p (ri.getD p .na) (xn4[p]'(Nat.lt_of_lt_of_le hpl (Nat.le_of_eq lxn4.symm))) (by rw [List.getD_eq_getElem?_getD, List.getElem?_eq_getElem hpl]; rfl) (by simp)
    wtm_at "yW"
    exact hQe _ _ _ (Le.rfl) (by rw [pickI_at hp]; wtm_at "yU") S
  have I8 : Its G8 (pickI ri (keptP ds ri.length)) D8 := hL8.its2 (by unfold pickI; simp [lks]) fun i it y e r => by
    rw [List.getD_eq_getElem?_getD, e] at r; exact r
  wtm_at "yW"
  refine ne_its (its := pickI ri (keptP ds ri.length)) S ⟨xn3, nn3, by wtm_at "yU", by wtm_at "yU"⟩ I8 (by wtm_at "yo") ?_
  wtm_at "yW"
  wtm_at "yrange"
  refine ob_eecl IV ?_; try clear IV; intro mvs nI hlI AI
  have lmv : mvs.length = ds.length := by rw [AI.1]; simp
  refine for_it TI (fun i G' mu' ρ' => mu' = [] ∧ ρ' "made" = some r ∧ ρ' "columns" = some (.ref lc) ∧ ρ' "kept" = some (.ref D1) ∧ ρ' "gone" = some (.ref D2) ∧ ρ' "rows" = some frv) ⟨rfl, by wtm_at "yinv", by wtm_at "yinv", by wtm_at "yinv", by wtm_at "yinv", by wtm_at "yinv"⟩
    (fun i v' G' mu' ρ' s' it E' hi hP hG hI S Qb hQb => ?_) fun G' mu' ρ' s' hG hI S => ?_
  · with_reducible refine ob_cccccl hI ?_; try clear hI; rintro rfl r1 r2 r3 r4 r5
    with_reducible refine ob_el hP ?_; try clear hP; rintro tp rfl
    refine wpAny_assign_Name (S.st (by kernel_rfl!) (by kernel_rfl!) fun s' S => ?_)
    have hid : i < ds.length := (Nat.lt_of_lt_of_le hi (Nat.le_of_eq lcv))
    have hdi := hC ds[i] (List.getElem_mem hid)
    with_reducible refine ob_ecl hdi.txt ?_; intro f T1 T2
    have T2 := T2 (keptP ds ri.length) keptP_lt
    have VM : VV w G6 (mvs[i]'(Nat.lt_of_lt_of_le hid (Nat.le_of_eq lmv.symm))) (pickD (keptP ds ri.length) ds[i]) := AI.2 i _ _ (by simp [hid]) (by simp)
    have VO : VV w G (cv0[i]'(hi)) ds[i] := AC.2 i _ _ (by simp) (by simp)
    have hld := hdi.col.1.l
    have hx1 : mvs[((i : Int)).toNat]? = some (mvs[i]'(Nat.lt_of_lt_of_le hid (Nat.le_of_eq lmv.symm))) := by simp
    have hx2 : cv0[((i : Int)).toNat]? = some (cv0[i]'(hi)) := by simp
    generalize mvs[i]'(Nat.lt_of_lt_of_le hid (Nat.le_of_eq lmv.symm)) = mv at *
    generalize cv0[i]'(hi) = ov at *
    generalize ds[i] = d at *
    obtain ⟨k, its, t⟩ := d
    dsimp only at hld
    refine ob_eeeeccccl (VV.open (show VV w G6 mv ⟨k, pickI its (keptP ds ri.length), keptA t⟩ from VM)) ?_; intro lm1 am1 xm1 nm1 FM1 hlm1 AM1 TM1 lxm1
    with_reducible refine ob_eeeeccccl VO.open ?_; intro lo1 ao1 xo1 no1 FO1 hlo1 AO1 TO1 lxo1
    have lpk : (pickI its (keptP ds ri.length)).length ≤ 1000 := by unfold pickI; simp; omega
    wtm_at "yW"
    refine call0 S (by wtm_at "yU") (c_texts (by wtm_at "yU") (O.mono (by decide)) (by wtm_at "yU") (v := mv) (by wtm_at "yU") (T2.up (by wtm_at "yL")) lpk) fun r1 G9 s' h9 S hp => ?_
    with_reducible refine ob_eeeeccl hp ?_; try clear hp; rintro p1 l1 x0 x2 rfl hp1 I1
    replace I1 : Its G9 (pickI (its.map f) (keptP ds ri.length)) l1 := by rw [pickI_map T1.na]; exact I1
    wtm_at "yW"
    with_reducible refine iter_list O.h S (by wtm_at "yU") fun itk s' TI => ?_
    with_reducible refine comp_vk TI (Nat.le_trans (Nat.le_trans (Nat.le_of_eq lks) (Nat.le_trans lk hsz)) (by decide)) (by kernel_rfl!) (ItV.mono (f := fun i => (pickI (its.map f) (keptP ds ri.length)).getD i .na)) (fun C sD Wc j v' G' ρ' s' it d E' hj hP hG hρ S Qe hQe => ?_) fun D10 G10 s' hD10 hG10 hL10 S => ?_
    · with_reducible refine ob_ecl (AK.at hP) ?_; intro itp e1 hv
      rw [List.getElem?_map] at e1
      with_reducible refine ob_ecl (Option.map_eq_some_iff.mp e1) ?_; rintro p hp rfl
      refine ob_el hv ?_; try clear hv; rintro tp rfl
      have hpl := keptP_lt p (List.mem_of_getElem? hp)
      wtm_at "yW"
      with_reducible refine call0 S (by wtm_at "yU") (c_texts (by wtm_at "yU") (O.mono (by decide)) (by wtm_at "yU") (v := ov) (d := ⟨k, its, t⟩) (by wtm_at "yU") (T1.up (by wtm_at "yL")) (by show its.length ≤ 1000; omega)) fun r1 G11 s' h11 S hq => ?_
      with_reducible refine ob_eeeecceecl hq ?_; try clear hq; rintro p2 l2 y0 y2 rfl hp2 ys ny hl2 AY
      have lys : ys.length = its.length := by rw [AY.1]; simp
      have hx : ys[((p : Int)).toNat]? = some (ys[p]'(Nat.lt_of_lt_of_le hpl (Nat.le_trans (Nat.le_of_eq hld.symm) (Nat.le_of_eq lys.symm)))) := by simp
      have hv := AY.2 p ((its.map f).getD p .na) (ys[p]'(Nat.lt_of_lt_of_le hpl (Nat.le_trans (Nat.le_of_eq hld.symm) (Nat.le_of_eq lys.symm)))) (by rw [List.getD_eq_getElem?_getD, List.getElem?_eq_getElem (by simp; omega)]; rfl) (by simp)
      wtm_at "yW"
      exact hQe _ _ _ (h11) (by rw [pickI_at hp]; wtm_at "yU") S
    have I10 : Its G10 (pickI (its.map f) (keptP ds ri.length)) D10 := hL10.its2 (by unfold pickI; simp [lks]) fun i it y e r => by
      rw [List.getD_eq_getElem?_getD, e] at r; exact r
    wtm_at "yW"
    refine ne_its (its := pickI (its.map f) (keptP ds ri.length)) S (by wtm_at "yU") I10 (by wtm_at "yo") ?_
    wtm_at "yW"
    refine ite_no (by simp) ?_
    wtm_at "yW"
    exact Cont.go hQb rfl (by wtm_at "yL") (⟨rfl, by wtm_at "yinv", by wtm_at "yinv", by wtm_at "yinv", by wtm_at "yinv", by wtm_at "yinv"⟩) S
  · with_reducible refine ob_cccccl hI ?_; try clear hI; rintro rfl r1 r2 r3 r4 r5
    wtm_at "yW"
    rcases hm with ⟨hg0, hno⟩ | ⟨hg0, ov, hov, N⟩
    · have hz0 : gs.length = 0 := by rw [lgs, hg0]; rfl
      refine ite_yes (by simp [hz0]) ?_
      wtm_at "yW"
      refine ad_notin_b true S (by wtm_at "yU") (by rw [hno]; rfl) fun s' S => ?_
      wtm_at "yW"
      exact S.out (List.nil_sublist _) ⟨rfl, rfl⟩
    · have hz0 : ¬ gs.length = 0 := fun e => hg0 (List.length_eq_zero_iff.mp (lgs ▸ e))
      have hz1 : gs ≠ [] := fun e => hz0 (by rw [e]; rfl)
      refine ite_no (by simpa using hz1) ?_
      revert S
      rcases hr with ⟨_, rfl, eri⟩ | ⟨rfl, _, htx, _, _⟩ <;> intro S
      · have hit : ∀ it ∈ ri, ∃ z : Int, it = .int z ∧ 0 ≤ z ∧ z ≤ 7 := fun it h => by
          rw [eri] at h
          with_reducible refine ob_ecl (List.mem_map.mp h) ?_; rintro j hj rfl
          have : j < ri.length := by simpa using hj
          exact ⟨_, rfl, by wtm_at "yo", by wtm_at "yo"⟩
        wtm_at "yW"
        with_reducible refine iter_list O.h S (by wtm_at "yU") fun itk s' TI => ?_
        with_reducible refine comp_vk TI (Nat.le_trans (Nat.le_trans (Nat.le_of_eq lxn4) hsz) (by decide)) (by kernel_rfl!) (ItV.mono (f := fun i => (ri.map labelOf).getD i .na)) (fun C sD Wc j v' G' ρ' s' it d E' hj hP hG hρ S Qe hQe => ?_) fun D10 G10 s' hD10 hG10 hL10 S => ?_
        · with_reducible refine ob_ecl (AN4.at hP) ?_; intro iti e1 hv
          with_reducible refine ob_eccl (hit iti (List.mem_of_getElem? e1)) ?_; rintro z rfl hz2 hz3
          refine ob_el hv ?_; try clear hv; rintro tz rfl
          have ed : (ri.map labelOf).getD j .na = .txt ((toString z : String) : Str) := by rw [List.getD_eq_getElem?_getD, List.getElem?_map, e1]; rfl
          wtm_at "yW"
          refine ⟨kept_type, b_str S (neg0 hz2 (by decide)) (by wtm_at "yo") fun tS s' S => ?_⟩
          wtm_at "yW"
          exact hQe _ _ _ (Le.rfl) (by rw [ed]; exact ⟨_, rfl⟩) S
        have IT : Its G10 (ri.map labelOf) D10 := hL10.its2 (by simp [lxn4]) fun i it y e r => by
          rw [List.getD_eq_getElem?_getD, e] at r; exact r
        wtm_at "yW"
        refine call0 S (by wtm_at "yU") (c_note_right (by wtm_at "yU") (O.mono (by decide)) (by wtm_at "yU") (v := r) (k := "list") (l := lI) (by wtm_at "yU") (da := da) (kvs := kvs) (by wtm_at "yU") hov (N.up (by wtm_at "yL")) ⟨gs, mg, by wtm_at "yU", by wtm_at "yU"⟩ (Nat.le_trans (Nat.le_trans lg hsz) (by decide)) (.inr ⟨_, _, rfl, rfl, IT, by simp; omega, fun p hp => by rw [List.length_map]; exact goneP_lt p hp⟩)) fun r2 G14 s' h14 S hp => ?_
        obtain rfl := hp
        wtm_at "yW"
        exact S.out (List.nil_sublist _) ⟨rfl, rfl⟩
      · have el : ri.map labelOf = ri := by
          have : ri.map labelOf = ri.map id := List.map_congr_left fun it h => by
            refine ob_el (htx it h) ?_; rintro x rfl; rfl
          rw [this, List.map_id]
        wtm_at "yW"
        have IT : Its G' (ri.map labelOf) ln4 := by rw [el]; exact ⟨xn4, nn4, by wtm_at "yU", by wtm_at "yU"⟩
        refine call0 S (by wtm_at "yU") (c_note_right (by wtm_at "yU") (O.mono (by decide)) (by wtm_at "yU") (v := r) (k := "list") (l := lI) (by wtm_at "yU") (da := da) (kvs := kvs) (by wtm_at "yU") hov (N.up (by wtm_at "yL")) ⟨gs, mg, by wtm_at "yU", by wtm_at "yU"⟩ (Nat.le_trans (Nat.le_trans lg hsz) (by decide)) (.inr ⟨_, _, rfl, rfl, IT, by simp; omega, fun p hp => by rw [List.length_map]; exact goneP_lt p hp⟩)) fun r2 G14 s' h14 S hp => ?_
        obtain rfl := hp
        wtm_at "yW"
        exact S.out (List.nil_sublist _) ⟨rfl, rfl⟩))
end
end -- P29
section -- P20
open PySem.Calls PySem.Spec
section
variable {w : World} {A : Around} {s : Shared} {G : Heap} {a : Addr} {v : Value} {k : Str} {l : Addr} {at' : Value} {t : Option (List (Str × Value))} {its : List It} {ds : List Vd} {names : List It} {rk : Str} {ri : List It} {rd : Vd}
theorem c_with_names (P : PG w G) (O : Ok A 1) (X : FnAt G a (stm 96)) : Run w A s G [] a [v, .none] fun G' W' r => W' = [] ∧ r = v := by
  refine Run.enter X P.lim O [("v", v), ("names", .none)] (by wtm_at "ybind") (by kernel_rfl!) fun fp s S O => ?_
  wtm_at "ygo"
  wtm_at "yA"
  exact S.out (.refl _) ⟨rfl, rfl⟩
theorem c_as_kind (P : PG w G) (O : Ok A 6) (X : FnAt G a (stm 97)) (V : VV w G v ⟨"logical", its, none⟩) (hz : its.length ≤ 1000) {tk : Tok} {nt : Value} : Run w A s G [] a [v, .str "logical" tk, nt] fun G' W' r => W' = [] ∧ VV w G' r ⟨"logical", its, none⟩ := unus (by exact trivial : Us (by
  refine Run.enter X P.lim O [("v", v), ("kind", .str "logical" tk), ("notes", nt)] (by wtm_at "ybind") (by kernel_rfl!) fun fp s S O => ?_
  with_reducible refine ob_eeeeccccl V.open ?_; intro l at' xs n F hl AV T lx
  refine ob_eeecccl F ?_; try clear F; rintro x d o rfl hx hd VX
  have F : FV G (.ref x) "logical" l at' := ⟨x, d, o, rfl, hx, hd, VX⟩
  with_reducible refine ob_ecl (P.at "with_names" 96 (by kernel_rfl!)) ?_; intro a1 g1 X1
  with_reducible refine ob_ecl (P.at "names_of" 55 (by kernel_rfl!)) ?_; intro a2 g2 X2
  wtm_at "ygo"
  wtm_at "yA"
  refine ⟨kept_builtin, b_isin P S (by wtm_at "yH") ?_⟩
  wtm_at "yA"
  refine ⟨kept_type, b_list S (by wtm_at "yH") (by rw [sizeLine_eq]; omega) fun l2 c2 s' n2 S => ?_⟩
  with_reducible refine ob_eccl (S.freeze n2) ?_; intro G2 h2 e2 S
  wtm_at "yA"
  refine ⟨kept_vec P S.le0, new_vec2 (vs := []) P (O.mono (by decide)) S fun x3 d3 o3 G5 s' h5 hx3 hd3 V3 S => ?_⟩
  refine ob_eccl (still1 (w := w) (its := its) (t := none) S hx3 V3 ⟨xs, c2, by wtm_at "yU", by wtm_at "yU"⟩ rfl hd3) ?_; intro G6 h6 VV3 S
  wtm_at "yA"
  with_reducible refine call0 S (by wtm_at "yU") (c_names_none (by wtm_at "yU") (O.mono (by decide)) (by wtm_at "yU") (by simp [KOk]) (v := .ref x) (k := "logical") (l := l) (at' := at') (t := none) (by wtm_at "yU") (by wtm_at "yU") rfl rfl) fun r G21 s' h21 S hp => ?_
  obtain rfl := hp
  wtm_at "yA"
  refine call0 S (by wtm_at "yU") (c_with_names (by wtm_at "yU") (O.mono (by decide)) (by wtm_at "yU")) fun r G22 s' h22 S hp => ?_
  obtain rfl := hp
  wtm_at "yA"
  exact S.out (.refl _) ⟨rfl, by wtm_at "yU"⟩))
theorem c_is_true (P : PG w G) (O : Ok A 7) (X : FnAt G a (stm 99)) (V : VV w G v ⟨"logical", [.int 0], none⟩) : Run w A s G [] a [v, .bool true] fun G' W' r => W' = [] ∧ r = .bool false := unus (by exact trivial : Us (by
  refine Run.enter X P.lim O [("v", v), ("usual", .bool true)] (by wtm_at "ybind") (by kernel_rfl!) fun fp s S O => ?_
  with_reducible refine ob_ecl (P.at "as_kind" 97 (by kernel_rfl!)) ?_; intro a1 g1 X1
  have hvn : (v == .none) = false := by (refine ob_eecl V ?_; try clear V; rintro _ _ ⟨_, _, _, e, _⟩ _); rw [e]; rfl
  wtm_at "ygo"
  wtm_at "yA"
  rw [hvn]
  wtm_at "yA"
  with_reducible refine call0 S (by wtm_at "yU") (c_as_kind (by wtm_at "yU") (O.mono (by decide)) (by wtm_at "yU") (its := [.int 0]) (by wtm_at "yU") (by simp)) fun r G2 s' h2 S V2 => ?_
  with_reducible refine ob_eeeeccccl V2.open ?_; intro l at' xs n F hl AV T lx
  obtain ⟨y, rfl⟩ : ∃ y, xs = [y] := by
    exact List.length_eq_one_iff.mp (by simpa using lx)
  refine ob_el (AV.2 0 (.int 0) y rfl rfl) ?_; rintro ty rfl
  wtm_at "yA"
  exact S.out (List.nil_sublist _) ⟨rfl, rfl⟩))
theorem c_room (P : PG w G) (O : Ok A 1) (X : FnAt G a (stm 41)) {n : Int} {tn : Tok} (hn : n ≤ 1000000) : Run w A s G [] a [.int n tn] fun G' W' r => W' = [] ∧ r = .int n tn := unus (by exact trivial : Us (by
  refine Run.enter X P.lim O [("n", .int n tn)] (by wtm_at "ybind") (by kernel_rfl!) fun fp s S O => ?_
  with_reducible refine ob_el P.most ?_; intro tm gm
  wtm_at "ygo"
  wtm_at "yA"
  exact S.out (.refl _) ⟨rfl, rfl⟩))
end
end -- P20
section -- P21
open PySem.Calls PySem.Spec
noncomputable def gk (f : Bool) (pt : Pt) : Prop := f = true ∧ pt.k = "character"
theorem not_gk {pt : Pt} : ¬ gk false pt := fun h => by cases h.1
noncomputable def GCol (w : World) (G : Heap) (f : Bool) (tot st : Nat) (pt : Pt) (d : Vd) : Prop :=
  (gk f pt → ∃ lv cv, d = ⟨"integer", pickI (codes pt.its) (plc tot st (max pt.its.length 1)), some [("levels", lv), ("class", cv)]⟩ ∧ VV w G lv ⟨"character", levs pt.its, none⟩ ∧ VV w G cv ⟨"character", [.txt "factor"], none⟩) ∧
  (¬ gk f pt → d = ⟨pt.k, pickI pt.its (plc tot st (max pt.its.length 1)), none⟩)
theorem GCol.up {w : World} {G H : Heap} {f : Bool} {tot st : Nat} {pt : Pt} {d : Vd} (x : GCol w G f tot st pt d) (g : Le G H) : GCol w H f tot st pt d :=
  ⟨fun h => let ⟨lv, cv, a, b, c⟩ := x.1 h; ⟨lv, cv, a, b.up g, c.up g⟩, x.2⟩
theorem totl_zero {ps : List Pt} {pt : Pt} (h : pt ∈ ps) (h0 : pt.its.length = 0) : totl ps = 0 := unus (by exact trivial : Us (by
  have z : ∀ (l : List Pt), l.foldl (fun t (p : Pt) => t * p.its.length) 0 = 0 := by
    intro l
    induction l with
    | nil => rfl
    | cons a l ih => rw [List.foldl_cons, Nat.zero_mul]; exact ih
  have : ∀ (l : List Pt) (t : Nat), pt ∈ l → l.foldl (fun t p => t * p.its.length) t = 0 := by
    intro l
    induction l with
    | nil => intro t h; cases h
    | cons a l ih =>
      intro t h
      rw [List.foldl_cons]
      rcases List.mem_cons.mp h with rfl | h
      · rw [h0, Nat.mul_zero]; exact z l
      · exact ih _ h
  exact this ps 1 h))
theorem plc_lt {tot st n : Nat} (h : n = 0 → tot = 0) : ∀ p ∈ plc tot st (max n 1), p < n := unus (by exact trivial : Us (by
  intro p hp
  with_reducible refine ob_ecl (List.mem_map.mp hp) ?_; rintro q hq rfl
  have hq : q < tot := by simpa using hq
  have : n ≠ 0 := fun e => by have := h e; omega
  have e : max n 1 = n := by wtm_at "yo"
  rw [e]
  exact Nat.mod_lt _ (by wtm_at "yo")))
theorem eq_tag {w : World} {A : Around} {E : Value → Shared → Prop} {s : Shared} {o : Option Str} {tv : Value} {y : Str} {u : Tok} {Q : Value → Shared → Prop} (T : TagV o tv) (h : Q (.bool (o == some y)) s) : wpAny (model pw w) A (compareOp .Eq tv (.str y u)) Q E s := unus (by exact trivial : Us (by
  cases o with
  | none => obtain rfl : tv = .none := T; exact EqNone.eq_none_str h
  | some x =>
    refine ob_el T ?_; try clear T; rintro t rfl
    refine q_eq _ rfl ?_
    have e : (x == y) = (some x == some y) := by rw [Bool.eq_iff_iff]; simp
    rw [e]; exact h))
theorem ne_tag {w : World} {A : Around} {E : Value → Shared → Prop} {s : Shared} {o : Option Str} {tv : Value} {y : Str} {u : Tok} {Q : Value → Shared → Prop} (T : TagV o tv) (h : Q (.bool (o != some y)) s) : wpAny (model pw w) A (compareOp .NotEq tv (.str y u)) Q E s := unus (by exact trivial : Us (by
  cases o with
  | none => obtain rfl : tv = .none := T; exact EqNone.ne_none_str h
  | some x =>
    refine ob_el T ?_; try clear T; rintro t rfl
    refine r_nes ?_
    have e : (x != y) = (some x != some y) := by rw [Bool.eq_iff_iff]; simp
    rw [e]; exact h))
theorem TagV.isNone {o : Option Str} {tv : Value} (T : TagV o tv) : (tv == .none) = o.isNone := by
  cases o with
  | none => obtain rfl : tv = .none := T; rfl
  | some x => (refine ob_el T ?_; try clear T; rintro t rfl); rfl
theorem plc_len {tot st c : Nat} : (plc tot st c).length = tot := by simp [plc]
theorem GCol.col {w : World} {G : Heap} {f : Bool} {tot st : Nat} {pt : Pt} {d : Vd} (h : GCol w G f tot st pt d) (ok : PtOk pt) : d.its.length = tot ∧ tSmall d.t ∧ NoNm d ∧ keptV d = d := unus (by exact trivial : Us (by
  by_cases g : gk f pt
  · refine ob_eecl (h.1 g) ?_; rintro lv cv rfl _
    refine ⟨by simp [pickI, plc_len], fun kvs e => by cases e; simp, ⟨by simp [KOk], rfl, rfl⟩, ?_⟩
    have e : keptL ([("levels", lv), ("class", cv)] : List (Str × Value)) = ([("levels", lv), ("class", cv)] : List (Str × Value)) := by unfold keptL; kernel_rfl!
    show (⟨_, _, keptA (some _)⟩ : Vd) = _
    rw [keptA_some (by rw [e]; simp), e]
  · rw [h.2 g]
    exact ⟨by simp [pickI, plc_len], fun kvs e => (by cases e), ⟨ok.k, rfl, rfl⟩, rfl⟩))
structure GOk (parts : List Pt) : Prop where
  ok : ∀ pt ∈ parts, PtOk pt ∧ pt.its.length ≤ 1000
  t : ∀ i, totl (parts.take i) ≤ 1000
  s : ∀ i, stpl (parts.take i) ≤ 100000
  p : 0 < parts.length
  q : parts.length ≤ 9
section
variable {w : World} {A : Around} {s : Shared} {G : Heap} {a : Addr}
theorem c_expand_grid (P : PG w G) (O : Ok A 11) (X : FnAt G a (stm 125)) {la : Addr} {as : List (Option Pt)} {xs : List Value} {n : Nat} (hla : G.get? la = some (lst xs n)) (lxs : xs.length = as.length) (hA : ∀ (i : Nat) o p, as[i]? = some o → xs[i]? = some p → ArgG w G o p) (hz : as.length ≤ 100)
    {parts : List Pt} (hparts : parts = as.filterMap id) (K : GOk parts) :
    Run w A s G [] a [.none, .ref la, .none] fun G' W' r => ∃ ds, NFr w G' W' r ⟨ds, parts.mapIdx headOf, ⟨"integer", rowsOf (totl parts), none⟩⟩ ∧ ds.length = parts.length ∧
      ∀ (j : Nat) d pt, ds[j]? = some d → parts[j]? = some pt → GCol w G' (as.all (·.isSome)) (totl parts) (stpl (parts.take j)) pt d := unus (by exact trivial : Us (by
  refine Run.enter X P.lim O [("interp", .none), ("args", .ref la), ("env", .none)] (by wtm_at "ybind") (by kernel_rfl!) fun fp s S O => ?_
  with_reducible refine ob_ecl (P.at "is_true" 99 (by kernel_rfl!)) ?_; intro a1 g1 X1
  with_reducible refine ob_ecl (P.at "is_vector" 47 (by kernel_rfl!)) ?_; intro a2 g2 X2
  with_reducible refine ob_ecl (P.at "room" 41 (by kernel_rfl!)) ?_; intro a3 g3 X3
  with_reducible refine ob_ecl (P.at "grid_factor" 124 (by kernel_rfl!)) ?_; intro a4 g4 X4
  with_reducible refine ob_ecl (P.at "pick_items" 111 (by kernel_rfl!)) ?_; intro a5 g5 X5
  with_reducible refine ob_ecl (P.at "make_frame" 115 (by kernel_rfl!)) ?_; intro a6 g6 X6
  have lpa : parts.length ≤ as.length := by rw [hparts]; exact List.length_filterMap_le ..
  wtm_at "ygo"
  wtm_at "yA"
  obtain ⟨lp, hlp⟩ : ∃ lp, lp = ln := ⟨_, rfl⟩
  subst hlp
  with_reducible refine iter_list O.h S (by wtm_at "yU") fun it s' TI => ?_
  refine for_it TI (fun i G' mu' ρ' => (∃ zs m, mu' = [(lp, lst zs m)] ∧ AllP w G' ((as.take i).filterMap id) zs) ∧ ρ' "parts" = some (.ref lp) ∧ ρ' "factors" = some (.bool ((as.take i).all (·.isSome)))) ⟨⟨[], 0, rfl, .nil⟩, by wtm_at "yinv", by wtm_at "yinv"⟩
    (fun i v' G' mu' ρ' s' it E' hi hP hG hI S Qb hQb => ?_) fun G' mu' ρ' s' hG hI S => ?_
  · with_reducible refine ob_ccl hI ?_; try clear hI; rintro ⟨zs, m, rfl, AZ⟩ r1 r2
    have hi' : i < as.length := (Nat.lt_of_lt_of_le hi (Nat.le_of_eq lxs))
    have hai : as[i]? = some as[i] := by simp [hi']
    have hlz : zs.length ≤ 100 := by
      have h1 := AZ.1
      have h2 := List.length_filterMap_le id (as.take i)
      simp at h2; omega
    have ha := hA i as[i] v' hai hP
    have e1 : as.take (i + 1) = as.take i ++ [as[i]] := by rw [List.take_add_one, hai]; rfl
    rw [e1, List.filterMap_append, List.all_append] at hQb
    generalize as[i] = ai at *
    cases ai with
    | none =>
      refine ob_eeeccl ha ?_; try clear ha; rintro qq tq vv rfl hq Vv
      refine assign_two O.h S (by wtm_at "yH") (by kernel_rfl!) (by kernel_rfl!) (by kernel_rfl!) fun s' S => ?_
      wtm_at "yA"
      with_reducible refine call0 S (by wtm_at "yU") (c_is_true (by wtm_at "yU") (O.mono (by decide)) (by wtm_at "yU") (by wtm_at "yU")) fun r G2 s' h2 S hp => ?_
      obtain rfl := hp
      wtm_at "yA"
      refine Cont.go hQb rfl (h2) (⟨⟨zs, m, rfl, by simpa using AZ.up h2⟩, by wtm_at "yinv", ?_⟩) S
      simp
      wtm_at "yrho"
    | some pt =>
      refine ob_eeecccl ha ?_; try clear ha; rintro qq tv vv rfl hq Tv Vv
      refine assign_two O.h S (by wtm_at "yH") (by kernel_rfl!) (by kernel_rfl!) (by kernel_rfl!) fun s' S => ?_
      have hok : PtOk pt := (K.ok pt (by rw [hparts]; exact List.mem_filterMap.mpr ⟨some pt, List.mem_of_getElem? hai, rfl⟩)).1
      have t1 : (pt.tag == some ("stringsAsFactors" : Str)) = false := by
        cases e : pt.tag with
        | none => rfl
        | some x => have := (hok.tag x e).1; simpa using this
      have t2 : (pt.tag != some ("KEEP.OUT.ATTRS" : Str)) = true := by
        cases e : pt.tag with
        | none => rfl
        | some x => have := (hok.tag x e).2; simpa using this
      wtm_at "yA"
      refine eq_tag Tv ?_
      rw [t1]
      wtm_at "yA"
      refine ne_tag Tv ?_
      rw [t2]
      wtm_at "yA"
      wtm_at "yap1"
      wtm_at "yap2"
      refine Cont.go hQb rfl (by assumption) (⟨⟨_, _, rfl, ?_⟩, by wtm_at "yinv", ?_⟩) S
      · refine AllP.snoc (d := pt) (AZ.up (by assumption)) ⟨tn, tv, vv, rfl, by wtm_at "yU", Tv, by wtm_at "yU"⟩
      · simp
        wtm_at "yrho"
  · with_reducible refine ob_ccl hI ?_; try clear hI; rintro ⟨zs, m, rfl, AZ⟩ r1 r2
    rw [lxs, List.take_length, ← hparts] at AZ
    rw [lxs, List.take_length] at r2
    generalize as.all (·.isSome) = f at *
    with_reducible refine ob_eccl (S.freeze n0) ?_; intro G2 h2 e2 S
    replace e2 : G2.get? lp = some (lst zs m) := e2
    replace AZ := AZ.up h2
    have lz := AZ.1
    have kq := K.q
    wtm_at "yqs"
    refine wpAny_execs_cons (if_not S ?_ fun s' S => ?_)
    · wtm_at "yA"
      by_cases h1 : parts.length = 1
      · refine ite_yes (by simp; omega) ?_
        obtain ⟨z, ez⟩ : ∃ z, zs = [z] := by
          exact List.length_eq_one_iff.mp (lz.trans h1)
        refine ob_eceeecccl (AZ.at (i := 0) (v := z) (by rw [ez]; rfl)) ?_; intro pt ep qz tv vv eqz hqz Tz Vz
        rw [ez, eqz] at e2
        with_reducible refine ob_eeeeccccl Vz.open ?_; intro l at' xs n F hl AV T lx
        have hok := (K.ok pt (List.mem_of_getElem? ep)).1
        have hkl : (pt.k == ("list" : Str)) = false := by simpa using hok.nl
        wtm_at "yA"
        rw [hkl]
        wtm_at "yA"
        exact ⟨rfl, S⟩
      · refine ite_no (by simp; omega) ?_
        exact ⟨rfl, S⟩
    wtm_at "yA"
    with_reducible refine iter_list O.h S (by wtm_at "yU") fun it s' TI => ?_
    refine for_it TI (fun i G' mu' ρ' => mu' = [] ∧ (∃ t, ρ' "total" = some (.int (totl (parts.take i) : Nat) t)) ∧ ρ' "parts" = some (.ref lp) ∧ ρ' "factors" = some (.bool f)) ⟨rfl, ⟨_, by wtm_at "yrd"⟩, by wtm_at "yinv", by wtm_at "yinv"⟩
      (fun i v' G' mu' ρ' s' it E' hi hP hG hI S Qb hQb => ?_) fun G' mu' ρ' s' hG hI S => ?_
    · with_reducible refine ob_cccl hI ?_; try clear hI; rintro rfl ⟨tt, r1⟩ r2 r3
      with_reducible refine ob_eceeecccl (AZ.at hP) ?_; intro pt ep qz tv vv eqz hqz Tz Vz
      with_reducible refine ob_eeeeccccl Vz.open ?_; intro l' at2 xv nv F hl AV T lx
      refine ob_eeecccl F ?_; try clear F; intro x d o ex hx hd VX
      have F : FV G2 vv pt.k l' at2 := ⟨x, d, o, ex, hx, hd, VX⟩
      have hl9 := (K.ok pt (List.mem_of_getElem? ep)).2
      rw [eqz]
      refine assign_two O.h S (by wtm_at "yH") (by kernel_rfl!) (by kernel_rfl!) (by kernel_rfl!) fun s' S => ?_
      rw [ex] at *
      wtm_at "yA"
      with_reducible refine call0 S (by wtm_at "yU") (c_is_vector (by wtm_at "yU") (O.mono (by decide)) (by wtm_at "yU") (x := x) (d := d) (by wtm_at "yU")) fun r G3 s' g3 S hp => ?_
      obtain rfl := hp
      wtm_at "yA"
      have hts := totl_succ ep
      have ht0 := K.t i
      have ht1 := K.t (i + 1)
      with_reducible refine w_mul S (IntMulOk.of_left (PySem.intBits_le_64 (neg_lt_cast (by decide)) (cast_lt ht0 (by decide)))) fun t' s' S => ?_
      have em : ((totl (parts.take i) : Nat) : Int) * (xv.length : Int) = ((totl (parts.take (i + 1)) : Nat) : Int) := by rw [hts, lx]; simp
      rw [em]
      wtm_at "yA"
      with_reducible refine call0 S (by wtm_at "yU") (c_room (by wtm_at "yU") (O.mono (by decide)) (by wtm_at "yU") (by wtm_at "yo")) fun r G4 s' g4 S hp => ?_
      obtain rfl := hp
      wtm_at "yA"
      exact Cont.go hQb rfl (g3.trans g4) (⟨rfl, by wtm_at "yinv", by wtm_at "yinv", by wtm_at "yinv"⟩) S
    · with_reducible refine ob_cccl hI ?_; try clear hI; rintro rfl ⟨tt, r1⟩ r2 r3
      rw [lz, List.take_length] at r1
      iterate 6 wtm_at "yb"
      obtain ⟨lc, hlc⟩ : ∃ lc, lc = ln := ⟨_, rfl⟩
      subst hlc
      have nc0 := n0
      clear n0
      wtm_at "yA"
      obtain ⟨lnm, hlnm⟩ : ∃ lnm, lnm = ln := ⟨_, rfl⟩
      subst hlnm
      with_reducible refine iter_list O.h S (by wtm_at "yU") fun it s' TI => ?_
      refine for_it TI (fun i G' mu' ρ' => (∃ ns m1 cs m2 ds, mu' = [(lnm, lst ns m1), (lc, lst cs m2)] ∧ AllVV w G' ds cs ∧ ds.length = i ∧ (∀ (j : Nat) d pt, ds[j]? = some d → parts[j]? = some pt → GCol w G' f (totl parts) (stpl (parts.take j)) pt d) ∧ AllV G' ((parts.take i).mapIdx headOf) ns) ∧
          ρ' "columns" = some (.ref lc) ∧ ρ' "names" = some (.ref lnm) ∧ (∃ t, ρ' "step" = some (.int (stpl (parts.take i) : Nat) t)) ∧ (∃ t, ρ' "total" = some (.int (totl parts : Nat) t)) ∧ ρ' "factors" = some (.bool f))
        ⟨⟨[], 0, [], 0, [], rfl, .nil, rfl, fun j d pt e => by simp at e, .nil⟩, by wtm_at "yinv", by wtm_at "yinv", ⟨_, by wtm_at "yrd"⟩, by wtm_at "yinv", by wtm_at "yinv"⟩
        (fun i v' G' mu' ρ' s' it E' hi hP hG hI S Qb hQb => ?_) fun G' mu' ρ' s' hG hI S => ?_
      · with_reducible refine ob_cccccl hI ?_; try clear hI; rintro ⟨ns, m1, cs, m2, ds, rfl, AD, lds, hds, AN⟩ r1 r2 ⟨ts, r3⟩ ⟨tt2, r4⟩ r5
        with_reducible refine ob_eceeecccl (AZ.at hP) ?_; intro pt ep qz tv vv eqz hqz Tz Vz
        with_reducible refine ob_eeeeccccl Vz.open ?_; intro l' at2 xv nv F hl AV T lx
        with_reducible refine ob_cl (K.ok pt (List.mem_of_getElem? ep)) ?_; intro hok hl9
        have hip : i < parts.length := (List.getElem?_eq_some_iff.mp ep).1
        have lcs : cs.length = i := by rw [AD.1, lds]
        have lns : ns.length = i := by rw [AN.1]; simp; omega
        have hst := K.s i
        have hst2 := K.s (i + 1)
        have htt : totl parts ≤ 1000 := by have := K.t parts.length; rwa [List.take_length] at this
        have hsp := stpl_pos (parts.take i)
        have ssu := stpl_succ ep
        rw [eqz]
        refine assign_two O.h S (by wtm_at "yH") (by kernel_rfl!) (by kernel_rfl!) (by kernel_rfl!) fun s' S => ?_
        wtm_at "yqs"
        refine wpAny_execs_cons (assign_cut (R := fun G' v => ∃ dc, VV w G' v dc ∧ (gk f pt → ∃ lv cv, dc = ⟨"integer", codes pt.its, some [("levels", lv), ("class", cv)]⟩ ∧ VV w G' lv ⟨"character", levs pt.its, none⟩ ∧ VV w G' cv ⟨"character", [.txt "factor"], none⟩) ∧ (¬ gk f pt → dc = ⟨pt.k, pt.its, none⟩)) S ?_ (fun colv G3 s' g3 hcol S => ?_) (by kernel_rfl!))
        · intro Qe hQe; cases hf : f with
          | false =>
            rw [hf] at r5 hQe
            wtm_at "yA"
            exact hQe _ _ _ (Le.rfl) (⟨_, by wtm_at "yU", fun h => absurd h not_gk, fun _ => rfl⟩) S
          | true =>
            rw [hf] at r5 hQe
            wtm_at "yA"
            by_cases hk : pt.k = "character"
            · have hkb : (pt.k == ("character" : Str)) = true := by simpa using hk
              rw [hkb]
              wtm_at "yA"
              have Vz' : VV w G2 vv ⟨"character", pt.its, none⟩ := by rw [← hk]; exact Vz
              refine St.call (W := []) S (by wtm_at "yU") (c_grid_factor (by wtm_at "yU") (O.mono (by decide)) (by wtm_at "yU") (its := pt.its) (by wtm_at "yU") hl9 (hok.tx hk)) fun r G3 W3 s' g3 S hp hn => ?_
              with_reducible refine ob_eeccl hp ?_; try clear hp; intro lv cv hN VL VC
              with_reducible refine ob_eccl (still S hN hn) ?_; intro G4 g4 V4 S
              exact hQe _ _ _ (g3.trans g4) ⟨_, V4, fun _ => ⟨lv, cv, rfl, VL.up g4, VC.up g4⟩, fun h => absurd ⟨rfl, hk⟩ h⟩ S
            · have hkb : (pt.k == ("character" : Str)) = false := by simpa using hk
              rw [hkb]
              wtm_at "yA"
              exact hQe _ _ _ (Le.rfl) (⟨_, by wtm_at "yU", fun h => absurd h.2 hk, fun _ => rfl⟩) S
        · with_reducible refine ob_eccl hcol ?_; try clear hcol; intro dc VD hg1 hg2
          have hdl : dc.its.length = pt.its.length ∧ tSmall dc.t := by
            by_cases h : gk f pt
            · with_reducible refine ob_eecl (hg1 h) ?_; rintro lv cv rfl _
              exact ⟨by simp [codes], fun kvs e => by cases e; simp⟩
            · rw [hg2 h]; exact ⟨rfl, fun kvs e => by cases e⟩
          wtm_at "yA"
          refine ⟨kept_builtin, b_max O.h S fun t s' S => ?_⟩
          have emx : max (xv.length : Int) 1 = ((max pt.its.length 1 : Nat) : Int) := by rw [lx]; omega
          rw [emx] at *
          wtm_at "yA"
          wtm_at "yap1"
          wtm_at "yrange"
          with_reducible refine comp_vk TI (Nat.le_trans htt (by decide)) (by kernel_rfl!) (ItV.mono (f := fun p => nat (p / stpl (parts.take i) % max pt.its.length 1))) (fun C sD Wc p v' G' ρ' s' it d E' hp hP hG hρ S Qe hQe => ?_) fun D5 G5 s' hD5 hG5 hL5 S => ?_
          · with_reducible refine ob_el hP ?_; try clear hP; rintro ti rfl
            wtm_at "yA"
            with_reducible refine w_fdiv S (by wtm_at "yo") (PyProof.noPylong_small (by wtm_at "yo")) fun t1 s' S => ?_
            rw [div_nat]
            wtm_at "yA"
            with_reducible refine w_mod S (by wtm_at "yo") fun t2 s' S => ?_
            rw [mod_nat]
            wtm_at "yA"
            exact hQe _ _ _ (Le.rfl) (⟨_, rfl⟩) S
          have IP : Its G5 ((plc (totl parts) (stpl (parts.take i)) (max pt.its.length 1)).map nat) D5 := by
            unfold plc
            rw [List.map_map]
            exact hL5.its
          wtm_at "yA"
          with_reducible refine callV S (by wtm_at "yU") (c_pick_items (by wtm_at "yU") (O.mono (by decide)) (by wtm_at "yU") (k := dc.k) (its := dc.its) (t := dc.t) (by wtm_at "yU") (by wtm_at "yo") hdl.2 (ps := plc (totl parts) (stpl (parts.take i)) (max pt.its.length 1)) IP (by rw [hdl.1]; exact plc_lt fun h0 => totl_zero (List.mem_of_getElem? ep) h0) (by rw [plc_len]; omega)) fun r G6 s' g6 S VN => ?_
          have hG5 : Le G3 G5 := by wtm_at "yL"
          generalize hdnew : (⟨dc.k, (plc (totl parts) (stpl (parts.take i)) (max pt.its.length 1)).map (fun p => dc.its.getD p .na), keptA dc.t⟩ : Vd) = dnew at VN
          have hgc : GCol w G6 f (totl parts) (stpl (parts.take i)) pt dnew := by
            refine ⟨fun h => ?_, fun h => ?_⟩
            · with_reducible refine ob_eeccl (hg1 h) ?_; rintro lv cv rfl VL VC
              refine ⟨lv, cv, ?_, (VL.up hG5).up g6, (VC.up hG5).up g6⟩
              rw [← hdnew]
              have e : keptL ([("levels", lv), ("class", cv)] : List (Str × Value)) = ([("levels", lv), ("class", cv)] : List (Str × Value)) := by unfold keptL; kernel_rfl!
              show (⟨_, _, keptA (some _)⟩ : Vd) = _
              rw [keptA_some (by rw [e]; simp), e]; rfl
            · rw [← hdnew, hg2 h]; rfl
          have hdn : ∀ (j : Nat) d pt', (ds ++ [dnew])[j]? = some d → parts[j]? = some pt' → GCol w G6 f (totl parts) (stpl (parts.take j)) pt' d := fun j d pt' a b => by
            by_cases h : j < ds.length
            · rw [List.getElem?_append_left h] at a
              exact ((hds j d pt' a b).up (g3.trans hG5)).up g6
            · rw [List.getElem?_append_right (by omega)] at a
              have e0 : j - ds.length = 0 := by
                cases q : j - ds.length with
                | zero => rfl
                | succ n => rw [q] at a; simp at a
              rw [e0] at a
              have ej : j = i := by wtm_at "yo"
              subst ej
              rw [ep] at b
              cases a; cases b
              exact hgc
          wtm_at "yA"
          wtm_at "yap2"
          wtm_at "yA"
          intro pl
          with_reducible refine meth_list (by wtm_at "yH") PySem.F.slot_list_append (by kernel_rfl!) ?_
          wtm_at "yA"
          have lns2 : ns.length ≤ 100 := (Nat.le_trans (Nat.le_of_eq lns) (Nat.le_trans (Nat.le_of_lt hip) (Nat.le_trans lpa hz)))
          cases ht : pt.tag with
          | none =>
            have hN : (tv == .none) = true := by rw [Tz.isNone, ht]; rfl
            rw [hN]
            wtm_at "yA"
            refine ⟨kept_type, b_str S (by wtm_at "yo") (cast_lt1 lns2 (by decide)) fun tS s' S => ?_⟩
            wtm_at "yA"
            have hvl : (("Var" : Str) ++ ((toString (((ns.length : Nat) : Int) + 1) : String) : Str)).length ≤ sizeLine := by rw [lns]; exact var_len (Nat.le_trans (Nat.le_of_lt hip) kq)
            with_reducible refine w_addstr S hvl fun tV s' S => ?_
            wtm_at "yA"
            wtm_at "yap2"
            wtm_at "yA"
            with_reducible refine w_mul S (IntMulOk.of_left (PySem.intBits_le_64 (neg_lt_cast (by decide)) (cast_lt hst (by decide)))) fun t' s' S => ?_
            have em : ((stpl (parts.take i) : Nat) : Int) * ((max pt.its.length 1 : Nat) : Int) = ((stpl (parts.take (i + 1)) : Nat) : Int) := by rw [ssu]; simp
            rw [em]
            wtm_at "yA"
            refine Cont.go hQb rfl ((g3.trans hG5).trans g6) (⟨⟨_, _, _, _, ds ++ [dnew], rfl, (AD.up ((g3.trans hG5).trans g6)).snoc VN, by simp [lds], hdn, by rw [mapIdx_succ ep]; exact (AN.up ((g3.trans hG5).trans g6)).snoc (by unfold headOf; rw [ht, ← lns]; exact ⟨_, rfl⟩)⟩, by wtm_at "yinv", by wtm_at "yinv", ⟨_, by wtm_at "yrd"⟩, by wtm_at "yinv", by wtm_at "yinv"⟩) S
          | some x =>
            have hN : (tv == .none) = false := by rw [Tz.isNone, ht]; rfl
            rw [hN]
            wtm_at "yA"
            refine eq_tag Tz ?_
            rw [ht]
            by_cases hx : x = ""
            · have hxb : (some x == some ("" : Str)) = true := by simpa using hx
              rw [hxb]
              wtm_at "yA"
              refine ⟨kept_type, b_str S (by wtm_at "yo") (cast_lt1 lns2 (by decide)) fun tS s' S => ?_⟩
              wtm_at "yA"
              have hvl : (("Var" : Str) ++ ((toString (((ns.length : Nat) : Int) + 1) : String) : Str)).length ≤ sizeLine := by rw [lns]; exact var_len (Nat.le_trans (Nat.le_of_lt hip) kq)
              with_reducible refine w_addstr S hvl fun tV s' S => ?_
              wtm_at "yA"
              wtm_at "yap2"
              wtm_at "yA"
              with_reducible refine w_mul S (IntMulOk.of_left (PySem.intBits_le_64 (neg_lt_cast (by decide)) (cast_lt hst (by decide)))) fun t' s' S => ?_
              have em : ((stpl (parts.take i) : Nat) : Int) * ((max pt.its.length 1 : Nat) : Int) = ((stpl (parts.take (i + 1)) : Nat) : Int) := by rw [ssu]; simp
              rw [em]
              wtm_at "yA"
              refine Cont.go hQb rfl ((g3.trans hG5).trans g6) (⟨⟨_, _, _, _, ds ++ [dnew], rfl, (AD.up ((g3.trans hG5).trans g6)).snoc VN, by simp [lds], hdn, by rw [mapIdx_succ ep]; exact (AN.up ((g3.trans hG5).trans g6)).snoc (by unfold headOf; rw [ht, ← lns]; dsimp only; rw [if_pos (by simpa using hx)]; exact ⟨_, rfl⟩)⟩, by wtm_at "yinv", by wtm_at "yinv", ⟨_, by wtm_at "yrd"⟩, by wtm_at "yinv", by wtm_at "yinv"⟩) S
            · have hxb : (some x == some ("" : Str)) = false := by simpa using hx
              rw [hxb]
              wtm_at "yA"
              wtm_at "yap2"
              wtm_at "yA"
              with_reducible refine w_mul S (IntMulOk.of_left (PySem.intBits_le_64 (neg_lt_cast (by decide)) (cast_lt hst (by decide)))) fun t' s' S => ?_
              have em : ((stpl (parts.take i) : Nat) : Int) * ((max pt.its.length 1 : Nat) : Int) = ((stpl (parts.take (i + 1)) : Nat) : Int) := by rw [ssu]; simp
              rw [em]
              wtm_at "yA"
              refine Cont.go hQb rfl ((g3.trans hG5).trans g6) (⟨⟨_, _, _, _, ds ++ [dnew], rfl, (AD.up ((g3.trans hG5).trans g6)).snoc VN, by simp [lds], hdn, by rw [mapIdx_succ ep]; exact (AN.up ((g3.trans hG5).trans g6)).snoc (by unfold headOf; rw [ht]; dsimp only; rw [if_neg (by simpa using hx)]; rw [ht] at Tz; exact Tz)⟩, by wtm_at "yinv", by wtm_at "yinv", ⟨_, by wtm_at "yrd"⟩, by wtm_at "yinv", by wtm_at "yinv"⟩) S
      · with_reducible refine ob_cccccl hI ?_; try clear hI; rintro ⟨ns, m1, cs, m2, ds, rfl, AD, lds, hds, AN⟩ r1 r2 ⟨ts, r3⟩ ⟨tt2, r4⟩ r5
        rw [lz, List.take_length] at AN
        have fr := fresh0 hW0 S
        with_reducible refine ob_eccl (freezeAll (es := [(lnm, lst ns m1), (lc, lst cs m2)]) (Rs := []) S fr) ?_; intro G3 h3 e3 S
        have e31 := e3 (lnm, lst ns m1) (by simp)
        have e32 := e3 (lc, lst cs m2) (by simp)
        dsimp only at e31 e32
        have htt : totl parts ≤ 1000 := by have := K.t parts.length; rwa [List.take_length] at this
        have hcol : ∀ d ∈ ds, d.its.length = totl parts ∧ tSmall d.t ∧ NoNm d ∧ keptV d = d := fun d hd => by
          with_reducible refine ob_el (List.mem_iff_getElem?.mp hd) ?_; intro j hj
          have hjl : j < parts.length := by have := (List.getElem?_eq_some_iff.mp hj).1; omega
          exact (hds j d parts[j] hj (by simp [hjl])).col (K.ok _ (List.getElem_mem hjl)).1
        have ek : ds.map keptV = ds := by
          conv => rhs; rw [← List.map_id ds]
          exact List.map_congr_left fun d hd => (hcol d hd).2.2.2
        wtm_at "yA"
        refine St.call (W := []) S (by wtm_at "yU") (c_make_frame (cols := ds) (rd := ⟨"integer", rowsOf (totl parts), none⟩) (by wtm_at "yU") (O.mono (by decide)) (by wtm_at "yU") ⟨cs, m2, e32, AD.up h3⟩ (R := totl parts) (fun d hd => ⟨(hcol d hd).1, (hcol d hd).2.1, (hcol d hd).2.2.1⟩) (by intro e; rw [e] at lds; simp at lds; have := K.p; omega) (Nat.le_trans (Nat.le_trans (Nat.le_of_eq lds) (Nat.le_trans (Nat.le_of_eq lz) kq)) (by decide)) (Nat.le_trans htt (by decide)) (names := parts.mapIdx headOf) ⟨ns, m1, e31, AN.up h3⟩ (by simp; omega) (.inl ⟨rfl, rfl⟩)) fun r G4 W4 s' h4 S hF hn => ?_
        rw [ek] at hF
        wtm_at "yA"
        exact S.out (by rw [List.append_nil]; exact .refl _) ⟨ds, hF, (lds.trans lz), fun j d pt a b => (hds j d pt a b).up (h3.trans h4)⟩))
end
end -- P21
section -- Q1
/-! the plain law of the grid: no program here -/
theorem flat_at {l : List It} {rows : List (List It)} : ∀ {p : Nat}, p < l.length * rows.length → (l.flatMap fun it => rows.map fun r => r ++ [it])[p]? = rows[p % rows.length]?.map fun r => r ++ [l.getD (p / rows.length) .na] := by
  induction l with
  | nil => intro p h; simp at h
  | cons a l ih =>
    intro p h
    rw [List.flatMap_cons]
    by_cases hp : p < rows.length
    · rw [List.getElem?_append_left (by simpa using hp), Nat.mod_eq_of_lt hp, Nat.div_eq_of_lt hp, List.getElem?_map]
      rfl
    · rw [List.getElem?_append_right (by simpa using hp), List.length_map]
      have h0 : 0 < rows.length := by
        rcases Nat.eq_zero_or_pos rows.length with e | e
        · rw [e, Nat.mul_zero] at h; omega
        · exact e
      have hp' : rows.length ≤ p := by omega
      rw [List.length_cons, Nat.succ_mul] at h
      rw [ih (by omega), ← Nat.mod_eq_sub_mod hp', Nat.div_eq_sub_div h0 hp', List.getD_cons_succ]
noncomputable def chs (ps : List Pt) : List (List It) := ps.map (·.its)
theorem chs_take {ps : List Pt} {i : Nat} : (chs ps).take i = chs (ps.take i) := (List.map_take).symm
theorem chs_at {ps : List Pt} {i : Nat} {p : Pt} (h : ps[i]? = some p) : (chs ps)[i]? = some p.its := by unfold chs; rw [List.getElem?_map, h]; rfl
theorem rows_len {ps : List Pt} : ∀ {i : Nat}, i ≤ ps.length → (rowsP ((chs ps).take i)).length = totl (ps.take i)
  | 0, _ => rfl
  | i + 1, h => by
    have e : ps[i]? = some ps[i] := by simp
    rw [rowsP_succ (chs_at e), flat_len, totl_succ e, rows_len (by omega), Nat.mul_comm]
theorem rows_len' {ps : List Pt} : (rowsP (chs ps)).length = totl ps := by
  have := rows_len (ps := ps) (Nat.le_refl _)
  rwa [List.take_of_length_le (by simp [chs]), List.take_length] at this
theorem stp_tot {ps : List Pt} (hne : ∀ pt ∈ ps, pt.its.length ≠ 0) : ∀ {i : Nat}, i ≤ ps.length → stpl (ps.take i) = totl (ps.take i)
  | 0, _ => rfl
  | i + 1, h => by
    have e : ps[i]? = some ps[i] := by simp
    have := hne _ (List.mem_of_getElem? e)
    rw [stpl_succ e, totl_succ e, stp_tot hne (by omega)]
    congr 1
    omega
theorem tot_div {ps : List Pt} {j : Nat} {pt : Pt} (hj : ps[j]? = some pt) : ∀ {i : Nat}, j < i → i ≤ ps.length → ∃ m, totl (ps.take i) = totl (ps.take j) * (pt.its.length * m)
  | 0, h, _ => by omega
  | i + 1, h, h' => by
    by_cases e : j = i
    · subst e
      exact ⟨1, by rw [totl_succ hj, Nat.mul_one]⟩
    · refine ob_el (tot_div hj (i := i) (by omega) (by omega)) ?_; intro m hm
      have e2 : ps[i]? = some ps[i] := by simp
      exact ⟨m * ps[i].its.length, by rw [totl_succ e2, hm]; simp only [Nat.mul_assoc]⟩
theorem rows_at {ps : List Pt} (hne : ∀ pt ∈ ps, pt.its.length ≠ 0) : ∀ {i : Nat}, i ≤ ps.length → ∀ (p : Nat) r, (rowsP ((chs ps).take i))[p]? = some r → ∀ (j : Nat) pt, j < i → ps[j]? = some pt →
      r.getD j .na = pt.its.getD (p / totl (ps.take j) % pt.its.length) .na
  | 0, _, _, _, _, j, _, h, _ => by omega
  | i + 1, hi, p, r, hr, j, pt, hj, hpt => by
    have e : ps[i]? = some ps[i] := by simp
    have hl := rows_len (ps := ps) (i := i) (by omega)
    rw [rowsP_succ (chs_at e)] at hr
    have hp : p < ps[i].its.length * (rowsP ((chs ps).take i)).length := by
      have := (List.getElem?_eq_some_iff.mp hr).1
      rwa [flat_len] at this
    rw [flat_at hp] at hr
    refine ob_ecl (Option.map_eq_some_iff.mp hr) ?_; rintro r0 h0 rfl
    have lr := rowsP_len r0 (List.mem_of_getElem? h0)
    have li : ((chs ps).take i).length = i := by simp [chs]; omega
    rw [li] at lr
    rw [hl] at h0 hp ⊢
    by_cases q : j = i
    · subst q
      rw [hpt] at e
      cases e
      rw [List.getD_eq_getElem?_getD, List.getElem?_append_right (by omega), lr, Nat.sub_self]
      have : p / totl (ps.take j) < ps[j].its.length := Nat.div_lt_of_lt_mul (by rw [Nat.mul_comm]; exact hp)
      rw [Nat.mod_eq_of_lt this]
      rfl
    · have ih := rows_at hne (i := i) (by omega) _ r0 h0 j pt (by omega) hpt
      rw [List.getD_eq_getElem?_getD, List.getElem?_append_left (by omega), ← List.getD_eq_getElem?_getD, ih]
      refine ob_el (tot_div hpt (i := i) (by omega) (by omega)) ?_; intro m hm
      rw [hm, Nat.mod_mul_right_div_self, Nat.mod_mul_right_mod]
theorem rows_col {ps : List Pt} {j : Nat} {pt : Pt} (h : ps[j]? = some pt) : (rowsP (chs ps)).map (fun r => r.getD j .na) = pickI pt.its (plc (totl ps) (stpl (ps.take j)) (max pt.its.length 1)) := by
  by_cases hz : ∃ q ∈ ps, q.its.length = 0
  · refine ob_ecl hz ?_; try clear hz; intro q hq h0
    have ht := totl_zero hq h0
    have hl := rows_len' (ps := ps)
    rw [ht] at hl ⊢
    rw [List.length_eq_zero_iff.mp hl]
    rfl
  · have hne : ∀ pt ∈ ps, pt.its.length ≠ 0 := fun q hq h0 => hz ⟨q, hq, h0⟩
    have hjl := (List.getElem?_eq_some_iff.mp h).1
    have hn := hne _ (List.mem_of_getElem? h)
    have hm : max pt.its.length 1 = pt.its.length := by omega
    rw [hm, stp_tot hne (by omega)]
    apply List.ext_getElem?
    intro p
    unfold pickI plc
    rw [List.getElem?_map, List.getElem?_map, List.getElem?_map]
    by_cases hp : p < totl ps
    · rw [List.getElem?_range hp]
      have hp' : p < (rowsP (chs ps)).length := by rw [rows_len']; exact hp
      have e := List.getElem?_eq_getElem hp'
      rw [e]
      have e2 : (chs ps).take ps.length = chs ps := List.take_of_length_le (by simp [chs])
      have := rows_at hne (i := ps.length) (Nat.le_refl _) p _ (by rw [e2]; exact e) j pt hjl h
      simp only [Option.map_some]
      rw [this]
    · rw [List.getElem?_eq_none (by rw [rows_len']; omega), List.getElem?_eq_none (by simp; omega)]
      rfl
/-- what the law has seen of a vector's texts -/
noncomputable def seenP (its : List It) (i : Nat) : List It := ((List.range i).filter fun p => firstAt its p == p && !(its.getD p .na == .na)).map fun p => its.getD p .na
theorem levs_seen {its : List It} : levs its = seenP its its.length := by
  unfold levs full uniq seenP
  rw [List.filter_filter]
  congr 2
  funext p
  exact Bool.and_comm _ _
theorem seen_in {its : List It} {i : Nat} (hi : i < its.length) (hn : its.getD i .na ≠ .na) : its.getD i .na ∈ seenP its i ↔ firstAt its i ≠ i := by
  refine ob_cl (idx_at hi) ?_; intro h1 h2
  have le : firstAt its i ≤ i := by
    unfold firstAt
    have hx : its.getD i .na = its[i] := by rw [List.getD_eq_getElem?_getD, List.getElem?_eq_getElem hi]; rfl
    rw [hx]
    exact Nat.le_of_not_lt fun q => by
      have := List.not_of_lt_findIdx (p := (· == its[i])) q
      simp at this
  constructor
  · intro h e
    refine ob_ecl (List.mem_map.mp h) ?_; intro p hp e2
    have hp := (List.mem_filter.mp hp)
    have hpi : p < i := by simpa using hp.1
    have h3 : firstAt its p = p := by have := hp.2; simp at this; exact this.1
    unfold firstAt at h3 e
    rw [e2, e] at h3
    omega
  · intro h
    refine List.mem_map.mpr ⟨firstAt its i, List.mem_filter.mpr ⟨by simp; omega, ?_⟩, h1⟩
    have h3 : firstAt its (firstAt its i) = firstAt its i := by
      show its.idxOf (its.getD (firstAt its i) .na) = _
      rw [h1]; rfl
    rw [h3, h1]
    simpa using hn
theorem seen_step {its : List It} {i : Nat} (hi : i < its.length) : seenP its (i + 1) = if its.getD i .na ≠ .na ∧ its.getD i .na ∉ seenP its i then seenP its i ++ [its.getD i .na] else seenP its i := by
  have e : seenP its (i + 1) = seenP its i ++ (if (firstAt its i == i && !(its.getD i .na == .na)) = true then [its.getD i .na] else []) := by
    unfold seenP
    rw [List.range_succ, List.filter_append, List.map_append]
    congr 1
    by_cases q : (firstAt its i == i && !(its.getD i .na == .na)) = true
    · rw [if_pos q, List.filter_cons, if_pos q]; rfl
    · rw [if_neg q, List.filter_cons, if_neg q]; rfl
  rw [e]
  by_cases hn : its.getD i .na = .na
  · rw [if_neg (by rw [hn]; simp), if_neg (fun q => q.1 hn), List.append_nil]
  · have := seen_in hi hn
    by_cases hf : firstAt its i = i
    · rw [if_pos (by rw [hf]; simpa using hn), if_pos ⟨hn, fun q => this.mp q hf⟩]
    · rw [if_neg (by simp [hf]), if_neg (fun q => q.2 (this.mpr hf)), List.append_nil]
theorem seen_txts {its : List It} {i : Nat} (hi : i ≤ its.length) (ht : ∀ it ∈ its, TxtOk it) : txts (seenP its i) := by
  intro it h
  refine ob_ecl (List.mem_map.mp h) ?_; rintro p hp rfl
  refine ob_cl (List.mem_filter.mp hp) ?_; intro h1 h2
  have hp : p < its.length := by have : p < i := by simpa using h1
                                 omega
  rcases ht _ (getD_mem hp) with e | ⟨x, e, _⟩
  · rw [e] at h2; simp at h2
  · exact ⟨x, e⟩
theorem seen_len {its : List It} {i : Nat} : (seenP its i).length ≤ i := by
  unfold seenP
  rw [List.length_map]
  exact Nat.le_trans (List.length_filter_le ..) (by simp)
theorem levs_mem {its : List It} {p : Nat} (hp : p < its.length) (hn : its.getD p .na ≠ .na) : its.getD p .na ∈ levs its := by
  unfold levs
  exact List.mem_map.mpr ⟨firstAt its p, full_mem hp hn, (idx_at hp).1⟩
theorem code_at {its : List It} {p : Nat} (hp : p < its.length) : (its.getD p .na = .na ∧ (codes its).getD p .na = .na) ∨ (∃ c : Nat, (codes its).getD p .na = .int ((c : Int) + 1) ∧ c < (levs its).length ∧ (levs its).getD c .na = its.getD p .na) := by
  have e : its.getD p .na = its[p] := by rw [List.getD_eq_getElem?_getD, List.getElem?_eq_getElem hp]; rfl
  have ec : (codes its).getD p .na = if its[p] = .na then .na else .int ((levs its).idxOf its[p] + 1) := by
    unfold codes
    rw [List.getD_eq_getElem?_getD, List.getElem?_map, List.getElem?_eq_getElem hp]; rfl
  by_cases hn : its[p] = .na
  · exact .inl ⟨by rw [e, hn], by rw [ec, if_pos hn]⟩
  · have hm := levs_mem hp (by rw [e]; exact hn)
    rw [e] at hm
    have hlt := List.idxOf_lt_length_iff.mpr hm
    refine .inr ⟨(levs its).idxOf its[p], by rw [ec, if_neg hn], hlt, ?_⟩
    rw [List.getD_eq_getElem?_getD, List.getElem?_eq_getElem hlt, e]
    simp
theorem codes_ok {its : List It} {ps : List Nat} (hps : ∀ p ∈ ps, p < its.length) : ∀ it ∈ pickI (codes its) ps, it = .na ∨ ∃ c : Nat, it = .int ((c : Int) + 1) ∧ c < (levs its).length := by
  intro it h
  refine ob_ecl (List.mem_map.mp h) ?_; rintro p hp rfl
  rcases code_at (hps p hp) with ⟨_, e⟩ | ⟨c, e, h, _⟩
  · exact .inl e
  · exact .inr ⟨c, e, h⟩
theorem codes_deco {its : List It} {ps : List Nat} (hps : ∀ p ∈ ps, p < its.length) : (pickI (codes its) ps).map (deco (levs its)) = pickI its ps := by
  unfold pickI
  rw [List.map_map]
  refine List.map_congr_left fun p hp => ?_
  show deco (levs its) ((codes its).getD p .na) = its.getD p .na
  rcases code_at (hps p hp) with ⟨e1, e2⟩ | ⟨c, e, h, e3⟩
  · rw [e1, e2]; rfl
  · rw [e]
    unfold deco
    dsimp only
    have : ((c : Int) + 1 - 1).toNat = c := by omega
    rw [this, e3]
end -- Q1
section -- Q2
/-! the grid's parts: a tag and a vector each -/
noncomputable def ptsOf (tgs : List (Option Str)) (ds : List Vd) : List Pt := List.zipWith (fun o d => ⟨o, d.k, d.its⟩) tgs ds
theorem pts_at {tgs : List (Option Str)} {ds : List Vd} {i : Nat} {o : Option Str} {d : Vd} (h1 : tgs[i]? = some o) (h2 : ds[i]? = some d) : (ptsOf tgs ds)[i]? = some ⟨o, d.k, d.its⟩ := by
  unfold ptsOf
  rw [List.getElem?_zipWith, h1, h2]
theorem pts_len {tgs : List (Option Str)} {ds : List Vd} {n : Nat} (h1 : tgs.length = n) (h2 : ds.length = n) : (ptsOf tgs ds).length = n := by
  unfold ptsOf
  rw [List.length_zipWith, h1, h2, Nat.min_self]
theorem pts_mem {tgs : List (Option Str)} {ds : List Vd} {pt : Pt} (h : pt ∈ ptsOf tgs ds) : ∃ o d, o ∈ tgs ∧ d ∈ ds ∧ pt = ⟨o, d.k, d.its⟩ := by
  refine ob_el (List.mem_iff_getElem?.mp h) ?_; intro i hi
  unfold ptsOf at hi
  rw [List.getElem?_zipWith] at hi
  split at hi
  · rename_i o d h1 h2
    exact ⟨o, d, List.mem_of_getElem? h1, List.mem_of_getElem? h2, (Option.some.inj hi).symm⟩
  · cases hi
theorem fold_le {f : Pt → Nat} : ∀ (l : List Pt) (t : Nat), (∀ p ∈ l, f p ≤ 4) → l.foldl (fun t p => t * f p) t ≤ t * 4 ^ l.length
  | [], t, _ => by simp
  | a :: l, t, h => by
    rw [List.foldl_cons, List.length_cons, Nat.pow_succ]
    refine Nat.le_trans (fold_le l _ fun p hp => h p (by simp [hp])) ?_
    have := Nat.mul_le_mul_left t (h a (by simp))
    have := Nat.mul_le_mul_right (4 ^ l.length) this
    rw [Nat.mul_comm (4 ^ l.length) 4, ← Nat.mul_assoc]
    exact this
theorem pow_le {n : Nat} (h : n ≤ 3) : 4 ^ n ≤ 64 := by
  revert n
  decide
noncomputable def tagOk (o : Option Str) : Prop := ∀ x, o = some x → (x == "stringsAsFactors") = false ∧ (x == "KEEP.OUT.ATTRS") = false
theorem ptok_of {o : Option Str} {d : Vd} {n : Nat} (ho : tagOk o) (L : LVec d n) : PtOk ⟨o, d.k, d.its⟩ := by
  refine ob_cccl L ?_; try clear L; intro hk hl hi ht
  refine ⟨ho, hk.ok.1, hk.ok.2, fun e it hit => ?_⟩
  dsimp only at e hit
  rcases hi it hit with h | ⟨h, _⟩ | ⟨h, _⟩ | ⟨h, _⟩ | ⟨_, x, hx, hxl⟩
  · exact .inl h
  · rw [e] at h; exact absurd h (by decide +kernel)
  · rw [e] at h; exact absurd h (by decide +kernel)
  · rw [e] at h; exact absurd h (by decide +kernel)
  · exact .inr ⟨x, hx, by omega⟩
theorem gok_of {tgs : List (Option Str)} {ds : List Vd} {n : Nat} (h1 : tgs.length = n) (h2 : ds.length = n) (h0 : 0 < n) (h3 : n ≤ 3) (ht : ∀ o ∈ tgs, tagOk o) (hd : ∀ d ∈ ds, ∃ m, m ≤ 4 ∧ LVec d m) : GOk (ptsOf tgs ds) := by
  have hl := pts_len h1 h2
  have key : ∀ pt ∈ ptsOf tgs ds, PtOk pt ∧ pt.its.length ≤ 4 := fun pt h => by
    refine ob_eeccl (pts_mem h) ?_; rintro o d ho hd' rfl
    refine ob_ecl (hd d hd') ?_; intro m hm L
    exact ⟨ptok_of (ht o ho) L, by have := L.2.1; dsimp only; omega⟩
  have hp : ∀ i, 4 ^ ((ptsOf tgs ds).take i).length ≤ 64 := fun i => pow_le (by rw [List.length_take]; omega)
  refine ⟨fun pt h => ⟨(key pt h).1, by have := (key pt h).2; omega⟩, fun i => ?_, fun i => ?_, by omega, by omega⟩
  · have := fold_le (f := fun p => p.its.length) ((ptsOf tgs ds).take i) 1 fun p hp => (key p (List.mem_of_mem_take hp)).2
    have := hp i
    unfold totl
    omega
  · have := fold_le (f := fun p => max p.its.length 1) ((ptsOf tgs ds).take i) 1 fun p hp => by have := (key p (List.mem_of_mem_take hp)).2; omega
    have := hp i
    unfold stpl
    omega
theorem pts_small {tgs : List (Option Str)} {ds : List Vd} (hd : ∀ d ∈ ds, ∃ m, m ≤ 4 ∧ LVec d m) : ∀ c ∈ chs (ptsOf tgs ds), c.length ≤ 100 := fun c hc => by
  refine ob_ecl (List.mem_map.mp hc) ?_; rintro pt h rfl
  refine ob_eeccl (pts_mem h) ?_; rintro o d ho hd' rfl
  refine ob_ecl (hd d hd') ?_; intro m hm L
  have := L.2.1
  dsimp only; omega
theorem tag_t : ∀ i : Nat, i < 3 → tagOk (some (("t" : Str) ++ ((toString (i : Int) : String) : Str)))
  | 0, _, x, e => by cases e; decide +kernel
  | 1, _, x, e => by cases e; decide +kernel
  | 2, _, x, e => by cases e; decide +kernel
theorem tag_e : tagOk (some ("" : Str)) := fun x e => by cases e; decide +kernel
theorem tag_n : tagOk none := fun x e => by cases e
theorem filt_some {ps : List Pt} : (ps.map some).filterMap id = ps := by
  induction ps with
  | nil => rfl
  | cons a l ih => rw [List.map_cons, List.filterMap_cons]; simp [ih]
theorem filt_ins {ps : List Pt} {q : Nat} : ((ps.map some).take q ++ none :: (ps.map some).drop q).filterMap id = ps := by
  rw [List.filterMap_append, List.filterMap_cons]
  show _ ++ ((ps.map some).drop q).filterMap id = _
  rw [← List.filterMap_append, List.take_append_drop, filt_some]
end -- Q2
section -- P30a
open PySem.Calls PySem.Spec
noncomputable def forBody : Stmt → List Stmt
  | .For _ _ body _ _ => body
  | _ => []
section
variable {w : World} {A : Around} {s : Shared} {G : Heap} {a : Addr}
theorem size_get {t1 t2 t3 t4 t5 : Tok} {dr : Int} (h0 : 0 ≤ dr) (h1 : dr < 5) :
    ∃ (n : Nat) (t : Tok), ([.int 2 t1, .int 3 t2, .int 1 t3, .int 4 t4, .int 0 t5] : List Value)[dr.toNat]? = some (.int (n : Nat) t) ∧ n ≤ 4 := unus (by exact trivial : Us (by
  have hd : dr = 0 ∨ dr = 1 ∨ dr = 2 ∨ dr = 3 ∨ dr = 4 := d5 h0 h1
  rcases hd with rfl | rfl | rfl | rfl | rfl
  · exact ⟨2, _, rfl, by decide⟩
  · exact ⟨3, _, rfl, by decide⟩
  · exact ⟨1, _, rfl, by decide⟩
  · exact ⟨4, _, rfl, by decide⟩
  · exact ⟨0, _, rfl, by decide⟩))
theorem tag_get {x : Str} {t1 t2 : Tok} {dr : Int} (hx : tagOk (some x)) (h0 : 0 ≤ dr) (h1 : dr < 3) :
    ∃ o v, ([.none, .str x t1, .str "" t2] : List Value)[dr.toNat]? = some v ∧ TagV o v ∧ tagOk o := unus (by exact trivial : Us (by
  have hd : dr = 0 ∨ dr = 1 ∨ dr = 2 := d3 h0 h1
  rcases hd with rfl | rfl | rfl
  · exact ⟨none, _, rfl, rfl, tag_n⟩
  · exact ⟨some x, _, rfl, ⟨_, rfl⟩, hx⟩
  · exact ⟨some "", _, rfl, ⟨_, rfl⟩, tag_e⟩))
/-- tags, as a list's items -/
noncomputable def Tags (tgs : List (Option Str)) (ys : List Value) : Prop := ys.length = tgs.length ∧ ∀ (i : Nat) o v, tgs[i]? = some o → ys[i]? = some v → TagV o v
theorem Tags.nil : Tags [] [] := ⟨rfl, fun i o v a => by simp at a⟩
theorem Tags.snoc {ds : List (Option Str)} {vs : List Value} {d : Option Str} {v : Value} (x : Tags ds vs) (y : TagV d v) : Tags (ds ++ [d]) (vs ++ [v]) := unus (by exact trivial : Us (by
  refine ⟨by simp [x.1], fun i d' v' a b => ?_⟩
  by_cases h : i < ds.length
  · rw [List.getElem?_append_left h] at a
    rw [List.getElem?_append_left (by rw [x.1]; exact h)] at b
    exact x.2 i d' v' a b
  · rw [List.getElem?_append_right (by omega)] at a
    rw [List.getElem?_append_right (by rw [x.1]; omega), x.1] at b
    have e : i - ds.length = 0 := by
      cases q : i - ds.length with
      | zero => rfl
      | succ n => rw [q] at a; simp at a
    rw [e] at a b
    simp at a b
    subst a b
    exact y))
theorem ArgG.up {w : World} {G H : Heap} {o : Option Pt} {p : Value} (x : ArgG w G o p) (g : Le G H) : ArgG w H o p := by
  cases o with
  | some pt => exact ArgP.up x g
  | none => (refine ob_eeeccl x ?_; try clear x; intro q t vv a b c); exact ⟨q, t, vv, a, g _ _ b, c.up g⟩
/-- the arguments of expand.grid -/
noncomputable def AllG (w : World) (G : Heap) (as : List (Option Pt)) (xs : List Value) : Prop := xs.length = as.length ∧ ∀ (i : Nat) o p, as[i]? = some o → xs[i]? = some p → ArgG w G o p
theorem AllG.up {w : World} {G H : Heap} {as : List (Option Pt)} {xs : List Value} (x : AllG w G as xs) (g : Le G H) : AllG w H as xs := ⟨x.1, fun i o p a b => (x.2 i o p a b).up g⟩
theorem AllG.cons {w : World} {G : Heap} {as : List (Option Pt)} {xs : List Value} {o : Option Pt} {p : Value} (y : ArgG w G o p) (x : AllG w G as xs) : AllG w G (o :: as) (p :: xs) := by
  refine ⟨by simp [x.1], fun i o' p' a b => ?_⟩
  cases i with
  | zero => simp at a b; subst a b; exact y
  | succ i => simp at a b; exact x.2 i o' p' a b
theorem AllG.ins {w : World} {G : Heap} {o : Option Pt} {p : Value} (y : ArgG w G o p) : ∀ {q : Nat} {as : List (Option Pt)} {xs : List Value}, AllG w G as xs → AllG w G (as.take q ++ o :: as.drop q) (xs.take q ++ p :: xs.drop q)
  | 0, _, _, x => AllG.cons y x
  | q + 1, [], [], x => AllG.cons y x
  | q + 1, [], _ :: _, x => by have := x.1; simp at this
  | q + 1, _ :: _, [], x => by have := x.1; simp at this
  | q + 1, a :: as, b :: xs, x => by
    rw [List.take_succ_cons, List.take_succ_cons, List.drop_succ_cons, List.drop_succ_cons, List.cons_append, List.cons_append]
    exact AllG.cons (x.2 0 a b rfl rfl) (AllG.ins y ⟨by have := x.1; simpa using this, fun i o p e1 e2 => x.2 (i + 1) o p (by simpa using e1) (by simpa using e2)⟩)
theorem AllP.g {w : World} {G : Heap} {ps : List Pt} {xs : List Value} (x : AllP w G ps xs) : AllG w G (ps.map some) xs := by
  refine ⟨by simp [x.1], fun i o p a b => ?_⟩
  rw [List.getElem?_map] at a
  refine ob_ecl (Option.map_eq_some_iff.mp a) ?_; rintro pt h rfl
  exact x.2 i pt p h b
theorem pts_back {tgs : List (Option Str)} {ds : List Vd} {j : Nat} {pt : Pt} (h : (ptsOf tgs ds)[j]? = some pt) : ∃ o d, tgs[j]? = some o ∧ ds[j]? = some d ∧ pt = ⟨o, d.k, d.its⟩ := unus (by exact trivial : Us (by
  unfold ptsOf at h
  rw [List.getElem?_zipWith] at h
  split at h
  · rename_i o d h1 h2
    exact ⟨o, d, h1, h2, (Option.some.inj h).symm⟩
  · cases h))
theorem d_flag {a : Addr} (P : PG w G) (O : Ok A 5) (X : FnAt G a (stm 45)) : Run w A s G [] a [.bool false] fun G' W' v => NVV w G' W' v ⟨"logical", [.int 0], none⟩ :=
  run_mono (c_flag P O X) fun G' W' v _ ⟨l', c, t, N, h⟩ => NVV.of N h (AllV.cons ⟨t, rfl⟩ .nil)
theorem rows_ints {G : Heap} {xs : List Value} {n : Nat} (h : IntsFrom 1 xs n) : AllV G (rowsOf n) xs := unus (by exact trivial : Us (by
  refine ⟨by rw [h.1]; simp [rowsOf], fun i it v e1 e2 => ?_⟩
  refine ob_el (h.2 i v e2) ?_; rintro t rfl
  unfold rowsOf at e1
  rw [List.getElem?_map] at e1
  refine ob_ecl (Option.map_eq_some_iff.mp e1) ?_; rintro j e3 rfl
  have : j = i := by
    obtain ⟨h, q⟩ := List.getElem?_eq_some_iff.mp e3
    simpa using q.symm
  subst this
  exact ⟨t, by rw [Int.add_comm]⟩))
end
section
variable {w : World} {A : Around} {E : Value → Shared → Prop} {s0 s : Shared} {G0 G : Heap} {W0 : List Addr} {ρ : Str → Option Value}
/-- one column of the grid: the law's loop, a turn of it -/
theorem grid_step (P : PG w G0) (O : Ok A 3) {fp : FP} {it : Addr × Obj} {W : List (Addr × Obj)} (S : St s0 G0 W0 G (it :: W) (fenv (stm 137) fp) ρ s)
    {grid : Value} {lr D5 lI da : Addr} {pl : Bool} {i : Nat} {ti : Tok} (r0 : ρ "step" = some (.int (i : Nat) ti)) (r1 : ρ "grid" = some grid) (r2 : ρ "rows" = some (.ref lr)) (r3 : ρ "vectors" = some (.ref D5)) (r4 : ρ "law_plain" = some (.bool pl))
    (FG : FV G grid "list" lI (.ref da)) {gcv ys vs : List Value} {nI nn nv : Nat} (hlI : G.get? lI = some (lst gcv nI)) (hys : G.get? D5 = some (lst ys nn)) (hvs : G.get? lr = some (lst vs nv)) {R : List (List It)} (RV : RowVs G R vs) (hR : R.length ≤ 1000)
    {gv ov : Value} (hx1 : gcv[((i : Int)).toNat]? = some gv) (hx2 : ys[((i : Int)).toNat]? = some ov) (hi3 : i < 10) {k : Str} {its : List It} (VO : VV w G ov ⟨k, its, none⟩) (hk : KLaw k) (lits : its.length ≤ 4) (hit : k = "character" → ∀ it ∈ its, TxtOk it)
    {ps : List Nat} (hps : ∀ p ∈ ps, p < its.length) (hlen : R.length = ps.length) {cd : Vd} (VM : VV w G gv cd)
    (GC1 : pl = false → k = "character" → ∃ lv cv, cd = ⟨"integer", pickI (codes its) ps, some ([("levels", lv), ("class", cv)] : List (Str × Value))⟩ ∧ VV w G lv ⟨"character", levs its, none⟩ ∧ VV w G cv ⟨"character", [.txt "factor"], none⟩)
    (GC2 : ¬ (pl = false ∧ k = "character") → cd = ⟨k, pickI its ps, none⟩) (hrow : ∀ (j : Nat) r, R[j]? = some r → i < r.length ∧ r.getD i .na = (pickI its ps).getD j .na) :
    wpAny (model pw w) A (execs (forBody (nthS (bdyOf (stm 137)) 11)) (fenv (stm 137) fp)) (fun f s' => f = .next ∧ ∃ G' ρ', Le G G' ∧ ρ' "grid" = some grid ∧ ρ' "rows" = some (.ref lr) ∧ ρ' "vectors" = some (.ref D5) ∧ ρ' "law_plain" = some (.bool pl) ∧ St s0 G0 W0 G' (it :: W) (fenv (stm 137) fp) ρ' s') E s := unus (by exact trivial : Us (by
  have h0 := S.z.g0
  with_reducible refine ob_ecl (P.at "_law_texts_of" 135 (by kernel_rfl!)) ?_; intro a6 g6 X6
  have hu := O.u
  have lvs := RV.1
  with_reducible refine ob_eeeeccccl VO.open ?_; intro lo ao xo no FO hlo AO TO lxo
  have lpi : (pickI its ps).length = ps.length := by unfold pickI; simp
  conv => arg 3; arg 1; whnf
  by_cases hg : pl = false ∧ k = "character"
  · with_reducible refine ob_cl hg ?_; try clear hg; rintro epl rfl
    with_reducible refine ob_eeccl (GC1 epl rfl) ?_; rintro lv cv' rfl VL VK
    rw [epl] at r4
    with_reducible refine ob_eeeeccccl VM.open ?_; intro lg1 ag1 xg1 ng1 FG1 hlg1 AG1 TG1 lxg1
    refine ob_ecl TG1 ?_; try clear TG1; rintro dg rfl DGA
    with_reducible refine ob_eeeeccccl VK.open ?_; intro lk1 ak1 xk1 nk1 FK1 hlk1 AK1 TK1 lxk1
    have hit := hit rfl
    have lcs : (pickI (codes its) ps).length ≤ 1000 := by unfold pickI; simp; omega
    have llv : (levs its).length ≤ 1000 := by rw [levs_seen]; have := seen_len (its := its) (i := its.length); omega
    wtm_at "yW"
    wtm_at "yat"
    with_reducible refine call0 S (by wtm_at "yU") (c_texts_fac (by wtm_at "yU") (O.mono (by decide)) (by wtm_at "yU") (v := gv) (k := "integer") (its := pickI (codes its) ps) (kvs := [("levels", lv), ("class", cv')]) (by wtm_at "yU") (by wtm_at "yva") (VL.up (by wtm_at "yL")) lcs llv (codes_ok hps)) fun r1 G20 s' h20 S hp => ?_
    with_reducible refine ob_eeeecccl hp ?_; try clear hp; rintro p1 l1 ll tk rfl hp1 I1 IL
    rw [codes_deco hps] at I1
    refine assign_three O.h S (by wtm_at "yH") (by kernel_rfl!) (by kernel_rfl!) (by kernel_rfl!) (by kernel_rfl!) fun s' S => ?_
    wtm_at "yW"
    with_reducible refine iter_list O.h S (by wtm_at "yU") fun itk s' TI => ?_
    with_reducible refine comp_vk TI (Nat.le_trans (Nat.le_trans (Nat.le_of_eq lvs) hR) (by decide)) (by kernel_rfl!) (ItV.mono (f := fun j => (pickI its ps).getD j .na)) (fun C sD Wc j v' G' ρ' s' it d0 E' hj hP hG hρ S Qe hQe => ?_) fun D21 G21 s' hD21 hG21 hL21 S => ?_
    · with_reducible refine ob_eceeccl (RV.at hP) ?_; rintro r er pr xr rfl hpr AR
      with_reducible refine ob_cl (hrow j r er) ?_; intro hir eir
      have lxr := AR.1
      have hx : xr[((i : Int)).toNat]? = some (xr[i]'(Nat.lt_of_lt_of_le hir (Nat.le_of_eq lxr.symm))) := by simp
      have hv := AR.2 i (r.getD i .na) (xr[i]'(Nat.lt_of_lt_of_le hir (Nat.le_of_eq lxr.symm))) (by rw [List.getD_eq_getElem?_getD, List.getElem?_eq_getElem hir]; rfl) (by simp)
      rw [eir] at hv
      wtm_at "yW"
      exact hQe _ _ _ (Le.rfl) (by wtm_at "yU") S
    have I21 : Its G21 (pickI its ps) D21 := hL21.its2 (by wtm_at "yo") fun i it y e r => by
      rw [List.getD_eq_getElem?_getD, e] at r; exact r
    wtm_at "yW"
    refine ne_its (its := pickI its ps) S (by wtm_at "yU") I21 (by wtm_at "yo") ?_
    wtm_at "yW"
    obtain ⟨lz, hlz⟩ : ∃ lz, lz = ln := ⟨_, rfl⟩
    subst hlz
    have nz := n0
    with_reducible refine iter_list O.h S (by wtm_at "yU") fun itk s' TI => ?_
    refine for_it TI (fun j G' mu' ρ' => (∃ zs m, mu' = (lz, lst zs m) :: it :: W ∧ AllV G' (seenP its j) zs) ∧ ρ' "grid" = some grid ∧ ρ' "rows" = some (.ref lr) ∧ ρ' "vectors" = some (.ref D5) ∧ ρ' "law_plain" = some (.bool false) ∧ ρ' "kind" = some (.str "factor" tk) ∧ ρ' "levels" = some (.ref ll) ∧ ρ' "seen" = some (.ref lz) ∧ ρ' "step" = some (.int (i : Nat) ti)) ⟨⟨[], 0, rfl, .nil⟩, by wtm_at "yinv", by wtm_at "yinv", by wtm_at "yinv", by wtm_at "yinv", by wtm_at "yinv", by wtm_at "yinv", by wtm_at "yinv", by wtm_at "yinv"⟩
      (fun j v' G' mu' ρ' s' it2 E' hj hP hG hI S Qb hQb => ?_) fun G' mu' ρ' s' hG hI S => ?_
    · with_reducible refine ob_ccccccccl hI ?_; try clear hI; rintro ⟨zs, m, rfl, AZ⟩ q1 q2 q3 q4 q5 q6 q7 q8
      with_reducible refine ob_ecl (AO.at hP) ?_; intro iti e1 hv
      have hjl : j < its.length := (Nat.lt_of_lt_of_le hj (Nat.le_of_eq lxo))
      have hst := seen_step hjl
      have ed : its.getD j .na = iti := by rw [List.getD_eq_getElem?_getD, e1]; rfl
      have lz1 := AZ.1
      have lz2 := seen_len (its := its) (i := j)
      rw [ed] at hst
      refine wpAny_assign_Name (S.st (by kernel_rfl!) (by kernel_rfl!) fun s' S => ?_)
      rcases hit iti (List.mem_of_getElem? e1) with rfl | ⟨x, rfl, hx⟩
      · obtain rfl : v' = .none := hv
        wtm_at "yW"
        rw [if_neg (by simp)] at hst
        exact Cont.go hQb rfl (Le.rfl) (⟨⟨zs, m, rfl, by rw [hst]; exact AZ⟩, by wtm_at "yinv", by wtm_at "yinv", by wtm_at "yinv", by wtm_at "yinv", by wtm_at "yinv", by wtm_at "yinv", by wtm_at "yinv", by wtm_at "yinv"⟩) S
      · refine ob_el hv ?_; try clear hv; rintro tx rfl
        wtm_at "yW"
        refine notin_txt (by wtm_at "yH") (AZ.up S.z.gs) (seen_txts (Nat.le_of_lt hjl) hit) ?_
        by_cases hm : It.txt x ∈ seenP its j
        · rw [List.contains_iff_mem.mpr hm]
          wtm_at "yW"
          rw [if_neg (by simp [hm])] at hst
          exact Cont.go hQb rfl (Le.rfl) (⟨⟨zs, m, rfl, by rw [hst]; exact AZ⟩, by wtm_at "yinv", by wtm_at "yinv", by wtm_at "yinv", by wtm_at "yinv", by wtm_at "yinv", by wtm_at "yinv", by wtm_at "yinv", by wtm_at "yinv"⟩) S
        · have hm' : (seenP its j).contains (It.txt x) = false := by
            rw [← Bool.not_eq_true, List.contains_iff_mem]; exact hm
          rw [hm']
          wtm_at "yW"
          wtm_at "yap1"
          wtm_at "yap2"
          rw [if_pos ⟨by simp, hm⟩] at hst
          exact Cont.go hQb rfl (Le.rfl) (⟨⟨_, _, rfl, by rw [hst]; exact AZ.snoc ⟨_, rfl⟩⟩, by wtm_at "yinv", by wtm_at "yinv", by wtm_at "yinv", by wtm_at "yinv", by wtm_at "yinv", by wtm_at "yinv", by wtm_at "yinv", by wtm_at "yinv"⟩) S
    · with_reducible refine ob_ccccccccl hI ?_; try clear hI; rintro ⟨zs, m, rfl, AZ⟩ q1 q2 q3 q4 q5 q6 q7 q8
      rw [lxo, ← levs_seen] at AZ
      with_reducible refine ob_eccl (S.freeze nz) ?_; intro G30 h30 e30 S
      wtm_at "yW"
      refine ne_its (its := levs its) S (by wtm_at "yU") ⟨zs, m, e30, by wtm_at "yU"⟩ (by wtm_at "yo") ?_
      wtm_at "yW"
      with_reducible refine ob_eccl (S.freeze n0) ?_; intro G31 h31 e31 S
      refine ne_its (its := [.txt "factor"]) S ⟨xk1, nk1, by wtm_at "yU", by wtm_at "yU"⟩ ⟨_, _, e31, .cons ⟨_, rfl⟩ .nil⟩ (by wtm_at "yo") ?_
      wtm_at "yW"
      exact ⟨rfl, _, _, by wtm_at "yL", by wtm_at "yinv", by wtm_at "yinv", by wtm_at "yinv", by rw [epl]; wtm_at "yinv", S⟩
  · obtain rfl := GC2 hg
    wtm_at "yW"
    wtm_at "yat"
    with_reducible refine call0 S (by wtm_at "yU") (c_texts_plain (by wtm_at "yU") (O.mono (by decide)) (by wtm_at "yU") (v := gv) (k := k) (its := pickI its ps) (t := none) (by wtm_at "yU") (.inl rfl) (Nat.le_trans (Nat.le_of_eq lpi) (Nat.le_trans (Nat.le_of_eq hlen.symm) hR))) fun r1 G20 s' h20 S hp => ?_
    with_reducible refine ob_eeeccl hp ?_; try clear hp; rintro p1 l1 tk rfl hp1 I1
    refine assign_three O.h S (by wtm_at "yH") (by kernel_rfl!) (by kernel_rfl!) (by kernel_rfl!) (by kernel_rfl!) fun s' S => ?_
    wtm_at "yW"
    with_reducible refine iter_list O.h S (by wtm_at "yU") fun itk s' TI => ?_
    with_reducible refine comp_vk TI (Nat.le_trans (Nat.le_trans (Nat.le_of_eq lvs) hR) (by decide)) (by kernel_rfl!) (ItV.mono (f := fun j => (pickI its ps).getD j .na)) (fun C sD Wc j v' G' ρ' s' it d0 E' hj hP hG hρ S Qe hQe => ?_) fun D21 G21 s' hD21 hG21 hL21 S => ?_
    · with_reducible refine ob_eceeccl (RV.at hP) ?_; rintro r er pr xr rfl hpr AR
      with_reducible refine ob_cl (hrow j r er) ?_; intro hir eir
      have lxr := AR.1
      have hx : xr[((i : Int)).toNat]? = some (xr[i]'(Nat.lt_of_lt_of_le hir (Nat.le_of_eq lxr.symm))) := by simp
      have hv := AR.2 i (r.getD i .na) (xr[i]'(Nat.lt_of_lt_of_le hir (Nat.le_of_eq lxr.symm))) (by rw [List.getD_eq_getElem?_getD, List.getElem?_eq_getElem hir]; rfl) (by simp)
      rw [eir] at hv
      wtm_at "yW"
      exact hQe _ _ _ (Le.rfl) (by wtm_at "yU") S
    have I21 : Its G21 (pickI its ps) D21 := hL21.its2 (by wtm_at "yo") fun i it y e r => by
      rw [List.getD_eq_getElem?_getD, e] at r; exact r
    wtm_at "yW"
    refine ne_its (its := pickI its ps) S (by wtm_at "yU") I21 (by wtm_at "yo") ?_
    wtm_at "yW"
    by_cases hc : k = "character"
    · refine ite_yes (by simpa using hc) ?_
      have epl : pl = true := by
        cases pl with
        | true => rfl
        | false => exact absurd ⟨rfl, hc⟩ hg
      have r4' := r4
      rw [epl] at r4'
      clear r4
      wtm_at "yW"
      refine ite_no (by simp) ?_
      wtm_at "yW"
      exact ⟨rfl, _, _, by wtm_at "yL", by wtm_at "yinv", by wtm_at "yinv", by wtm_at "yinv", by rw [epl]; wtm_at "yinv", S⟩
    · refine ite_no (by simpa using hc) ?_
      wtm_at "yW"
      refine ite_no (by simp) ?_
      wtm_at "yW"
      exact ⟨rfl, _, _, by wtm_at "yL", by wtm_at "yinv", by wtm_at "yinv", by wtm_at "yinv", by wtm_at "yinv", S⟩))
end
end -- P30a
section -- P30
open PySem.Calls PySem.Spec
section
variable {w : World} {A : Around} {s : Shared} {G : Heap} {a : Addr}
theorem c_grid_right (P : PG w G) (O : Ok A 14) (X : FnAt G a (stm 137)) {st ls : Addr} {W : List (Addr × Obj)} (D : Draws st W) (hs : Ints G ls) :
    Run w A s G W a [.ref st, .ref ls] fun G' W' r => Draws st W' ∧ r = .bool true := unus (by exact trivial : Us (by
  refine Run.enter X P.lim O [("state", .ref st), ("script", .ref ls)] (by wtm_at "ybind") (by kernel_rfl!) fun fp s S O => ?_
  with_reducible refine ob_ecl (P.at "_law_take" 131 (by kernel_rfl!)) ?_; intro a1 g1 X1
  with_reducible refine ob_ecl (P.at "_law_vector" 133 (by kernel_rfl!)) ?_; intro a2 g2 X2
  with_reducible refine ob_ecl (P.at "flag" 45 (by kernel_rfl!)) ?_; intro a3 g3 X3
  with_reducible refine ob_ecl (P.at "b_expand_grid" 125 (by kernel_rfl!)) ?_; intro a4 g4 X4
  with_reducible refine ob_ecl (P.at "_law_rows" 136 (by kernel_rfl!)) ?_; intro a5 g5 X5
  with_reducible refine ob_ecl (P.at "_law_texts_of" 135 (by kernel_rfl!)) ?_; intro a6 g6 X6
  refine ob_eecl hs ?_; try clear hs; intro xs0 ns0 hls hxs0
  have hu := O.u
  wtm_at "ygo"
  wtm_at "yW"
  refine callD [] S (by wtm_at "yU") (c_take (by wtm_at "yU") (O.mono (by decide)) (by wtm_at "yU") D (by decide) (by decide)) fun r G1 W1 s' h1 S hp => ?_
  with_reducible refine ob_ceeccl hp ?_; try clear hp; rintro D1 d1 u1 rfl hd0 hd1
  replace S : St _ _ _ _ W1 _ _ _ := S
  wtm_at "yW"
  with_reducible refine w_mod S (by decide) fun t2 s' S => ?_
  wtm_at "yW"
  obtain ⟨cnt, ecn, hc0, hc3⟩ : ∃ cnt : Nat, 1 + (d1 + 1).fmod 3 = (cnt : Int) ∧ 0 < cnt ∧ cnt ≤ 3 := by
    have f1 := Int.fmod_nonneg (a := d1 + 1) (b := 3) (by wtm_at "yo") (by decide)
    have f2 := Int.fmod_lt_of_pos (d1 + 1) (b := 3) (by decide)
    exact ⟨(1 + (d1 + 1).fmod 3).toNat, by wtm_at "yo", by wtm_at "yo", by wtm_at "yo"⟩
  rename IsUpd _ _ _ _ => hU
  rw [ecn] at hU ⊢
  wtm_at "yrange"
  refine comp_i TI (Nat.le_trans hc3 (by decide)) (by kernel_rfl!) (fun i ys G mu => Draws st mu ∧ ∃ ds, AllVV w G ds ys ∧ ds.length = i ∧ ∀ d ∈ ds, ∃ m, m ≤ 4 ∧ LVec d m) (fun i ys G mu ⟨_, ds, h1, h2, _⟩ => by have := h1.1; omega) ⟨D1, [], .nil, rfl, by simp⟩ (fun C sD Wc i v' zs G' mu' ρ' s' it d0 E' hi hP hG hI hρ S Qe hQe => ?_) fun D5 ys nn G5 W5 s' hD hG hI S => ?_
  · with_reducible refine ob_ceccl hI ?_; try clear hI; intro DI ds hds hdl hdv
    wtm_at "yW"
    refine callD [(ln, _), it, d0] S (by wtm_at "yU") (c_take (by wtm_at "yU") (O.mono (by decide)) (by wtm_at "yU") DI (by decide) (by decide)) fun r G3 W3 s' h3 S hp => ?_
    with_reducible refine ob_ceeccl hp ?_; try clear hp; rintro D3 d3 u3 rfl he0 he1
    replace S : St _ _ _ _ ((ln, _) :: it :: d0 :: W3) _ _ _ := S
    with_reducible refine ob_eccl (S.freeze n0) ?_; intro G4 h4 e4 S
    obtain ⟨m, tm, em, hm⟩ := size_get he0 he1
    wtm_at "yW"
    refine callD [it, d0] S (by wtm_at "yU") (c_vectorF (by wtm_at "yU") (O.mono (by decide)) (by wtm_at "yU") D3 ⟨xs0, ns0, by wtm_at "yU", hxs0⟩ (Nat.le_trans hm (by decide))) fun r G6 W6 s' h6 S hp => ?_
    with_reducible refine ob_cecl hp ?_; try clear hp; intro D6 dv V6 L6
    refine hQe _ _ _ _ (by wtm_at "yL") (⟨D6, ds ++ [dv], AllVV.snoc (by wtm_at "yU") V6, by simp [hdl], fun d hd => ?_⟩) S
    rcases List.mem_append.mp hd with hd | hd
    · exact hdv d hd
    · obtain rfl : d = dv := by simpa using hd
      exact ⟨m, hm, L6⟩
  with_reducible refine ob_ceccl hI ?_; try clear hI; intro D5' ds hds hdl hdv
  with_reducible refine ob_eccl (S.freeze hD) ?_; intro G6 h6 e6 S
  have lys : ys.length = cnt := by rw [hds.1, hdl]
  wtm_at "yW"
  wtm_at "yrange"
  refine comp_i TI (Nat.le_trans hc3 (by decide)) (by kernel_rfl!) (fun i ys G mu => Draws st mu ∧ ∃ tgs, Tags tgs ys ∧ tgs.length = i ∧ ∀ o ∈ tgs, tagOk o) (fun i ys G mu ⟨_, ds, h1, h2, _⟩ => by have := h1.1; omega) ⟨D5', [], .nil, rfl, by simp⟩ (fun C sD Wc i v' zs G' mu' ρ' s' it d0 E' hi hP hG hI hρ S Qe hQe => ?_) fun D7 ts nt G7 W7 s' hD7 hG7 hI7 S => ?_
  · with_reducible refine ob_ceccl hI ?_; try clear hI; intro DI tgs htg htl hto
    with_reducible refine ob_el hP ?_; try clear hP; rintro tp rfl
    have hnl := num_len (i := i) (Nat.lt_of_le_of_lt (Nat.le_trans (Nat.le_of_lt hi) hc3) (by decide))
    wtm_at "yW"
    refine ⟨kept_type, b_str S (neg_lt_cast (by decide)) (cast_lt (Nat.le_trans (Nat.le_of_lt hi) hc3) (by decide)) fun tS s' S => ?_⟩
    wtm_at "yW"
    refine w_addstr S (by rw [Str.length_append, sizeLine_eq]; have : ("t" : Str).length = 1 := by decide +kernel
                          omega) fun tV s' S => ?_
    wtm_at "yW"
    refine callD [(ln, _), it, d0] S (by wtm_at "yU") (c_take (by wtm_at "yU") (O.mono (by decide)) (by wtm_at "yU") DI (by decide) (by decide)) fun r G8 W8 s' h8 S hp => ?_
    with_reducible refine ob_ceeccl hp ?_; try clear hp; rintro D8 d8 u8 rfl he0 he1
    replace S : St _ _ _ _ ((ln, _) :: it :: d0 :: W8) _ _ _ := S
    with_reducible refine ob_eccl (S.freeze n0) ?_; intro G9 h9 e9 S
    obtain ⟨o, tv, eo, To, ho⟩ := tag_get (tag_t i (Nat.lt_of_lt_of_le hi hc3)) he0 he1
    wtm_at "yW"
    refine hQe _ _ _ _ (by wtm_at "yL") (⟨D8, tgs ++ [o], htg.snoc To, by simp [htl], fun o' ho' => ?_⟩) S
    rcases List.mem_append.mp ho' with ho' | ho'
    · exact hto o' ho'
    · obtain rfl : o' = o := by simpa using ho'
      exact ho
  with_reducible refine ob_ceccl hI7 ?_; try clear hI7; intro D7' tgs htg htl hto
  with_reducible refine ob_eccl (S.freeze hD7) ?_; intro G8 h8 e8 S
  have lts : ts.length = cnt := by rw [htg.1, htl]
  wtm_at "yW"
  refine callD [] S (by wtm_at "yU") (c_take (by wtm_at "yU") (O.mono (by decide)) (by wtm_at "yU") D7' (by decide) (by decide)) fun r G9 W9 s' h9 S hp => ?_
  with_reducible refine ob_ceeccl hp ?_; try clear hp; rintro D9 d9 u9 rfl hl0 hl1
  replace S : St _ _ _ _ W9 _ _ _ := S
  wtm_at "yW"
  obtain ⟨pl, epl⟩ : ∃ pl : Bool, (d9 == 1) = pl := ⟨_, rfl⟩
  rename IsUpd _ _ _ _ => hU
  rw [epl] at hU
  wtm_at "yW"
  wtm_at "yrange"
  refine comp_bi TI (Nat.le_trans hc3 (by decide)) (by kernel_rfl!) (fun i zs G mu => mu = W9 ∧ AllP w G ((ptsOf tgs ds).take i) zs) (fun i ys G mu ⟨_, h⟩ => by have := h.1; simp at this; omega) ⟨rfl, .nil⟩ (fun C sD Wc i v' zs G' mu' ρ' s' it d0 E' hi hP hG hI hρ S Qe hQe => ?_) (by kernel_rfl!) (by kernel_rfl!) fun Da zs na G10 W10 s' hDa hG10 hI10 S => ?_
  · with_reducible refine ob_cl hI ?_; try clear hI; rintro rfl AZ
    with_reducible refine ob_el hP ?_; try clear hP; rintro tp rfl
    have hx1 : ts[((i : Int)).toNat]? = some (ts[i]'(Nat.lt_of_lt_of_le hi (Nat.le_of_eq lts.symm))) := by simp
    have hx2 : ys[((i : Int)).toNat]? = some (ys[i]'(Nat.lt_of_lt_of_le hi (Nat.le_of_eq lys.symm))) := by simp
    have ho : tgs[i]? = some (tgs[i]'(Nat.lt_of_lt_of_le hi (Nat.le_of_eq htl.symm))) := by simp
    have hd : ds[i]? = some (ds[i]'(Nat.lt_of_lt_of_le hi (Nat.le_of_eq hdl.symm))) := by simp
    have To := htg.2 i _ _ ho (show ts[i]? = some (ts[i]'(Nat.lt_of_lt_of_le hi (Nat.le_of_eq lts.symm))) by simp)
    have Vd := hds.2 i _ _ hd (show ys[i]? = some (ys[i]'(Nat.lt_of_lt_of_le hi (Nat.le_of_eq lys.symm))) by simp)
    with_reducible refine ob_ecl (hdv _ (List.mem_of_getElem? hd)) ?_; intro m hm Ld
    have hpt := pts_at ho hd
    generalize ts[i]'(Nat.lt_of_lt_of_le hi (Nat.le_of_eq lts.symm)) = tv at *
    generalize ys[i]'(Nat.lt_of_lt_of_le hi (Nat.le_of_eq lys.symm)) = vv at *
    generalize tgs[i]'(Nat.lt_of_lt_of_le hi (Nat.le_of_eq htl.symm)) = o at *
    generalize ds[i]'(Nat.lt_of_lt_of_le hi (Nat.le_of_eq hdl.symm)) = d at *
    obtain ⟨k, its, t⟩ := d
    obtain rfl : t = none := Ld.2.2.2
    wtm_at "yW"
    refine hQe _ _ _ _ (by wtm_at "yL") (⟨rfl, ?_⟩) S
    rw [List.take_add_one, hpt]
    exact AllP.snoc (AZ.up (by wtm_at "yL")) ⟨_, tv, vv, rfl, by wtm_at "yU", To, by wtm_at "yU"⟩
  with_reducible refine ob_cl hI10 ?_; try clear hI10; intro e AZ
  rw [e] at S
  clear e
  have lpt := pts_len htl hdl
  rw [List.take_of_length_le (by omega)] at AZ
  have K := gok_of htl hdl hc0 hc3 hto hdv
  have hsm := pts_small (tgs := tgs) hdv
  have lzs : zs.length = cnt := by rw [AZ.1, lpt]
  have hvs : ∀ (j : Nat) pt, (ptsOf tgs ds)[j]? = some pt → ∃ o d, tgs[j]? = some o ∧ ds[j]? = some d ∧ pt = ⟨o, d.k, d.its⟩ := fun j pt h => pts_back h
  generalize ptsOf tgs ds = parts at *
  wtm_at "yqs"
  refine wpAny_execs_cons (stmt_cut S (fun G' mu' ρ' => ∃ xs n as W', mu' = (Da, lst xs n) :: W' ∧ Draws st W' ∧ as.filterMap id = parts ∧ as.all (·.isSome) = !pl ∧ as.length ≤ 4 ∧ AllG w G' as xs ∧ ρ' "args" = some (.ref Da) ∧ ρ' "vectors" = some (.ref D5) ∧ ρ' "tags" = some (.ref D7) ∧ ρ' "law_plain" = some (.bool pl) ∧ ∃ t, ρ' "count" = some (.int (cnt : Nat) t)) ?_ fun G11 mu11 ρ11 s11 h11 hR S => ?_)
  · intro Qs hQs; wtm_at "yW"
    cases pl with
    | false =>
      refine ite_no (by simp) ?_
      wtm_at "yW"
      exact hQs _ _ _ _ (Le.rfl) (⟨zs, na, parts.map some, _, rfl, D9, filt_some, by simp, by simp; omega, AZ.g, by wtm_at "yinv", by wtm_at "yinv", by wtm_at "yinv", by wtm_at "yinv", by wtm_at "yinv"⟩) S
    | true =>
      refine ite_yes rfl ?_
      wtm_at "yW"
      intro pl
      with_reducible refine meth_list (by wtm_at "yH") PySem.F.slot_list_insert (by kernel_rfl!) ?_
      wtm_at "yW"
      refine callD [(Da, lst zs na)] S (by wtm_at "yU") (c_take (by wtm_at "yU") (O.mono (by decide)) (by wtm_at "yU") D9 (by wtm_at "yo") (cast_lt1 hc3 (by decide))) fun r G12 W12 s' h12 S hp => ?_
      with_reducible refine ob_ceeccl hp ?_; try clear hp; rintro D12 d12 u12 rfl hq0 hq1
      replace S : St _ _ _ _ ((Da, lst zs na) :: W12) _ _ _ := S
      wtm_at "yW"
      with_reducible refine callV S (by wtm_at "yU") (d_flag (by wtm_at "yU") (O.mono (by decide)) (by wtm_at "yU")) fun fv G13 s' h13 S V13 => ?_
      wtm_at "yW"
      refine ⟨kept_builtin, ?_⟩
      refine m_insert S (by wtm_at "ymem") hq0 (by wtm_at "yo") (Nat.le_trans (Nat.le_trans (Nat.le_of_eq lzs) hc3) (by decide)) fun n' s' hpu => ?_
      replace S := hpu _ (by wtm_at "yput")
      wtm_at "yW"
      exact hQs _ _ _ _ (by wtm_at "yL") (⟨_, _, _, _, rfl, D12, filt_ins, by simp, by simp; omega, AllG.ins (o := none) ⟨_, _, fv, rfl, by wtm_at "yU", by wtm_at "yU"⟩ (AZ.g.up (by wtm_at "yL")), by wtm_at "yinv", by wtm_at "yinv", by wtm_at "yinv", by wtm_at "yinv", by wtm_at "yinv"⟩) S
  with_reducible refine ob_eeeeccccccccccel hR ?_; try clear hR; rintro xs n as W11 rfl D11 eas eal las AG r1 r2 r3 r4 t5 r5
  with_reducible refine ob_eccl (S.freeze hDa) ?_; intro G12 h12 e12 S
  wtm_at "yW"
  refine St.call (W := []) S (by wtm_at "yU") (c_expand_grid (by wtm_at "yU") (O.mono (by decide)) (by wtm_at "yU") (la := Da) (as := as) (xs := xs) (n := n) e12 AG.1 (AG.up h12).2 (Nat.le_trans las (by decide)) eas.symm K) fun grid G13 W13 s' h13 S hp hn => ?_
  with_reducible refine ob_eccl hp ?_; try clear hp; intro cds NF lcd hgc
  rw [eal] at hgc
  with_reducible refine ob_eccl (NFr.still P S NF fun e he => (hn e he).resolve_left (by simp)) ?_; intro G14 h14 VG S
  with_reducible refine ob_eeeeecccccl VG.open ?_; intro da lI nv cv rv FG DG IG VN VC VR
  clear hn
  wtm_at "yW"
  with_reducible refine iter_list O.h S (by wtm_at "yU") fun itv s' TI => ?_
  refine comp_vk TI (Nat.le_trans (Nat.le_trans (Nat.le_of_eq lys) hc3) (by decide)) (by kernel_rfl!) (R := fun G j y => ∃ l, y = .ref l ∧ Its G ((chs parts).getD j []) l) (fun _ _ _ _ g ⟨l, e, I⟩ => ⟨l, e, I.up g⟩) (fun C sD Wc i v' G' ρ' s' it d0 E' hi hP hG hρ S Qe hQe => ?_) fun D15 G15 s' hD15 hG15 hL15 S => ?_
  · with_reducible refine ob_ecl (hds.at hP) ?_; rintro ⟨k, its, t⟩ ed hv
    with_reducible refine ob_eeeeccccl hv.open ?_; intro l' at2 xs2 n2 FX hl AX T lx
    have hpl : i < parts.length := (Nat.lt_of_lt_of_le hi (Nat.le_trans (Nat.le_of_eq lys) (Nat.le_of_eq lpt.symm)))
    with_reducible refine ob_eeccl (hvs i parts[i] (by simp [hpl])) ?_; intro o d _ ed2 ept
    rw [ed] at ed2
    cases ed2
    have ec : (chs parts).getD i [] = its := by rw [List.getD_eq_getElem?_getD, chs_at (p := parts[i]) (by simp [hpl]), ept]; rfl
    wtm_at "yW"
    exact hQe _ _ _ (Le.rfl) (⟨l', rfl, by rw [ec]; exact ⟨xs2, n2, by wtm_at "yU", by wtm_at "yU"⟩⟩) S
  refine ob_eeccl hL15 ?_; try clear hL15; intro ls5 n15 hl15 ll15 hc15
  have lch : (chs parts).length = cnt := by simp [chs]; omega
  wtm_at "yW"
  refine call0 S (by wtm_at "yU") (c_rows (by wtm_at "yU") (O.mono (by decide)) (by wtm_at "yU") (lc := D15) (cs := chs parts) hl15 (by wtm_at "yo") (fun i c v a b => by
      refine ob_ecl (hc15 i v b) ?_; intro l e I
      rw [List.getD_eq_getElem?_getD, a] at I
      exact ⟨l, e, I⟩) (fun i => by
      by_cases hi : i ≤ parts.length
      · rw [rows_len hi]; exact K.t i
      · rw [List.take_of_length_le (by omega), rows_len']; have := K.t parts.length; rwa [List.take_length] at this) (Nat.le_trans (Nat.le_trans (Nat.le_of_eq lch) hc3) (by decide)) hsm) fun rws G16 s' h16 S hp => ?_
  with_reducible refine ob_eeeccl hp ?_; try clear hp; rintro lr vs nv16 rfl hlr RV
  have lvs : vs.length = totl parts := by rw [RV.1, rows_len']
  have htt : totl parts ≤ 1000 := by have := K.t parts.length; rwa [List.take_length] at this
  wtm_at "yW"
  wtm_at "yrange"
  with_reducible refine comp_bk TI (Nat.le_trans hc3 (by decide)) (by kernel_rfl!) (ItV.mono (f := fun i => (parts.mapIdx headOf).getD i .na)) (fun C sD Wc i v' G' ρ' s' it d0 E' hi hP hG hρ S Qe hQe => ?_) (by kernel_rfl!) (by kernel_rfl!) fun D17 G17 s' hD17 hG17 hL17 S => ?_
  · with_reducible refine ob_el hP ?_; try clear hP; rintro tp rfl
    have hpl : i < parts.length := (Nat.lt_of_lt_of_le hi (Nat.le_of_eq lpt.symm))
    with_reducible refine ob_eeccl (hvs i parts[i] (by simp [hpl])) ?_; intro o d eo _ ept
    have hx1 : ts[((i : Int)).toNat]? = some (ts[i]'(Nat.lt_of_lt_of_le hi (Nat.le_of_eq lts.symm))) := by simp
    have To := htg.2 i _ _ eo (show ts[i]? = some (ts[i]'(Nat.lt_of_lt_of_le hi (Nat.le_of_eq lts.symm))) by simp)
    have eh : (parts.mapIdx headOf).getD i .na = headOf i ⟨o, d.k, d.its⟩ := by
      rw [List.getD_eq_getElem?_getD, List.getElem?_mapIdx, List.getElem?_eq_getElem hpl, ept]; rfl
    rw [eh] at hQe
    generalize ts[i]'(Nat.lt_of_lt_of_le hi (Nat.le_of_eq lts.symm)) = tv at *
    cases o with
    | none =>
      obtain rfl : tv = .none := To
      wtm_at "yW"
      refine ⟨kept_type, b_str S (by wtm_at "yo") (cast_lt1 (Nat.le_trans (Nat.le_of_lt hi) hc3) (by decide)) fun tS s' S => ?_⟩
      wtm_at "yW"
      with_reducible refine w_addstr S (var_len (Nat.le_trans (Nat.le_trans (Nat.le_of_lt hi) hc3) (by decide))) fun tV s' S => ?_
      exact hQe _ _ _ (Le.rfl) (⟨_, rfl⟩) S
    | some x =>
      refine ob_el To ?_; try clear To; rintro tx rfl
      wtm_at "yW"
      by_cases hx : x = ""
      · refine ite_no (by simpa using hx) ?_
        wtm_at "yW"
        refine ⟨kept_type, b_str S (by wtm_at "yo") (cast_lt1 (Nat.le_trans (Nat.le_of_lt hi) hc3) (by decide)) fun tS s' S => ?_⟩
        wtm_at "yW"
        with_reducible refine w_addstr S (var_len (Nat.le_trans (Nat.le_trans (Nat.le_of_lt hi) hc3) (by decide))) fun tV s' S => ?_
        exact hQe _ _ _ (Le.rfl) (by unfold headOf; dsimp only; rw [if_pos (by simpa using hx)]; exact ⟨_, rfl⟩) S
      · refine ite_yes (by simpa using hx) ?_
        wtm_at "yW"
        exact hQe _ _ _ (Le.rfl) (by unfold headOf; dsimp only; rw [if_neg (by simpa using hx)]; exact ⟨_, rfl⟩) S
  have IH : Its G17 (parts.mapIdx headOf) D17 := hL17.its2 (by simp; omega) fun i it y e r => by
    rw [List.getD_eq_getElem?_getD, e] at r; exact r
  with_reducible refine ob_eeeeccccl VN.open ?_; intro ln1 an1 xn1 nn1 FN1 hln1 AN1 TN1 lxn1
  with_reducible refine ob_eeeeccccl VC.open ?_; intro ln2 an2 xn2 nn2 FN2 hln2 AN2 TN2 lxn2
  with_reducible refine ob_eeeeccccl VR.open ?_; intro ln3 an3 xn3 nn3 FN3 hln3 AN3 TN3 lxn3
  refine ob_eecl IG ?_; try clear IG; intro gcv nI hlI AI
  have lgc : gcv.length = cnt := by rw [AI.1]; omega
  wtm_at "yW"
  with_reducible refine ob_eccl (S.freeze n0) ?_; intro G18 h18 e18 S
  refine ne_its (its := [.txt "data.frame"]) S ⟨xn2, nn2, by wtm_at "yU", by wtm_at "yU"⟩ ⟨_, _, e18, .cons ⟨_, rfl⟩ .nil⟩ (by wtm_at "yo") ?_
  wtm_at "yW"
  refine ne_its (its := parts.mapIdx headOf) S ⟨xn1, nn1, by wtm_at "yU", by wtm_at "yU"⟩ (by wtm_at "yU") (by wtm_at "yo") ?_
  wtm_at "yW"
  refine ⟨kept_type, ?_⟩
  with_reducible refine b_rangelist O.h S (by decide) (by wtm_at "yo") (cast_lt1 (Nat.le_trans (Nat.le_of_eq lvs) htt) (by decide)) fun rg s' S hr => ?_
  wtm_at "yW"
  refine ⟨kept_type, ?_⟩
  refine hr _ _ fun lrg rxs c s'' hl0 hRI S => ?_
  clear hr
  with_reducible refine ob_eccl (S.freeze hl0) ?_; intro G19 h19 e19 S
  refine ne_its (its := rowsOf (totl parts)) S ⟨xn3, nn3, by wtm_at "yU", by wtm_at "yU"⟩ ⟨rxs, c, e19, rows_ints (by rw [← lvs]; simpa using hRI)⟩ (by wtm_at "yo") ?_
  wtm_at "yW"
  refine ite_no (by simp; omega) ?_
  wtm_at "yW"
  wtm_at "yrange"
  refine for_it TI (fun i G' mu' ρ' => mu' = W11 ∧ ρ' "grid" = some grid ∧ ρ' "rows" = some (.ref lr) ∧ ρ' "vectors" = some (.ref D5) ∧ ρ' "law_plain" = some (.bool pl)) ⟨rfl, by wtm_at "yinv", by wtm_at "yinv", by wtm_at "yinv", by wtm_at "yinv"⟩
    (fun i v' G' mu' ρ' s' it E' hi hP hG hI S Qb hQb => ?_) fun G' mu' ρ' s' hG hI S => ?_
  · with_reducible refine ob_ccccl hI ?_; try clear hI; intro e r1 r2 r3 r4
    rw [e] at S
    clear e
    with_reducible refine ob_el hP ?_; try clear hP; rintro tp rfl
    refine wpAny_assign_Name (S.st (by kernel_rfl!) (by kernel_rfl!) fun s' S => ?_)
    have hpl : i < parts.length := (Nat.lt_of_lt_of_le hi (Nat.le_of_eq lpt.symm))
    have ep : parts[i]? = some parts[i] := by simp [hpl]
    with_reducible refine ob_eeccl (hvs i parts[i] ep) ?_; rintro o ⟨k, its, t⟩ eo ed ept
    with_reducible refine ob_eccccl (hdv _ (List.mem_of_getElem? ed)) ?_; rintro m hm hkl hml hmi rfl
    have hcd : cds[i]? = some (cds[i]'(Nat.lt_of_lt_of_le hpl (Nat.le_of_eq lcd.symm))) := by simp
    have GC := hgc i _ _ hcd ep
    have hcol := rows_col ep
    have hok := (K.ok _ (List.getElem_mem hpl)).1
    have hplc := plc_lt (st := stpl (parts.take i)) fun h => totl_zero (List.getElem_mem hpl) h
    rw [ept] at GC hcol hok hplc
    unfold GCol at GC
    dsimp only at hcol hplc GC hml hkl
    have VM : VV w G14 (gcv[i]'(Nat.lt_of_lt_of_le hi (Nat.le_of_eq lgc.symm))) (cds[i]'(Nat.lt_of_lt_of_le hpl (Nat.le_of_eq lcd.symm))) := AI.2 i _ _ hcd (by simp)
    have VO : VV w G5 (ys[i]'(Nat.lt_of_lt_of_le hi (Nat.le_of_eq lys.symm))) ⟨k, its, none⟩ := hds.2 i _ _ ed (by simp)
    refine wpAny_mono (grid_step P (O.mono (by decide)) S (i := i) (by wtm_at "yrho") (by wtm_at "yrho") (by wtm_at "yrho") (by wtm_at "yrho") (by wtm_at "yrho") (lI := lI) (da := da) (by wtm_at "yU") (gcv := gcv) (nI := nI) (by wtm_at "yU") (ys := ys) (nn := nn) (by wtm_at "yU") (vs := vs) (nv := nv16) (by wtm_at "yU")
      (RV.up (by wtm_at "yL")) (by rw [rows_len']; exact htt) (gv := gcv[i]'(Nat.lt_of_lt_of_le hi (Nat.le_of_eq lgc.symm))) (ov := ys[i]'(Nat.lt_of_lt_of_le hi (Nat.le_of_eq lys.symm))) (by simp) (by simp) (Nat.lt_of_le_of_lt (Nat.le_trans (Nat.le_of_lt hi) hc3) (by decide)) (VO.up (by wtm_at "yL")) hkl (Nat.le_trans (Nat.le_of_eq hml) hm) hok.tx hplc (by rw [rows_len', plc_len]) (VM.up (by wtm_at "yL"))
      (fun e1 e2 => by
        refine ob_eeccl (GC.1 ⟨by rw [e1]; rfl, e2⟩) ?_; intro lv cv' q1 q2 q3
        exact ⟨lv, cv', q1, q2.up (by wtm_at "yL"), q3.up (by wtm_at "yL")⟩)
      (fun h => GC.2 fun hg => h ⟨by simpa using hg.1, hg.2⟩)
      (fun j r h => ⟨by rw [rowsP_len r (List.mem_of_getElem? h), lch]; omega, by rw [← hcol, List.getD_eq_getElem?_getD, List.getD_eq_getElem?_getD, List.getElem?_map, h]; rfl⟩)) (fun f s₃ hpost => ?_) fun _ _ x => x
    with_reducible refine ob_ceecccccl hpost ?_; try clear hpost; rintro ef G'' ρ'' g q1 q2 q3 q4 S
    subst ef
    exact Cont.go hQb rfl g ⟨rfl, q1, q2, q3, q4⟩ S
  · with_reducible refine ob_ccccl hI ?_; try clear hI; intro e r1 r2 r3 r4
    rw [e] at S
    wtm_at "yW"
    exact S.out (.refl _) ⟨D11, rfl⟩))
end
end -- P30
section -- P26
open PySem.Calls PySem.Spec
noncomputable def RowOk (zs : List Value) : Prop := ∀ x ∈ zs, ∃ i t, x = .int i t ∧ 0 ≤ i ∧ i < 2000
theorem RowOk.snoc {zs : List Value} {i : Int} {t : Tok} (h : RowOk zs) (h0 : 0 ≤ i) (h1 : i < 2000) : RowOk (zs ++ [.int i t]) := fun x hx => by
  rcases List.mem_append.mp hx with hx | hx
  · exact h x hx
  · obtain rfl : x = .int i t := by simpa using hx
    exact ⟨i, t, rfl, h0, h1⟩
theorem test_cut {w : World} {A : Around} {E : Value → Shared → Prop} {s0 s : Shared} {G0 G : Heap} {W0 : List Addr} {mu : List (Addr × Obj)} {env : Env} {ρ : Str → Option Value} {test : Expr} {tr : Sem Value} {Q : Bool → Shared → Prop} (bv : Bool) (_ : St s0 G0 W0 G mu env ρ s)
    (h1 : wpAny (model pw w) A (isTrue test env tr) (fun b s₂ => b = bv ∧ St s0 G0 W0 G mu env ρ s₂) E s) (h2 : ∀ s₂, St s0 G0 W0 G mu env ρ s₂ → Q bv s₂) : wpAny (model pw w) A (isTrue test env tr) Q E s :=
  wpAny_mono h1 (fun b s₂ ⟨hb, S⟩ => by subst hb; exact h2 s₂ S) fun _ _ x => x
section
variable {w : World} {A : Around} {s : Shared} {G : Heap} {a : Addr}
theorem c_draws (P : PG w G) (O : Ok A 1) (X : FnAt G a (stm 130)) {ls : Addr} (hs : Ints G ls) :
    Run w A s G [] a [.ref ls] fun G' W' v => ∃ st, v = .ref st ∧ Draws st W' := unus (by exact trivial : Us (by
  refine Run.enter X P.lim O [("script", .ref ls)] (by wtm_at "ybind") (by kernel_rfl!) fun fp s S O => ?_
  refine ob_eeccl hs ?_; try clear hs; intro xs n hls hxs hxl
  wtm_at "ygo"
  wtm_at "yW"
  obtain ⟨lr, hlr⟩ : ∃ lr, lr = ln := ⟨_, rfl⟩
  subst hlr
  refine ⟨ls, xs, n, rfl, fun s' S => S.z.gs _ _ (by wtm_at "yU"), hxl, S, fun D s' hD S => ?_⟩
  with_reducible refine ob_eccl (S.freeze hD) ?_; intro G1 h1 e1 S
  wtm_at "yW"
  with_reducible refine iter_list O.h S (by wtm_at "yU") fun it s' TI => ?_
  refine for_it TI (fun i G' mu' ρ' => (∃ zs m, mu' = [(lr, lst zs m)] ∧ RowOk zs ∧ zs.length ≤ 40 * i) ∧ ρ' "row" = some (.ref lr) ∧ ρ' "script" = some (.ref ls)) ⟨⟨[], 0, rfl, fun x hx => by simp at hx, by simp⟩, by wtm_at "yinv", by wtm_at "yinv"⟩
    (fun i v' G' mu' ρ' s' it E' hi hP hG hI S Qb hQb => ?_) fun G' mu' ρ' s' hG hI S => ?_
  · with_reducible refine ob_ccl hI ?_; try clear hI; rintro ⟨zs, m, rfl, RZ, lz⟩ r1 r2
    with_reducible refine ob_eel (hxs v' (List.mem_of_mem_take (List.mem_of_getElem? hP))) ?_; rintro ci ct rfl
    have hi48 : i < 48 := by simp at hi; omega
    refine wpAny_assign_Name (S.st (by kernel_rfl!) (by kernel_rfl!) fun s' S => ?_)
    wtm_at "yqs"
    refine wpAny_execs_cons (assign_cut (R := fun _ v => ∃ n t, v = .int n t ∧ 0 ≤ n) S ?_ (fun rv G3 s' g3 hr S => ?_) (by kernel_rfl!))
    · intro Qe hQe; wtm_at "yW"
      refine ⟨kept_type, b_int ?_⟩
      wtm_at "yW"
      refine ⟨kept_builtin, b_abs S fun t1 s' S => ?_⟩
      wtm_at "yW"
      with_reducible refine w_mul S (IntMulOk.of_right (by decide +kernel)) fun t2 s' S => ?_
      wtm_at "yW"
      by_cases hc : ci < 0
      · refine ite_yes (by simpa using hc) ?_
        wtm_at "yW"
        exact hQe _ _ _ Le.rfl ⟨_, _, rfl, by wtm_at "yo"⟩ S
      · refine ite_no (by simpa using hc) ?_
        wtm_at "yW"
        exact hQe _ _ _ Le.rfl ⟨_, _, rfl, by wtm_at "yo"⟩ S
    · with_reducible refine ob_eecl hr ?_; try clear hr; rintro rest tr rfl hr0
      wtm_at "yW"
      refine wpAny_While (codeAny_whileLoop (fun k s₂ => ∃ (lap : Nat) (rest : Int) (t1 t2 : Tok) (zs : List Value) (m : Nat) (ρ₂ : Str → Option Value), k = 40 - lap ∧ lap ≤ 40 ∧ 0 ≤ rest ∧ RowOk zs ∧ zs.length ≤ 40 * i + lap ∧ ρ₂ "lap" = some (.int (lap : Nat) t1) ∧ ρ₂ "rest" = some (.int rest t2) ∧ ρ₂ "row" = some (.ref lr) ∧ ρ₂ "script" = some (.ref ls) ∧
        St _ _ _ G3 [it, (lr, lst zs m)] _ ρ₂ s₂) ?_ 40 ⟨0, rest, _, _, zs, m, _, rfl, by decide, hr0, RZ, by wtm_at "yo", by exact IsUpd.self (by assumption), by wtm_at "yrho", by wtm_at "yrho", by wtm_at "yrho", S⟩)
      rintro k s₂ ⟨lap, rest, t1, t2, zs, m, ρ₂, rfl, hlap, hr0, RZ, lz, q1, q2, q3, q4, S⟩
      by_cases hgo : lap < 40 ∧ (lap = 0 ∨ 0 < rest)
      · refine test_cut true S ?_ fun s₃ S => ?_
        · wtm_at "yW"
          by_cases h0 : lap = 0
          · refine ite_yes (by simpa using h0) ?_
            wtm_at "yW"
            exact ⟨rfl, S⟩
          · refine ite_no (by simpa using h0) ?_
            wtm_at "yW"
            exact ⟨rfl, S⟩
        · refine ite_yes rfl ?_
          wtm_at "yW"
          wtm_at "yap1"
          with_reducible refine w_mod S (by decide) fun t3 s' S => ?_
          have f1 := Int.fmod_nonneg (a := rest) (b := 660) hr0 (by decide)
          have f2 := Int.fmod_lt_of_pos rest (b := 660) (by decide)
          wtm_at "yW"
          wtm_at "yap2"
          with_reducible refine w_ifdiv S (by decide) (PyProof.noPylong_of_log2 (by decide +kernel)) fun t4 s' S => ?_
          wtm_at "yW"
          with_reducible refine w_iadd S fun t5 s' S => ?_
          wtm_at "yW"
          refine ⟨40 - (lap + 1), by wtm_at "yo", lap + 1, rest.fdiv 660, t5, t4, _, _, _, rfl, by wtm_at "yo", Int.fdiv_nonneg hr0 (by decide), RZ.snoc f1 (ilt_t f2 (by decide)), by simp; omega, ?_, ?_, ?_, ?_, S⟩
          · exact IsUpd.self (by assumption)
          · wtm_at "yrho"
          · wtm_at "yrho"
          · wtm_at "yrho"
      · refine test_cut false S ?_ fun s₃ S => ?_
        · by_cases hl40 : lap < 40
          · have h0 : ¬ lap = 0 := fun h => hgo ⟨hl40, .inl h⟩
            have h1 : ¬ 0 < rest := fun h => hgo ⟨hl40, .inr h⟩
            wtm_at "yW"
            try (refine ite_no (by simpa using h0) ?_; wtm_at "yW")
            exact ⟨rfl, S⟩
          · wtm_at "yW"
            exact ⟨rfl, S⟩
        · refine ite_no Bool.false_ne_true ?_
          wtm_at "yW"
          exact Cont.go hQb rfl (g3) (⟨⟨zs, m, rfl, RZ, by wtm_at "yo"⟩, by wtm_at "yinv", by wtm_at "yinv"⟩) S
  · with_reducible refine ob_ccl hI ?_; try clear hI; rintro ⟨zs, m, rfl, RZ, lz⟩ r1 r2
    have lz2 : zs.length ≤ 2000 := by simp at lz; omega
    wtm_at "yW"
    refine ⟨lr, zs, m, rfl, fun s' S => S.has (by wtm_at "ymem"), (Nat.le_trans lz2 (by decide)), S, fun D s' hD2 S => ?_⟩
    wtm_at "yW"
    intro pl
    with_reducible refine meth_list (by wtm_at "yH") PySem.F.slot_list_reverse (by kernel_rfl!) ?_
    wtm_at "yW"
    refine ⟨kept_builtin, ?_⟩
    refine m_reverse S (by wtm_at "ymem") (by rw [sizeLine_eq]; simp; omega) fun n' s' hpu => ?_
    replace S := hpu _ (by wtm_at "yput")
    have RR : RowOk (zs.take (300 : Int).toNat).reverse := fun x hx => RZ x (List.mem_of_mem_take (List.mem_reverse.mp hx))
    have RL : (zs.take (300 : Int).toNat).reverse.length ≤ 400 := by simp; omega
    wtm_at "yW"
    by_cases hx0 : 0 < xs.length
    · refine ite_yes (by simpa using hx0) ?_
      with_reducible refine ob_eel (hxs xs[0] (List.getElem_mem hx0)) ?_; intro ci ct ec
      have hxe : xs[(0 : Int).toNat]? = some (.int ci ct) := by rw [← ec]; simp
      wtm_at "yW"
      refine ⟨kept_type, b_int ?_⟩
      wtm_at "yW"
      refine ⟨kept_builtin, b_abs S fun t1 s' S => ?_⟩
      wtm_at "yW"
      with_reducible refine w_mod S (by decide) fun t2 s' S => ?_
      have f1 := Int.fmod_nonneg (a := if ci < 0 then -ci else ci) (b := 1009) (by split <;> omega) (by decide)
      have f2 := Int.fmod_lt_of_pos (if ci < 0 then -ci else ci) (b := 1009) (by decide)
      wtm_at "yW"
      exact S.out (List.Sublist.cons_cons _ (List.Sublist.cons_cons _ (List.nil_sublist _))) ⟨_, rfl, D, _, _, _, _, _, rfl, by wtm_at "yo", by wtm_at "yo", RL, RR⟩
    · refine ite_no (by simpa using hx0) ?_
      wtm_at "yW"
      exact S.out (List.Sublist.cons_cons _ (List.Sublist.cons_cons _ (List.nil_sublist _))) ⟨_, rfl, D, _, _, _, _, _, rfl, by decide, by decide, RL, RR⟩))
end
end -- P26
section -- P19
open PySem.Calls PySem.Spec
theorem keptL_no {kvs : List (Str × Value)} {x : Str} (h : (x == "names" || x == "dim" || x == "dimnames") = true) : valueAt (keptL kvs) x = none := unus (by exact trivial : Us (by
  refine valueAt_none_of_not_mem fun hm => ?_
  refine ob_ecl (List.mem_map.mp hm) ?_; intro p hp e
  have := (List.mem_filter.mp hp).2
  rw [← e] at h
  rw [h] at this
  cases this))
theorem keptA_no {t : Option (List (Str × Value))} {x : Str} (h : (x == "names" || x == "dim" || x == "dimnames") = true) : attGet (keptA t) x = .none := unus (by exact trivial : Us (by
  cases t with
  | none => rfl
  | some kvs =>
    by_cases e : keptL kvs = []
    · rw [keptA_none e]; rfl
    · rw [keptA_some e]; show (valueAt (keptL kvs) x).getD .none = .none; rw [keptL_no h]; rfl))
theorem keptA_small {t : Option (List (Str × Value))} (h : tSmall t) : tSmall (keptA t) := unus (by exact trivial : Us (by
  intro kvs e
  cases t with
  | none => cases e
  | some kv =>
    by_cases q : keptL kv = []
    · rw [keptA_none q] at e; cases e
    · rw [keptA_some q] at e; cases e
      exact Nat.le_trans (List.length_filter_le ..) (h kv rfl)))
theorem keptV_nm {d : Vd} (h : KOk d.k) : NoNm (keptV d) := ⟨h, keptA_no (by kernel_rfl!), keptA_no (by kernel_rfl!)⟩
theorem flags_kept {ds : List Vd} {R : Nat} : flags (ds.map keptV) R = flags ds R := by
  unfold flags
  refine List.map_congr_left fun p _ => ?_
  unfold flagAt
  rw [List.any_map]; rfl
theorem ColOk.kept {R : Nat} {d : Vd} (h : ColOk R d) : ColOk R (keptV d) := ⟨h.l, h.k, h.f⟩
/-- arguments without tags -/
noncomputable def ArgsN (w : World) (G : Heap) (ds : List Vd) (la : Addr) : Prop := ∃ ps n vs, G.get? la = some (lst ps n) ∧ ps.length = vs.length ∧ (∀ (i : Nat) p v, ps[i]? = some p → vs[i]? = some v → ∃ q, p = .ref q ∧ G.get? q = some (tup [.none, v])) ∧ AllVV w G ds vs
section
variable {w : World} {A : Around} {s : Shared} {G : Heap} {a : Addr} {v : Value} {k : Str} {l : Addr} {at' : Value} {t : Option (List (Str × Value))} {its : List It} {ds : List Vd} {names : List It} {rk : Str} {ri : List It} {rd : Vd}
theorem c_complete_cases (P : PG w G) (O : Ok A 11) (X : FnAt G a (stm 126)) {la : Addr} (V : ArgsN w G ds la) {R : Nat} (hR : R ≤ 1000) (hc : ∀ d ∈ ds, ColOk R d ∧ tSmall d.t ∧ d.k ≠ "list") (hne : ds ≠ []) (hz : ds.length ≤ 1000) :
    Run w A s G [] a [.none, .ref la, .none] fun G' W' r => NVV w G' W' r ⟨"logical", flags ds R, none⟩ := unus (by exact trivial : Us (by
  refine Run.enter X P.lim O [("interp", .none), ("args", .ref la), ("env", .none)] (by wtm_at "ybind") (by kernel_rfl!) fun fp s S O => ?_
  refine ob_eeecccl V ?_; try clear V; intro ps n vs hla lps hps AV
  have lvs := AV.1
  have hpos : 0 < ds.length := List.length_pos_iff.mpr hne
  with_reducible refine ob_ecl (P.at "is_vector" 47 (by kernel_rfl!)) ?_; intro a1 g1 X1
  with_reducible refine ob_ecl (P.at "is_frame" 103 (by kernel_rfl!)) ?_; intro a2 g2 X2
  with_reducible refine ob_ecl (P.at "kept_attrs" 109 (by kernel_rfl!)) ?_; intro a3 g3 X3
  with_reducible refine ob_ecl (P.at "make_frame" 115 (by kernel_rfl!)) ?_; intro a4 g4 X4
  with_reducible refine ob_ecl (P.at "complete_rows" 122 (by kernel_rfl!)) ?_; intro a5 g5 X5
  with_reducible refine ob_ecl (P.at "logical" 42 (by kernel_rfl!)) ?_; intro a6 g6 X6
  wtm_at "ygo"
  wtm_at "yA"
  with_reducible refine iter_list O.h S (by wtm_at "yU") fun it s' TI => ?_
  refine for_it TI (fun i G' mu' ρ' => (∃ m, mu' = [(ln, lst (vs.take i) m)]) ∧ ρ' "columns" = some (.ref ln)) ⟨⟨0, by simp⟩, by wtm_at "yinv"⟩
    (fun i v' G' mu' ρ' s' it E' hi hP hG hI S Qb hQb => ?_) fun G' mu' ρ' s' hG hI S => ?_
  · with_reducible refine ob_cl hI ?_; try clear hI; rintro ⟨m, rfl⟩ r1
    have hi' : i < vs.length := (Nat.lt_of_lt_of_le hi (Nat.le_of_eq lps))
    with_reducible refine ob_ecl (hps i v' vs[i] hP (by simp [hi'])) ?_; rintro qq rfl hq
    with_reducible refine ob_ecl (AV.at (i := i) (v := vs[i]) (by simp [hi'])) ?_; rintro ⟨k, its, t⟩ e1 hv
    with_reducible refine ob_ccl (hc _ (List.mem_of_getElem? e1)) ?_; intro h1 h2 h3
    with_reducible refine ob_eeeeccccl hv.open ?_; intro l' at2 xs n FX hl AX T lx
    refine ob_eeecccl FX ?_; try clear FX; intro x d o ex hx hd VX
    have FX : FV G vs[i] k l' at2 := ⟨x, d, o, ex, hx, hd, VX⟩
    refine assign_two O.h S (by wtm_at "yH") (by kernel_rfl!) (by kernel_rfl!) (by kernel_rfl!) fun s' S => ?_
    wtm_at "yA"
    have lt : (vs.take i).length ≤ 1000 := by simp; omega
    rw [ex]
    with_reducible refine call0 S (by wtm_at "yU") (c_is_vector (by wtm_at "yU") (O.mono (by decide)) (by wtm_at "yU") (x := x) (d := d) (by wtm_at "yU")) fun r G3 s' g3 S hp => ?_
    obtain rfl := hp
    rw [← ex] at *
    wtm_at "yA"
    intro pl
    with_reducible refine meth_list (by wtm_at "yH") PySem.F.slot_list_extend (by kernel_rfl!) ?_
    wtm_at "yA"
    with_reducible refine call0 S (by wtm_at "yU") (c_is_frame_no (by wtm_at "yU") (O.mono (by decide)) (by wtm_at "yU") (v := vs[i]) (by wtm_at "yU") h1.k h3) fun r G4 s' g4 S hp => ?_
    obtain rfl := hp
    wtm_at "yA"
    refine ⟨kept_builtin, ?_⟩
    refine m_extend S (by wtm_at "ymem") (S.has (by wtm_at "ymem")) (by simp; omega) fun n' s' hpu => ?_
    replace S := hpu _ (by wtm_at "yput")
    replace S := S.sub (List.sublist_cons_self ..)
    wtm_at "yA"
    have et : vs.take (i + 1) = vs.take i ++ [vs[i]] := by rw [List.take_add_one, List.getElem?_eq_getElem hi']; rfl
    exact Cont.go hQb rfl (g3.trans g4) (⟨⟨n', by rw [et]⟩, by wtm_at "yinv"⟩) S
  · with_reducible refine ob_cl hI ?_; try clear hI; rintro ⟨m, rfl⟩ r1
    with_reducible refine ob_eccl (S.freeze n0) ?_; intro G2 g2 e2 S
    rw [lps, List.take_length] at e2
    wtm_at "yA"
    with_reducible refine iter_list O.h S (by wtm_at "yU") fun it s' TI => ?_
    refine for_it TI (fun i G' mu' ρ' => mu' = [] ∧ ρ' "columns" = some (.ref ln)) ⟨rfl, by wtm_at "yinv"⟩
      (fun i v' G' mu' ρ' s' it E' hi hP hG hI S Qb hQb => ?_) fun G' mu' ρ' s' hG hI S => ?_
    · with_reducible refine ob_cl hI ?_; try clear hI; rintro rfl r1
      with_reducible refine ob_ecl (AV.at hP) ?_; rintro ⟨k, its, t⟩ e1 hv
      have hl1 : its.length = R := (hc _ (List.mem_of_getElem? e1)).1.l
      with_reducible refine ob_eeeeccccl hv.open ?_; intro l' at2 xs n FX hl AX T lx
      have hx0 : vs[(0 : Int).toNat]? = some vs[0] := by simp
      with_reducible refine ob_ecl (AV.at (i := 0) (v := vs[0]) (by simp)) ?_; rintro ⟨k0, its0, t0⟩ e0 hv0
      have hl0 : its0.length = R := (hc _ (List.mem_of_getElem? e0)).1.l
      with_reducible refine ob_eeeeccccl hv0.open ?_; intro l0 at0 xs0 n0' FX0 hl00 AX0 T0 lx0
      wtm_at "yA"
      refine ite_no (by simp; omega) ?_
      wtm_at "yA"
      exact Cont.go hQb rfl (Le.rfl) (⟨rfl, by wtm_at "yinv"⟩) S
    · with_reducible refine ob_cl hI ?_; try clear hI; rintro rfl r1
      wtm_at "yA"
      with_reducible refine iter_list O.h S (by wtm_at "yU") fun it s' TI => ?_
      refine comp_bk TI (Nat.le_trans (Nat.le_trans (Nat.le_of_eq lvs) hz) (by decide)) (by kernel_rfl!) (R := fun G i y => ∃ d, ds[i]? = some d ∧ VV w G y (keptV d)) (fun _ _ _ _ g ⟨d, e, h⟩ => ⟨d, e, h.up g⟩) (fun C sD Wc i v' G' ρ' s' it d0 E' hi hP hG hρ S Qe hQe => ?_) (by kernel_rfl!) (by kernel_rfl!) fun D5 G5 s' hD hG hL S => ?_
      · with_reducible refine ob_ecl (AV.at hP) ?_; rintro ⟨k, its, t⟩ e1 hv
        with_reducible refine ob_ccl (hc _ (List.mem_of_getElem? e1)) ?_; intro h1 h2 h3
        with_reducible refine ob_eeeeccccl hv.open ?_; intro l' at2 xs n FX hl AX T lx
        wtm_at "yA"
        refine call0 S (by wtm_at "yU") (c_kept_attrs (by wtm_at "yU") (O.mono (by decide)) (by wtm_at "yU") (by wtm_at "yU") (by wtm_at "yU") h2) fun r G3 s' g3 S T3 => ?_
        wtm_at "yA"
        have hn : r = .none ∨ ∃ a, r = .ref a := by
          cases hkt : keptA t with
          | none => rw [hkt] at T3; exact .inl T3
          | some kvs => rw [hkt] at T3; exact .inr ⟨_, T3.choose_spec.1⟩
        have PD : PG w _ := P.up (show Le G G2 by wtm_at "yL")
        refine ⟨kept_vec (by wtm_at "yU") S.le0, new_vec3 (vs := []) (by wtm_at "yU") (O.mono (by decide)) hn S fun x d o G4 s' g4 hx hd V S => ?_⟩
        refine ob_eccl (still1 (w := w) (its := its) (t := keptA t) S hx V ⟨xs, n, by wtm_at "yU", by wtm_at "yU"⟩ (T3.up g4) hd) ?_; intro G6 g6' VX S
        exact hQe _ _ _ ((g3.trans g4).trans g6') ⟨_, e1, VX⟩ S
      · refine ob_eeccl hL ?_; try clear hL; intro zs c5 h5 lz hz5
        have AZ : AllVV w G5 (ds.map keptV) zs := ⟨by simp [lz, lvs], fun i d v a b => by
          with_reducible refine ob_ecl (hz5 i v b) ?_; intro d' e h
          rw [List.getElem?_map, e] at a
          cases a; exact h⟩
        wtm_at "yA"
        with_reducible refine w_mullist S (by wtm_at "yH") (Int.natCast_nonneg _) (by simp; omega) (fun lq s' nq S => ?_) (cast_lt (Nat.le_trans (Nat.le_of_eq lz) (Nat.le_trans (Nat.le_of_eq lvs) hz)) (by decide))
        rw [Int.toNat_natCast, flat_rep] at S
        replace S := keep1 S
        with_reducible refine ob_eccl (S.freeze nq) ?_; intro G6 g6' e6 S
        wtm_at "yA"
        refine callF (by wtm_at "yU") S (by wtm_at "yU") (c_make_frame (cols := ds.map keptV) (rd := ⟨"integer", rowsOf R, none⟩) (by wtm_at "yU") (O.mono (by decide)) (by wtm_at "yU") ⟨zs, c5, by wtm_at "yU", by wtm_at "yU"⟩ (R := R) (by
          intro d hd
          with_reducible refine ob_ecl (List.mem_map.mp hd) ?_; rintro d' hd' rfl
          refine ob_ccl (hc d' hd') ?_; intro h1 h2 h3
          exact ⟨h1.l, keptA_small h2, keptV_nm h1.k⟩) (by simpa using hne) (by simpa using hz) (Nat.le_trans hR (by decide)) (names := List.replicate zs.length (.txt "")) ⟨_, _, e6, ⟨by simp, fun i it v h1 h2 => by
            rw [List.getElem?_replicate] at h1 h2
            split at h1
            · rw [if_pos ‹_›] at h2
              cases h1; cases h2; exact ⟨_, rfl⟩
            · cases h1⟩⟩ (by simp; omega) (.inl ⟨rfl, rfl⟩)) fun fv G9 s' h9 S VFr => ?_
        rw [List.map_map] at VFr
        wtm_at "yA"
        refine call0 S (by wtm_at "yU") (c_complete_rows (by wtm_at "yU") (O.mono (by decide)) (by wtm_at "yU") (v := fv) VFr (R := R) (by simp [rowsOf]) hR (fun d hd => by
          refine ob_ecl (List.mem_map.mp hd) ?_; rintro d' hd' rfl
          exact (hc d' hd').1.kept.kept) (by simpa using hz)) fun r G10 s' h10 S hp => ?_
        with_reducible refine ob_ecl hp ?_; try clear hp; rintro lf rfl If
        rw [← List.map_map, flags_kept, flags_kept] at If
        wtm_at "yA"
        with_reducible refine callU S (by wtm_at "yU") (d_logical (by wtm_at "yU") (O.mono (by decide)) (by wtm_at "yU") If (by simp [flags]; omega)) fun x d o l5 at5 G11 s' h11 S hd0 hx V I5 T5 => ?_
        wtm_at "yA"
        exact S.out (.refl _) ⟨l5, at5, ⟨x, d, o, rfl, hx, rfl, V⟩, I5, T5⟩))
end
end -- P19
section -- P31
open PySem.Calls PySem.Spec
/-- the row names that the law gives -/
noncomputable def rmsOf (n : Nat) : List It := (List.range n).map fun (i : Nat) => .txt (("r" : Str) ++ ((toString ((i : Int) * 3) : String) : Str))
theorem rms_txts {n : Nat} : txts (rmsOf n) := fun it h => by
  refine ob_ecl (List.mem_map.mp h) ?_; rintro i _ rfl
  exact ⟨_, rfl⟩
theorem rms_nodup : ∀ n : Nat, n ≤ 6 → (rmsOf n).Nodup
  | 0, _ => by decide +kernel
  | 1, _ => by decide +kernel
  | 2, _ => by decide +kernel
  | 3, _ => by decide +kernel
  | 4, _ => by decide +kernel
  | 5, _ => by decide +kernel
  | 6, _ => by decide +kernel
section
variable {w : World} {A : Around} {s : Shared} {G : Heap} {a : Addr}
theorem c_law (P : PG w G) (O : Ok A 16) (X : FnAt G a (stm 142)) {ls : Addr} (hs : Ints G ls) :
    Run w A s G [] a [.ref ls] fun G' W' r => r = .bool true := unus (by exact trivial : Us (by
  refine Run.enter X P.lim O [("script", .ref ls)] (by wtm_at "ybind") (by kernel_rfl!) fun fp s S O => ?_
  with_reducible refine ob_ecl (P.at "_law_draws" 130 (by kernel_rfl!)) ?_; intro a1 g1 X1
  with_reducible refine ob_ecl (P.at "_law_grid_right" 137 (by kernel_rfl!)) ?_; intro a2 g2 X2
  with_reducible refine ob_ecl (P.at "_law_columns" 138 (by kernel_rfl!)) ?_; intro a3 g3 X3
  with_reducible refine ob_ecl (P.at "b_complete_cases" 126 (by kernel_rfl!)) ?_; intro a4 g4 X4
  with_reducible refine ob_ecl (P.at "_law_take" 131 (by kernel_rfl!)) ?_; intro a5 g5 X5
  with_reducible refine ob_ecl (P.at "character" 44 (by kernel_rfl!)) ?_; intro a6 g6 X6
  with_reducible refine ob_ecl (P.at "_law_omit_right" 140 (by kernel_rfl!)) ?_; intro a7 g7 X7
  with_reducible refine ob_ecl (P.at "_law_vector_right" 141 (by kernel_rfl!)) ?_; intro a8 g8 X8
  with_reducible refine ob_ecl (P.at "_law_vector" 133 (by kernel_rfl!)) ?_; intro a9 g9 X9
  refine ob_eecl hs ?_; try clear hs; intro xs0 ns0 hls hxs0
  have hu := O.u
  wtm_at "ygo"
  wtm_at "yW"
  refine callD [] S (by wtm_at "yU") (c_draws (by wtm_at "yU") (O.mono (by decide)) (by wtm_at "yU") ⟨xs0, ns0, by wtm_at "yU", hxs0⟩) fun r G1 W1 s' h1 S hp => ?_
  with_reducible refine ob_ecl hp ?_; try clear hp; rintro st rfl D1
  replace S : St _ _ _ _ W1 _ _ _ := S
  wtm_at "yW"
  refine callD [] S (by wtm_at "yU") (c_grid_right (by wtm_at "yU") (O.mono (by decide)) (by wtm_at "yU") D1 ⟨xs0, ns0, by wtm_at "yU", hxs0⟩) fun r G2 W2 s' h2 S hp => ?_
  with_reducible refine ob_cl hp ?_; try clear hp; rintro D2 rfl
  replace S : St _ _ _ _ W2 _ _ _ := S
  wtm_at "yW"
  wtm_at "yat"
  refine callD [] S (by wtm_at "yU") (c_columns (by wtm_at "yU") (O.mono (by decide)) (by wtm_at "yU") D2 ⟨xs0, ns0, by wtm_at "yU", hxs0⟩) fun r G3 W3 s' h3 S hp => ?_
  with_reducible refine ob_ceeeeeecccccccl hp ?_; try clear hp; rintro D3 p3 size ts lc lf ds rfl hp3 hsz VC IF hC hd0 hd4
  replace S : St _ _ _ _ W3 _ _ _ := S
  refine assign_three O.h S (by wtm_at "yH") (by kernel_rfl!) (by kernel_rfl!) (by kernel_rfl!) (by kernel_rfl!) fun s' S => ?_
  wtm_at "yW"
  refine ob_eecl VC ?_; try clear VC; intro cvs nc hlc AC
  have lcv := AC.1
  with_reducible refine iter_list O.h S (by wtm_at "yU") fun itk s' TI => ?_
  refine comp_vk TI (Nat.le_trans (Nat.le_trans (Nat.le_of_eq lcv) hd4) (by decide)) (by kernel_rfl!) (R := fun G j y => ∃ q v, y = .ref q ∧ G.get? q = some (tup [.none, v]) ∧ cvs[j]? = some v) (fun _ _ _ _ g ⟨q, v, e1, e2, e3⟩ => ⟨q, v, e1, g _ _ e2, e3⟩) (fun C sD Wc i v' G' ρ' s' it d0 E' hi hP hG hρ S Qe hQe => ?_) fun D4 G4 s' hD4 hG4 hL4 S => ?_
  · wtm_at "yW"
    exact hQe _ _ _ (by wtm_at "yL") (⟨_, v', rfl, by wtm_at "yU", hP⟩) S
  refine ob_eeccl hL4 ?_; try clear hL4; intro as4 n4 hl4 la4 hc4
  have VA : ArgsN w G4 ds D4 := ⟨as4, n4, cvs, hl4, la4, fun i p v e1 e2 => by
    with_reducible refine ob_eeccl (hc4 i p e1) ?_; intro q v' e3 e4 e5
    rw [e2] at e5
    cases e5
    exact ⟨q, e3, e4⟩, AC.up hG4⟩
  have hne : ds ≠ [] := fun e => by rw [e] at hd0; exact absurd hd0 (by simp)
  wtm_at "yW"
  with_reducible refine callV S (by wtm_at "yU") (c_complete_cases (by wtm_at "yU") (O.mono (by decide)) (by wtm_at "yU") VA (R := size) (Nat.le_trans hsz (by decide)) (fun d hd => ⟨(hC d hd).col.1, (hC d hd).nonm.2.1, (hC d hd).col.2⟩) hne (Nat.le_trans hd4 (by decide))) fun fv G5 s' h5 S V5 => ?_
  with_reducible refine ob_eeeeccccl V5.open ?_; intro l5 a5' x5 n5 F5 hl5 A5 T5 lx5
  wtm_at "yW"
  refine ne_its (its := flags ds size) S ⟨x5, n5, by wtm_at "yU", by wtm_at "yU"⟩ (by wtm_at "yU") (by wtm_at "yo") ?_
  iterate 10 wtm_at "yb"
  wtm_at "yqs"
  refine wpAny_execs_cons (stmt_cut S (fun G' mu' ρ' => Draws st mu' ∧ ρ' "state" = some (.ref st) ∧ ρ' "script" = some (.ref ls) ∧ ρ' "columns" = some (.ref lc) ∧ ρ' "full" = some (.ref lf) ∧ (∃ t, ρ' "size" = some (.int (size : Nat) t)) ∧ ∃ lv rk ri, ρ' "law_labels" = some lv ∧ ((lv = .none ∧ rk = ("integer" : Str) ∧ ri = rowsOf size) ∨ (rk = ("character" : Str) ∧ VV w G' lv ⟨"character", ri, none⟩ ∧ txts ri ∧ ri.Nodup ∧ ri.length = size))) ?_ fun G6 W6 ρ6 s6 h6 hR S => ?_)
  · intro Qs hQs; wtm_at "yW"
    refine callD [] S (by wtm_at "yU") (c_take (by wtm_at "yU") (O.mono (by decide)) (by wtm_at "yU") D3 (by decide) (by decide)) fun r G7 W7 s' h7 S hp => ?_
    with_reducible refine ob_ceeccl hp ?_; try clear hp; rintro D7 d7 u7 rfl he0 he1
    replace S : St _ _ _ _ W7 _ _ _ := S
    wtm_at "yW"
    by_cases hd : d7 = 1
    · refine ite_yes (by simpa using hd) ?_
      wtm_at "yW"
      wtm_at "yrange"
      with_reducible refine comp_vk TI (Nat.le_trans hsz (by decide)) (by kernel_rfl!) (ItV.mono (f := fun (i : Nat) => .txt (("r" : Str) ++ ((toString ((i : Int) * 3) : String) : Str)))) (fun C sD Wc i v' G' ρ' s' it d E' hi hP hG hρ S Qe hQe => ?_) fun D8 G8 s' hD8 hG8 hL8 S => ?_
      · with_reducible refine ob_el hP ?_; try clear hP; rintro ti rfl
        have hnl : ((toString ((i : Int) * 3) : String) : Str).length ≤ 10 := PySem.W.KT.len_num (by wtm_at "yo") (by wtm_at "yo")
        wtm_at "yW"
        with_reducible refine w_mul S (IntMulOk.of_left (PySem.intBits_le_64 (neg_lt_cast (by decide)) (cast_lt (Nat.le_trans (Nat.le_of_lt hi) hsz) (by decide)))) fun tm s' S => ?_
        wtm_at "yW"
        refine ⟨kept_type, b_str S (by wtm_at "yo") (by wtm_at "yo") fun tS s' S => ?_⟩
        wtm_at "yW"
        refine w_addstr S (by rw [Str.length_append, sizeLine_eq]; have : ("r" : Str).length = 1 := by decide +kernel
                              omega) fun tV s' S => ?_
        exact hQe _ _ _ (Le.rfl) (⟨_, rfl⟩) S
      have IR : Its G8 (rmsOf size) D8 := hL8.its
      have lrm : (rmsOf size).length = size := by simp [rmsOf]
      wtm_at "yW"
      with_reducible refine callV S (by wtm_at "yU") (d_character (by wtm_at "yU") (O.mono (by decide)) (by wtm_at "yU") IR (Nat.le_trans (Nat.le_trans (Nat.le_of_eq lrm) hsz) (by decide))) fun lv G9 s' h9 S V9 => ?_
      wtm_at "yW"
      exact hQs _ _ _ _ (by wtm_at "yL") (⟨D7, by wtm_at "yinv", by wtm_at "yinv", by wtm_at "yinv", by wtm_at "yinv", by wtm_at "yinv", lv, _, rmsOf size, by wtm_at "yinv", .inr ⟨rfl, V9, rms_txts, rms_nodup size hsz, lrm⟩⟩) S
    · refine ite_no (by simpa using hd) ?_
      wtm_at "yW"
      exact hQs _ _ _ _ (by wtm_at "yL") (⟨D7, by wtm_at "yinv", by wtm_at "yinv", by wtm_at "yinv", by wtm_at "yinv", by wtm_at "yinv", .none, _, _, by wtm_at "yinv", .inl ⟨rfl, rfl, rfl⟩⟩) S
  with_reducible refine ob_cccccceeecl hR ?_; try clear hR; rintro D6 r1 r2 r3 r4 ⟨t5, r5⟩ lv rk ri r6 hr
  wtm_at "yW"
  refine call0 S (by wtm_at "yU") (c_omit_right (by wtm_at "yU") (O.mono (by decide)) (by wtm_at "yU") hsz (ds := ds) ⟨cvs, nc, by wtm_at "yU", by wtm_at "yU"⟩ (by wtm_at "yU") (fun d hd => (hC d hd).up (by wtm_at "yL")) hd0 hd4 hr) fun r G10 s' h10 S hp => ?_
  obtain rfl := hp
  wtm_at "yW"
  refine callD [] S (by wtm_at "yU") (c_take (by wtm_at "yU") (O.mono (by decide)) (by wtm_at "yU") D6 (by decide) (by decide)) fun r G11 W11 s' h11 S hp => ?_
  with_reducible refine ob_ceeccl hp ?_; try clear hp; rintro D11 d11 u11 rfl hf0 hf1
  replace S : St _ _ _ _ W11 _ _ _ := S
  obtain ⟨m, em, hm⟩ : ∃ m : Nat, d11 = (m : Int) ∧ m < 6 := ⟨d11.toNat, by wtm_at "yo", by wtm_at "yo"⟩
  subst em
  wtm_at "yW"
  refine callD [] S (by wtm_at "yU") (c_vector (by wtm_at "yU") (O.mono (by decide)) (by wtm_at "yU") D11 ⟨xs0, ns0, by wtm_at "yU", hxs0⟩ (Nat.le_trans (Nat.le_of_lt hm) (by decide))) fun r G12 W12 s' h12 S hp => ?_
  with_reducible refine ob_eeecccl hp ?_; try clear hp; rintro e W13 d rfl D13 NV13 L13
  replace S : St _ _ _ _ (e :: W13) _ _ _ := S
  wtm_at "yW"
  refine callD [] S (by wtm_at "yU") (c_vector_right (by wtm_at "yU") (O.mono (by decide)) (by wtm_at "yU") D13 NV13 L13 (Nat.le_trans (Nat.le_of_lt hm) (by decide))) fun r G14 W14 s' h14 S hp => ?_
  obtain rfl := hp
  replace S : St _ _ _ _ W14 _ _ _ := S
  wtm_at "yW"
  exact S.out (.refl _) rfl))
end
end -- P31
section -- J1
open PySem.Calls
theorem ns_same {h : Heap} {a : Addr} {m m' : Str → Option Value} (x : h.Ns a m) (y : h.Ns a m') : m = m' := by
  refine ob_eeecccl x ?_; try clear x; intro o es ep e1 d1 _ f1
  refine ob_eeecccl y ?_; try clear y; intro o' es' ep' e2 d2 _ f2
  rw [e1] at e2
  cases e2
  rw [d1] at d2
  cases d2
  funext n
  rw [← f1, f2]
theorem blt_boot : ∀ n v, (n, v) ∈ bltV → n ≠ "__name__" ∧ n ∈ bltTab ∧ bootBuiltins n = some v := by
  intro n v h
  simp only [bltV, List.mem_cons, Prod.mk.injEq, List.not_mem_nil, or_false] at h
  rcases h with ⟨rfl, rfl⟩ | ⟨rfl, rfl⟩ | ⟨rfl, rfl⟩ | ⟨rfl, rfl⟩ | ⟨rfl, rfl⟩ | ⟨rfl, rfl⟩ | ⟨rfl, rfl⟩ | ⟨rfl, rfl⟩ <;>
    exact ⟨by decide +kernel, List.contains_iff_mem.mp (by kernel_rfl!), by kernel_rfl!⟩
theorem pg_of {w : World} {s₀ : Shared} {mg mb : Str → Option Value} {h : Heap} (G : Ground q0 loose0 [] (fun _ _ => True) w s₀ mg mb h) (Y : YP w h) : PG w h ∧ ∀ a, mg "law" = some (.ref a) → FnAt h a (stm 142) := by
  refine ob_eccccccccl Y ?_; try clear Y; intro mg' hn hf hm h1 h2 h3 h4 h5 h6
  obtain rfl := ns_same G.T.g hn
  have T := G.T
  refine ⟨⟨fun n i hi => ?_, hm, ⟨mg, hn, .inl h1⟩, ⟨mg, hn, .inl h2⟩, ?_, fun n v hv => ?_, h5, T.nolimit, h6⟩, fun a e => ?_⟩
  · refine ob_ecl (hf n i hi) ?_; intro a e X
    exact ⟨a, ⟨mg, hn, .inl e⟩, X⟩
  · refine ob_el h3 ?_; try clear h3; intro t e
    exact ⟨t, mg, hn, .inl e⟩
  · refine ob_ccl (blt_boot n v hv) ?_; intro b1 b2 b3
    exact ⟨mg, hn, .inr ⟨h4 n b2, mb, T.b, (T.builtins n b1).trans b3⟩⟩
  · refine ob_ecl (hf "law" 142 (List.contains_iff_mem.mp (by kernel_rfl!))) ?_; intro a' e' X
    rw [e] at e'
    cases e'
    exact X
/-- the script -/
theorem ints_of {w : World} {h : Heap} : ∀ {vs : List Value} {xs : List WData}, WellAll w.params h vs xs → WShape.hasItems [] xs .int = true → (∀ v ∈ vs, ∃ i t, v = .int i t) ∧ vs.length = xs.length
  | [], [], _, _ => ⟨by simp, rfl⟩
  | v :: vs, x :: xs, .cons a b, h => by
    have h' : WShape.has [] x .int = true ∧ WShape.hasItems [] xs .int = true := by
      rw [WShape.hasItems] at h; exact Bool.and_eq_true_iff.mp h
    obtain ⟨i, rfl⟩ := hasW_int h'.1
    refine ob_cl (ints_of b h'.2) ?_; intro h1 h2
    refine ⟨fun v' hv => ?_, by simp [h2]⟩
    rcases List.mem_cons.mp hv with rfl | hv
    · cases a with
      | int i t => exact ⟨i, t, rfl⟩
    · exact h1 v' hv
theorem caller_ok : Ok callerA 16 := ⟨rfl, by decide +kernel, by decide +kernel⟩
end -- J1
section -- J2
open PySem.Calls
theorem pre_of {args : List WData} (h : rl.row.toRowW.claim.pre args = true) : ∃ xs, args = [.list xs] ∧ WShape.hasItems [] xs .int = true ∧ xs.length ≤ 63 := by
  have h12 := pre_splitW h
  obtain ⟨d, r, rfl, h3, h4⟩ := hasAllW_cons (e := .list .int) (es := []) h12.1
  obtain rfl := hasAllW_nil h4
  obtain ⟨xs, rfl, hx⟩ := hasW_list h3
  refine ⟨xs, rfl, hx, ?_⟩
  have h2 : (WTm.and (.not (.lt (.lit (.int 63)) (.len (.arg 0)))) (.lit (.bool true))).holds [] { args := [.list xs] } = true := h12.2
  have c2 := condW_of (holds_andW h2).1 (by wtm_val)
  have c3 : ¬ ((63 : Int) < (xs.length : Int)) := by simpa using c2
  omega
theorem walk_ok {d : DefRec} {kwd : List (Str × Expr)} (hd : d.name = "law") : WalkO q0 loose0 (fun _ _ => True) YP rl.row.toRowW d kwd fun f vs => PySem.call f vs := by
  intro w s₀ s₁ mg mb G Y a o pm cd doc dV kV _ _ _ _ hmg hg args vals as hpre _ _ hwl _
  rw [hd] at hmg
  refine ob_cl (pg_of G Y) ?_; intro P hX
  have X := hX a hmg
  refine ob_eccl (pre_of hpre) ?_; rintro xs rfl hx hl
  cases hwl with
  | cons hv hr =>
    cases hr with
    | nil =>
      cases hv with
      | list ho hw =>
        rename_i la vs _
        refine ob_cl (ints_of hw hx) ?_; intro h1 h2
        have hs : Ints s₁.heap la := ⟨vs, 0, ho, h1, by omega⟩
        refine enter_call (codeAny_mono (c_law P caller_ok X hs Le.rfl (by simp) (by simp)) fun r s' hr => ?_)
        refine ob_eeeccl hr ?_; try clear hr; rintro v G' W' rfl T rfl
        exact GoodW.toG ⟨.inl ⟨.bool true, .bool true, [], rfl, fun cls => rfl, .bool true, by wrow_post, fun _ => ⟨.nil, by simp⟩⟩, fun b o e => T.keep b o e (by simp), T.os, T.gens.trans hg⟩
end -- J2
section -- J3
set_option maxRecDepth 1000000
set_option maxHeartbeats 0
open PySem.Calls
theorem row_holds (said : rl.row.wellSaid = true) : rl.row.Holds :=
  holds_open (r := rl.row) (q := q0) (loose := loose0) (Xt := fun _ => true) (XP := fun _ _ => True) (Yf := Yf) (Ya := Ya) (YP := YP) (d := lawD) (kwd := lawKw) (N := N0) left_ok (fun _ _ e => yp_of e) (fun _ _ _ y k => y.up k)
    (fun _ _ => trivial) (fun _ _ _ _ _ => trivial) law_def law_the law_kw (fun s _ => law_rec s) rfl said law_ok law_bare law_prom (walk_ok law_name)
end -- J3
end Mine
theorem PySem.Challenge.cw_nz0538_01_holds : PySem.Challenge.rw_nz0538_01.Holds :=
  holds_law Mine.said_ok fun said => Mine.row_holds said
