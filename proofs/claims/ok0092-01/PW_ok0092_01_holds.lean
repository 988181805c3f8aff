import PyProof.Rows.All
import PyProof.AttrMiss
import PyProof.TupleKey
import PyProof.SetNew
import PyProof.Rows.SetFrom
import KE.KDictOf
import KE.KSortTup
import Wide.All
import OpenK.AllK
import Wide.FinOn
import Lean
import PySem.Challenge.RW_ok0092_01
open PySem PySem.W PyProof.Rows PySem.Calls
set_option Elab.async false
set_option maxRecDepth 1000000
set_option maxHeartbeats 0
set_option linter.unusedVariables false
set_option linter.unusedSimpArgs false
set_option compiler.extract_closed false
set_option pp.deepTerms false
set_option pp.proofs false
set_option pp.maxSteps 3000
set_option genSizeOf false
set_option genSizeOfSpec false
set_option genInjectivity false
namespace Mine
open PySem.SeqAt (shaped)
section
set_option tactic.hygienic false
theorem x0_1 {p0 p1 : Prop} {G : Prop} (h : p0 ∧ p1) (k : p0 → p1 → G) : G := h.elim fun h0 h => k h0 h
theorem x0_2 {p0 p1 p2 : Prop} {G : Prop} (h : p0 ∧ p1 ∧ p2) (k : p0 → p1 → p2 → G) : G := h.elim fun h0 h => h.elim fun h1 h => k h0 h1 h
theorem x0_3 {p0 p1 p2 p3 : Prop} {G : Prop} (h : p0 ∧ p1 ∧ p2 ∧ p3) (k : p0 → p1 → p2 → p3 → G) : G := h.elim fun h0 h => h.elim fun h1 h => h.elim fun h2 h => k h0 h1 h2 h
theorem x0_4 {p0 p1 p2 p3 p4 : Prop} {G : Prop} (h : p0 ∧ p1 ∧ p2 ∧ p3 ∧ p4) (k : p0 → p1 → p2 → p3 → p4 → G) : G := h.elim fun h0 h => h.elim fun h1 h => h.elim fun h2 h => h.elim fun h3 h => k h0 h1 h2 h3 h
theorem x0_5 {p0 p1 p2 p3 p4 p5 : Prop} {G : Prop} (h : p0 ∧ p1 ∧ p2 ∧ p3 ∧ p4 ∧ p5) (k : p0 → p1 → p2 → p3 → p4 → p5 → G) : G := h.elim fun h0 h => h.elim fun h1 h => h.elim fun h2 h => h.elim fun h3 h => h.elim fun h4 h => k h0 h1 h2 h3 h4 h
theorem x0_6 {p0 p1 p2 p3 p4 p5 p6 : Prop} {G : Prop} (h : p0 ∧ p1 ∧ p2 ∧ p3 ∧ p4 ∧ p5 ∧ p6) (k : p0 → p1 → p2 → p3 → p4 → p5 → p6 → G) : G := h.elim fun h0 h => h.elim fun h1 h => h.elim fun h2 h => h.elim fun h3 h => h.elim fun h4 h => h.elim fun h5 h => k h0 h1 h2 h3 h4 h5 h
theorem x1_0.{u0} {α : Sort u0} {p0 : α → Prop} {G : Prop} (h : ∃ x0, p0 x0) (k : ∀ x0, p0 x0 → G) : G := h.elim fun x0 h => k x0 h
theorem x1_1.{u0} {α : Sort u0} {p0 p1 : α → Prop} {G : Prop} (h : ∃ x0, p0 x0 ∧ p1 x0) (k : ∀ x0, p0 x0 → p1 x0 → G) : G := h.elim fun x0 h => h.elim fun h0 h => k x0 h0 h
theorem x1_2.{u0} {α : Sort u0} {p0 p1 p2 : α → Prop} {G : Prop} (h : ∃ x0, p0 x0 ∧ p1 x0 ∧ p2 x0) (k : ∀ x0, p0 x0 → p1 x0 → p2 x0 → G) : G := h.elim fun x0 h => h.elim fun h0 h => h.elim fun h1 h => k x0 h0 h1 h
theorem x1_3.{u0} {α : Sort u0} {p0 p1 p2 p3 : α → Prop} {G : Prop} (h : ∃ x0, p0 x0 ∧ p1 x0 ∧ p2 x0 ∧ p3 x0) (k : ∀ x0, p0 x0 → p1 x0 → p2 x0 → p3 x0 → G) : G := h.elim fun x0 h => h.elim fun h0 h => h.elim fun h1 h => h.elim fun h2 h => k x0 h0 h1 h2 h
theorem x1_6.{u0} {α : Sort u0} {p0 p1 p2 p3 p4 p5 p6 : α → Prop} {G : Prop} (h : ∃ x0, p0 x0 ∧ p1 x0 ∧ p2 x0 ∧ p3 x0 ∧ p4 x0 ∧ p5 x0 ∧ p6 x0) (k : ∀ x0, p0 x0 → p1 x0 → p2 x0 → p3 x0 → p4 x0 → p5 x0 → p6 x0 → G) : G := h.elim fun x0 h => h.elim fun h0 h => h.elim fun h1 h => h.elim fun h2 h => h.elim fun h3 h => h.elim fun h4 h => h.elim fun h5 h => k x0 h0 h1 h2 h3 h4 h5 h
theorem x1_8.{u0} {α : Sort u0} {p0 p1 p2 p3 p4 p5 p6 p7 p8 : α → Prop} {G : Prop} (h : ∃ x0, p0 x0 ∧ p1 x0 ∧ p2 x0 ∧ p3 x0 ∧ p4 x0 ∧ p5 x0 ∧ p6 x0 ∧ p7 x0 ∧ p8 x0) (k : ∀ x0, p0 x0 → p1 x0 → p2 x0 → p3 x0 → p4 x0 → p5 x0 → p6 x0 → p7 x0 → p8 x0 → G) : G := h.elim fun x0 h => h.elim fun h0 h => h.elim fun h1 h => h.elim fun h2 h => h.elim fun h3 h => h.elim fun h4 h => h.elim fun h5 h => h.elim fun h6 h => h.elim fun h7 h => k x0 h0 h1 h2 h3 h4 h5 h6 h7 h
theorem x1_9.{u0} {α : Sort u0} {p0 p1 p2 p3 p4 p5 p6 p7 p8 p9 : α → Prop} {G : Prop} (h : ∃ x0, p0 x0 ∧ p1 x0 ∧ p2 x0 ∧ p3 x0 ∧ p4 x0 ∧ p5 x0 ∧ p6 x0 ∧ p7 x0 ∧ p8 x0 ∧ p9 x0) (k : ∀ x0, p0 x0 → p1 x0 → p2 x0 → p3 x0 → p4 x0 → p5 x0 → p6 x0 → p7 x0 → p8 x0 → p9 x0 → G) : G := h.elim fun x0 h => h.elim fun h0 h => h.elim fun h1 h => h.elim fun h2 h => h.elim fun h3 h => h.elim fun h4 h => h.elim fun h5 h => h.elim fun h6 h => h.elim fun h7 h => h.elim fun h8 h => k x0 h0 h1 h2 h3 h4 h5 h6 h7 h8 h
theorem x1_12.{u0} {α : Sort u0} {p0 p1 p2 p3 p4 p5 p6 p7 p8 p9 p10 p11 p12 : α → Prop} {G : Prop} (h : ∃ x0, p0 x0 ∧ p1 x0 ∧ p2 x0 ∧ p3 x0 ∧ p4 x0 ∧ p5 x0 ∧ p6 x0 ∧ p7 x0 ∧ p8 x0 ∧ p9 x0 ∧ p10 x0 ∧ p11 x0 ∧ p12 x0) (k : ∀ x0, p0 x0 → p1 x0 → p2 x0 → p3 x0 → p4 x0 → p5 x0 → p6 x0 → p7 x0 → p8 x0 → p9 x0 → p10 x0 → p11 x0 → p12 x0 → G) : G := h.elim fun x0 h => h.elim fun h0 h => h.elim fun h1 h => h.elim fun h2 h => h.elim fun h3 h => h.elim fun h4 h => h.elim fun h5 h => h.elim fun h6 h => h.elim fun h7 h => h.elim fun h8 h => h.elim fun h9 h => h.elim fun h10 h => h.elim fun h11 h => k x0 h0 h1 h2 h3 h4 h5 h6 h7 h8 h9 h10 h11 h
theorem x2_0.{u0, u1} {α : Sort u0} {β : Sort u1} {p0 : α → β → Prop} {G : Prop} (h : ∃ x0 x1, p0 x0 x1) (k : ∀ x0 x1, p0 x0 x1 → G) : G := h.elim fun x0 h => h.elim fun x1 h => k x0 x1 h
theorem x2_1.{u0, u1} {α : Sort u0} {β : Sort u1} {p0 p1 : α → β → Prop} {G : Prop} (h : ∃ x0 x1, p0 x0 x1 ∧ p1 x0 x1) (k : ∀ x0 x1, p0 x0 x1 → p1 x0 x1 → G) : G := h.elim fun x0 h => h.elim fun x1 h => h.elim fun h0 h => k x0 x1 h0 h
theorem x2_2.{u0, u1} {α : Sort u0} {β : Sort u1} {p0 p1 p2 : α → β → Prop} {G : Prop} (h : ∃ x0 x1, p0 x0 x1 ∧ p1 x0 x1 ∧ p2 x0 x1) (k : ∀ x0 x1, p0 x0 x1 → p1 x0 x1 → p2 x0 x1 → G) : G := h.elim fun x0 h => h.elim fun x1 h => h.elim fun h0 h => h.elim fun h1 h => k x0 x1 h0 h1 h
theorem x2_3.{u0, u1} {α : Sort u0} {β : Sort u1} {p0 p1 p2 p3 : α → β → Prop} {G : Prop} (h : ∃ x0 x1, p0 x0 x1 ∧ p1 x0 x1 ∧ p2 x0 x1 ∧ p3 x0 x1) (k : ∀ x0 x1, p0 x0 x1 → p1 x0 x1 → p2 x0 x1 → p3 x0 x1 → G) : G := h.elim fun x0 h => h.elim fun x1 h => h.elim fun h0 h => h.elim fun h1 h => h.elim fun h2 h => k x0 x1 h0 h1 h2 h
theorem x2_4.{u0, u1} {α : Sort u0} {β : Sort u1} {p0 p1 p2 p3 p4 : α → β → Prop} {G : Prop} (h : ∃ x0 x1, p0 x0 x1 ∧ p1 x0 x1 ∧ p2 x0 x1 ∧ p3 x0 x1 ∧ p4 x0 x1) (k : ∀ x0 x1, p0 x0 x1 → p1 x0 x1 → p2 x0 x1 → p3 x0 x1 → p4 x0 x1 → G) : G := h.elim fun x0 h => h.elim fun x1 h => h.elim fun h0 h => h.elim fun h1 h => h.elim fun h2 h => h.elim fun h3 h => k x0 x1 h0 h1 h2 h3 h
theorem x2_8.{u0, u1} {α : Sort u0} {β : Sort u1} {p0 p1 p2 p3 p4 p5 p6 p7 p8 : α → β → Prop} {G : Prop} (h : ∃ x0 x1, p0 x0 x1 ∧ p1 x0 x1 ∧ p2 x0 x1 ∧ p3 x0 x1 ∧ p4 x0 x1 ∧ p5 x0 x1 ∧ p6 x0 x1 ∧ p7 x0 x1 ∧ p8 x0 x1) (k : ∀ x0 x1, p0 x0 x1 → p1 x0 x1 → p2 x0 x1 → p3 x0 x1 → p4 x0 x1 → p5 x0 x1 → p6 x0 x1 → p7 x0 x1 → p8 x0 x1 → G) : G := h.elim fun x0 h => h.elim fun x1 h => h.elim fun h0 h => h.elim fun h1 h => h.elim fun h2 h => h.elim fun h3 h => h.elim fun h4 h => h.elim fun h5 h => h.elim fun h6 h => h.elim fun h7 h => k x0 x1 h0 h1 h2 h3 h4 h5 h6 h7 h
theorem x2_13.{u0, u1} {α : Sort u0} {β : Sort u1} {p0 p1 p2 p3 p4 p5 p6 p7 p8 p9 p10 p11 p12 p13 : α → β → Prop} {G : Prop} (h : ∃ x0 x1, p0 x0 x1 ∧ p1 x0 x1 ∧ p2 x0 x1 ∧ p3 x0 x1 ∧ p4 x0 x1 ∧ p5 x0 x1 ∧ p6 x0 x1 ∧ p7 x0 x1 ∧ p8 x0 x1 ∧ p9 x0 x1 ∧ p10 x0 x1 ∧ p11 x0 x1 ∧ p12 x0 x1 ∧ p13 x0 x1) (k : ∀ x0 x1, p0 x0 x1 → p1 x0 x1 → p2 x0 x1 → p3 x0 x1 → p4 x0 x1 → p5 x0 x1 → p6 x0 x1 → p7 x0 x1 → p8 x0 x1 → p9 x0 x1 → p10 x0 x1 → p11 x0 x1 → p12 x0 x1 → p13 x0 x1 → G) : G := h.elim fun x0 h => h.elim fun x1 h => h.elim fun h0 h => h.elim fun h1 h => h.elim fun h2 h => h.elim fun h3 h => h.elim fun h4 h => h.elim fun h5 h => h.elim fun h6 h => h.elim fun h7 h => h.elim fun h8 h => h.elim fun h9 h => h.elim fun h10 h => h.elim fun h11 h => h.elim fun h12 h => k x0 x1 h0 h1 h2 h3 h4 h5 h6 h7 h8 h9 h10 h11 h12 h
theorem x3_0.{u0, u1, u2} {α : Sort u0} {β : Sort u1} {γ : Sort u2} {p0 : α → β → γ → Prop} {G : Prop} (h : ∃ x0 x1 x2, p0 x0 x1 x2) (k : ∀ x0 x1 x2, p0 x0 x1 x2 → G) : G := h.elim fun x0 h => h.elim fun x1 h => h.elim fun x2 h => k x0 x1 x2 h
theorem x3_1.{u0, u1, u2} {α : Sort u0} {β : Sort u1} {γ : Sort u2} {p0 p1 : α → β → γ → Prop} {G : Prop} (h : ∃ x0 x1 x2, p0 x0 x1 x2 ∧ p1 x0 x1 x2) (k : ∀ x0 x1 x2, p0 x0 x1 x2 → p1 x0 x1 x2 → G) : G := h.elim fun x0 h => h.elim fun x1 h => h.elim fun x2 h => h.elim fun h0 h => k x0 x1 x2 h0 h
theorem x3_2.{u0, u1, u2} {α : Sort u0} {β : Sort u1} {γ : Sort u2} {p0 p1 p2 : α → β → γ → Prop} {G : Prop} (h : ∃ x0 x1 x2, p0 x0 x1 x2 ∧ p1 x0 x1 x2 ∧ p2 x0 x1 x2) (k : ∀ x0 x1 x2, p0 x0 x1 x2 → p1 x0 x1 x2 → p2 x0 x1 x2 → G) : G := h.elim fun x0 h => h.elim fun x1 h => h.elim fun x2 h => h.elim fun h0 h => h.elim fun h1 h => k x0 x1 x2 h0 h1 h
theorem x3_3.{u0, u1, u2} {α : Sort u0} {β : Sort u1} {γ : Sort u2} {p0 p1 p2 p3 : α → β → γ → Prop} {G : Prop} (h : ∃ x0 x1 x2, p0 x0 x1 x2 ∧ p1 x0 x1 x2 ∧ p2 x0 x1 x2 ∧ p3 x0 x1 x2) (k : ∀ x0 x1 x2, p0 x0 x1 x2 → p1 x0 x1 x2 → p2 x0 x1 x2 → p3 x0 x1 x2 → G) : G := h.elim fun x0 h => h.elim fun x1 h => h.elim fun x2 h => h.elim fun h0 h => h.elim fun h1 h => h.elim fun h2 h => k x0 x1 x2 h0 h1 h2 h
theorem x3_4.{u0, u1, u2} {α : Sort u0} {β : Sort u1} {γ : Sort u2} {p0 p1 p2 p3 p4 : α → β → γ → Prop} {G : Prop} (h : ∃ x0 x1 x2, p0 x0 x1 x2 ∧ p1 x0 x1 x2 ∧ p2 x0 x1 x2 ∧ p3 x0 x1 x2 ∧ p4 x0 x1 x2) (k : ∀ x0 x1 x2, p0 x0 x1 x2 → p1 x0 x1 x2 → p2 x0 x1 x2 → p3 x0 x1 x2 → p4 x0 x1 x2 → G) : G := h.elim fun x0 h => h.elim fun x1 h => h.elim fun x2 h => h.elim fun h0 h => h.elim fun h1 h => h.elim fun h2 h => h.elim fun h3 h => k x0 x1 x2 h0 h1 h2 h3 h
theorem x3_11.{u0, u1, u2} {α : Sort u0} {β : Sort u1} {γ : Sort u2} {p0 p1 p2 p3 p4 p5 p6 p7 p8 p9 p10 p11 : α → β → γ → Prop} {G : Prop} (h : ∃ x0 x1 x2, p0 x0 x1 x2 ∧ p1 x0 x1 x2 ∧ p2 x0 x1 x2 ∧ p3 x0 x1 x2 ∧ p4 x0 x1 x2 ∧ p5 x0 x1 x2 ∧ p6 x0 x1 x2 ∧ p7 x0 x1 x2 ∧ p8 x0 x1 x2 ∧ p9 x0 x1 x2 ∧ p10 x0 x1 x2 ∧ p11 x0 x1 x2) (k : ∀ x0 x1 x2, p0 x0 x1 x2 → p1 x0 x1 x2 → p2 x0 x1 x2 → p3 x0 x1 x2 → p4 x0 x1 x2 → p5 x0 x1 x2 → p6 x0 x1 x2 → p7 x0 x1 x2 → p8 x0 x1 x2 → p9 x0 x1 x2 → p10 x0 x1 x2 → p11 x0 x1 x2 → G) : G := h.elim fun x0 h => h.elim fun x1 h => h.elim fun x2 h => h.elim fun h0 h => h.elim fun h1 h => h.elim fun h2 h => h.elim fun h3 h => h.elim fun h4 h => h.elim fun h5 h => h.elim fun h6 h => h.elim fun h7 h => h.elim fun h8 h => h.elim fun h9 h => h.elim fun h10 h => k x0 x1 x2 h0 h1 h2 h3 h4 h5 h6 h7 h8 h9 h10 h
theorem x3_12.{u0, u1, u2} {α : Sort u0} {β : Sort u1} {γ : Sort u2} {p0 p1 p2 p3 p4 p5 p6 p7 p8 p9 p10 p11 p12 : α → β → γ → Prop} {G : Prop} (h : ∃ x0 x1 x2, p0 x0 x1 x2 ∧ p1 x0 x1 x2 ∧ p2 x0 x1 x2 ∧ p3 x0 x1 x2 ∧ p4 x0 x1 x2 ∧ p5 x0 x1 x2 ∧ p6 x0 x1 x2 ∧ p7 x0 x1 x2 ∧ p8 x0 x1 x2 ∧ p9 x0 x1 x2 ∧ p10 x0 x1 x2 ∧ p11 x0 x1 x2 ∧ p12 x0 x1 x2) (k : ∀ x0 x1 x2, p0 x0 x1 x2 → p1 x0 x1 x2 → p2 x0 x1 x2 → p3 x0 x1 x2 → p4 x0 x1 x2 → p5 x0 x1 x2 → p6 x0 x1 x2 → p7 x0 x1 x2 → p8 x0 x1 x2 → p9 x0 x1 x2 → p10 x0 x1 x2 → p11 x0 x1 x2 → p12 x0 x1 x2 → G) : G := h.elim fun x0 h => h.elim fun x1 h => h.elim fun x2 h => h.elim fun h0 h => h.elim fun h1 h => h.elim fun h2 h => h.elim fun h3 h => h.elim fun h4 h => h.elim fun h5 h => h.elim fun h6 h => h.elim fun h7 h => h.elim fun h8 h => h.elim fun h9 h => h.elim fun h10 h => h.elim fun h11 h => k x0 x1 x2 h0 h1 h2 h3 h4 h5 h6 h7 h8 h9 h10 h11 h
theorem x4_0.{u0, u1, u2, u3} {α : Sort u0} {β : Sort u1} {γ : Sort u2} {δ : Sort u3} {p0 : α → β → γ → δ → Prop} {G : Prop} (h : ∃ x0 x1 x2 x3, p0 x0 x1 x2 x3) (k : ∀ x0 x1 x2 x3, p0 x0 x1 x2 x3 → G) : G := h.elim fun x0 h => h.elim fun x1 h => h.elim fun x2 h => h.elim fun x3 h => k x0 x1 x2 x3 h
theorem x4_1.{u0, u1, u2, u3} {α : Sort u0} {β : Sort u1} {γ : Sort u2} {δ : Sort u3} {p0 p1 : α → β → γ → δ → Prop} {G : Prop} (h : ∃ x0 x1 x2 x3, p0 x0 x1 x2 x3 ∧ p1 x0 x1 x2 x3) (k : ∀ x0 x1 x2 x3, p0 x0 x1 x2 x3 → p1 x0 x1 x2 x3 → G) : G := h.elim fun x0 h => h.elim fun x1 h => h.elim fun x2 h => h.elim fun x3 h => h.elim fun h0 h => k x0 x1 x2 x3 h0 h
theorem x4_4.{u0, u1, u2, u3} {α : Sort u0} {β : Sort u1} {γ : Sort u2} {δ : Sort u3} {p0 p1 p2 p3 p4 : α → β → γ → δ → Prop} {G : Prop} (h : ∃ x0 x1 x2 x3, p0 x0 x1 x2 x3 ∧ p1 x0 x1 x2 x3 ∧ p2 x0 x1 x2 x3 ∧ p3 x0 x1 x2 x3 ∧ p4 x0 x1 x2 x3) (k : ∀ x0 x1 x2 x3, p0 x0 x1 x2 x3 → p1 x0 x1 x2 x3 → p2 x0 x1 x2 x3 → p3 x0 x1 x2 x3 → p4 x0 x1 x2 x3 → G) : G := h.elim fun x0 h => h.elim fun x1 h => h.elim fun x2 h => h.elim fun x3 h => h.elim fun h0 h => h.elim fun h1 h => h.elim fun h2 h => h.elim fun h3 h => k x0 x1 x2 x3 h0 h1 h2 h3 h
theorem x4_5.{u0, u1, u2, u3} {α : Sort u0} {β : Sort u1} {γ : Sort u2} {δ : Sort u3} {p0 p1 p2 p3 p4 p5 : α → β → γ → δ → Prop} {G : Prop} (h : ∃ x0 x1 x2 x3, p0 x0 x1 x2 x3 ∧ p1 x0 x1 x2 x3 ∧ p2 x0 x1 x2 x3 ∧ p3 x0 x1 x2 x3 ∧ p4 x0 x1 x2 x3 ∧ p5 x0 x1 x2 x3) (k : ∀ x0 x1 x2 x3, p0 x0 x1 x2 x3 → p1 x0 x1 x2 x3 → p2 x0 x1 x2 x3 → p3 x0 x1 x2 x3 → p4 x0 x1 x2 x3 → p5 x0 x1 x2 x3 → G) : G := h.elim fun x0 h => h.elim fun x1 h => h.elim fun x2 h => h.elim fun x3 h => h.elim fun h0 h => h.elim fun h1 h => h.elim fun h2 h => h.elim fun h3 h => h.elim fun h4 h => k x0 x1 x2 x3 h0 h1 h2 h3 h4 h
theorem x4_6.{u0, u1, u2, u3} {α : Sort u0} {β : Sort u1} {γ : Sort u2} {δ : Sort u3} {p0 p1 p2 p3 p4 p5 p6 : α → β → γ → δ → Prop} {G : Prop} (h : ∃ x0 x1 x2 x3, p0 x0 x1 x2 x3 ∧ p1 x0 x1 x2 x3 ∧ p2 x0 x1 x2 x3 ∧ p3 x0 x1 x2 x3 ∧ p4 x0 x1 x2 x3 ∧ p5 x0 x1 x2 x3 ∧ p6 x0 x1 x2 x3) (k : ∀ x0 x1 x2 x3, p0 x0 x1 x2 x3 → p1 x0 x1 x2 x3 → p2 x0 x1 x2 x3 → p3 x0 x1 x2 x3 → p4 x0 x1 x2 x3 → p5 x0 x1 x2 x3 → p6 x0 x1 x2 x3 → G) : G := h.elim fun x0 h => h.elim fun x1 h => h.elim fun x2 h => h.elim fun x3 h => h.elim fun h0 h => h.elim fun h1 h => h.elim fun h2 h => h.elim fun h3 h => h.elim fun h4 h => h.elim fun h5 h => k x0 x1 x2 x3 h0 h1 h2 h3 h4 h5 h
theorem x5_0.{u0, u1, u2, u3, u4} {α : Sort u0} {β : Sort u1} {γ : Sort u2} {δ : Sort u3} {ε : Sort u4} {p0 : α → β → γ → δ → ε → Prop} {G : Prop} (h : ∃ x0 x1 x2 x3 x4, p0 x0 x1 x2 x3 x4) (k : ∀ x0 x1 x2 x3 x4, p0 x0 x1 x2 x3 x4 → G) : G := h.elim fun x0 h => h.elim fun x1 h => h.elim fun x2 h => h.elim fun x3 h => h.elim fun x4 h => k x0 x1 x2 x3 x4 h
theorem x5_1.{u0, u1, u2, u3, u4} {α : Sort u0} {β : Sort u1} {γ : Sort u2} {δ : Sort u3} {ε : Sort u4} {p0 p1 : α → β → γ → δ → ε → Prop} {G : Prop} (h : ∃ x0 x1 x2 x3 x4, p0 x0 x1 x2 x3 x4 ∧ p1 x0 x1 x2 x3 x4) (k : ∀ x0 x1 x2 x3 x4, p0 x0 x1 x2 x3 x4 → p1 x0 x1 x2 x3 x4 → G) : G := h.elim fun x0 h => h.elim fun x1 h => h.elim fun x2 h => h.elim fun x3 h => h.elim fun x4 h => h.elim fun h0 h => k x0 x1 x2 x3 x4 h0 h
theorem x5_2.{u0, u1, u2, u3, u4} {α : Sort u0} {β : Sort u1} {γ : Sort u2} {δ : Sort u3} {ε : Sort u4} {p0 p1 p2 : α → β → γ → δ → ε → Prop} {G : Prop} (h : ∃ x0 x1 x2 x3 x4, p0 x0 x1 x2 x3 x4 ∧ p1 x0 x1 x2 x3 x4 ∧ p2 x0 x1 x2 x3 x4) (k : ∀ x0 x1 x2 x3 x4, p0 x0 x1 x2 x3 x4 → p1 x0 x1 x2 x3 x4 → p2 x0 x1 x2 x3 x4 → G) : G := h.elim fun x0 h => h.elim fun x1 h => h.elim fun x2 h => h.elim fun x3 h => h.elim fun x4 h => h.elim fun h0 h => h.elim fun h1 h => k x0 x1 x2 x3 x4 h0 h1 h
theorem x5_3.{u0, u1, u2, u3, u4} {α : Sort u0} {β : Sort u1} {γ : Sort u2} {δ : Sort u3} {ε : Sort u4} {p0 p1 p2 p3 : α → β → γ → δ → ε → Prop} {G : Prop} (h : ∃ x0 x1 x2 x3 x4, p0 x0 x1 x2 x3 x4 ∧ p1 x0 x1 x2 x3 x4 ∧ p2 x0 x1 x2 x3 x4 ∧ p3 x0 x1 x2 x3 x4) (k : ∀ x0 x1 x2 x3 x4, p0 x0 x1 x2 x3 x4 → p1 x0 x1 x2 x3 x4 → p2 x0 x1 x2 x3 x4 → p3 x0 x1 x2 x3 x4 → G) : G := h.elim fun x0 h => h.elim fun x1 h => h.elim fun x2 h => h.elim fun x3 h => h.elim fun x4 h => h.elim fun h0 h => h.elim fun h1 h => h.elim fun h2 h => k x0 x1 x2 x3 x4 h0 h1 h2 h
end
section
set_option tactic.hygienic false
noncomputable abbrev FH := Addr → Option Obj
mutual
inductive Rd (F : FH) : Value → PyData → Prop
 | none : Rd F .none .none
 | bool (b : Bool) : Rd F (.bool b) (.bool b)
 | int (i : Int) (t : Tok) : Rd F (.int i t) (.int i)
 | str (x : Str) (t : Tok) : Rd F (.str x t) (.str x)
 | list {a : Addr} {o : Obj} {vs : Array Value} {n : Nat} {xs : List PyData} : F a = some o → o.cls = .type "list" → o.data = .seq vs n → RdAll F vs.toList xs → Rd F (.ref a) (.list xs)
 | tuple {a : Addr} {o : Obj} {vs : Array Value} {n : Nat} {xs : List PyData} : F a = some o → o.cls = .type "tuple" → o.data = .seq vs n → RdAll F vs.toList xs → Rd F (.ref a) (.tuple xs)
inductive RdAll (F : FH) : List Value → List PyData → Prop
 | nil : RdAll F [] []
 | cons {v : Value} {vs : List Value} {d : PyData} {ds : List PyData} : Rd F v d → RdAll F vs ds → RdAll F (v :: vs) (d :: ds)
end
noncomputable def RdInv (F : FH) (v : Value) : PyData → Prop
 | .none => v = .none
 | .bool b => v = .bool b
 | .int i => ∃ t, v = .int i t
 | .str x => ∃ t, v = .str x t
 | .list xs => ∃ a o vs n, v = .ref a ∧ F a = some o ∧ o.cls = .type "list" ∧ o.data = .seq vs n ∧ RdAll F vs.toList xs
 | .tuple xs => ∃ a o vs n, v = .ref a ∧ F a = some o ∧ o.cls = .type "tuple" ∧ o.data = .seq vs n ∧ RdAll F vs.toList xs
 | _ => False
theorem Rd.inv {F : FH} {v : Value} {d : PyData} (h : Rd F v d) : RdInv F v d := by
 cases h with
 | none => exact rfl
 | bool b => exact rfl
 | int i t => exact ⟨t, rfl⟩
 | str x t => exact ⟨t, rfl⟩
 | list a b c d => exact ⟨_, _, _, _, rfl, a, b, c, d⟩
 | tuple a b c d => exact ⟨_, _, _, _, rfl, a, b, c, d⟩
noncomputable def RdAllInv (F : FH) : List Value → List PyData → Prop
 | [], [] => True
 | v :: vs, d :: ds => Rd F v d ∧ RdAll F vs ds
 | _, _ => False
theorem RdAll.inv {F : FH} {vs : List Value} {ds : List PyData} (h : RdAll F vs ds) : RdAllInv F vs ds := by
 cases h with
 | nil => exact trivial
 | cons a b => exact ⟨a, b⟩
theorem RdAll.ofNil {F : FH} {vs : List Value} (h : RdAll F vs []) : vs = [] := by
 cases vs with
 | nil => rfl
 | cons v vs => exact h.inv.elim
theorem RdAll.ofCons {F : FH} {vs : List Value} {d : PyData} {ds : List PyData} (h : RdAll F vs (d :: ds)) : ∃ v ws, vs = v :: ws ∧ Rd F v d ∧ RdAll F ws ds := match vs, h.inv with
 | v :: ws, h => ⟨v, ws, rfl, h⟩
mutual
theorem Rd.mono {F F' : FH} (hs : ∀ a o, F a = some o → F' a = some o) {v : Value} {d : PyData} (h : Rd F v d) : Rd F' v d := by
 cases h with
 | none => exact .none
 | bool b => exact .bool b
 | int i t => exact .int i t
 | str x t => exact .str x t
 | list h c e r => exact .list (hs _ _ h) c e (RdAll.mono hs r)
 | tuple h c e r => exact .tuple (hs _ _ h) c e (RdAll.mono hs r)
theorem RdAll.mono {F F' : FH} (hs : ∀ a o, F a = some o → F' a = some o) {vs : List Value} {ds : List PyData} (h : RdAll F vs ds) : RdAll F' vs ds := by
 cases h with
 | nil => exact .nil
 | cons h r => exact .cons (Rd.mono hs h) (RdAll.mono hs r)
end
mutual
theorem Rd.reads {F : FH} {h : Heap} (hs : ∀ a o, F a = some o → h.get? a = some o) {v : Value} {d : PyData} (r : Rd F v d) : ∃ as, Reads h v d as := by
 cases r with
 | none => exact ⟨_, .none⟩
 | bool b => exact ⟨_, .bool b⟩
 | int i t => exact ⟨_, .int i t⟩
 | str x t => exact ⟨_, .str x t⟩
 | list e c d r => exact x1_0 (RdAll.reads hs r) fun ww q => ⟨_, .list (hs _ _ e) c d q⟩
 | tuple e c d r => exact x1_0 (RdAll.reads hs r) fun ww q => ⟨_, .tuple (hs _ _ e) c d q⟩
theorem RdAll.reads {F : FH} {h : Heap} (hs : ∀ a o, F a = some o → h.get? a = some o) {vs : List Value} {ds : List PyData} (r : RdAll F vs ds) : ∃ as, ReadsAll h vs ds as := by
 cases r with
 | nil => exact ⟨_, .nil⟩
 | cons h r => exact x1_0 (Rd.reads hs h) fun ww p => x1_0 (RdAll.reads hs r) fun vv q => ⟨_, .cons p q⟩
end
theorem RdAll.length {F : FH} {vs : List Value} {ds : List PyData} (h : RdAll F vs ds) : vs.length = ds.length := by
 induction vs generalizing ds with
 | nil => cases h; rfl
 | cons v vs ih => cases h with | cons _ r => rw [List.length_cons, List.length_cons, ih r]
theorem RdAll.append {F : FH} {vs ws : List Value} {ds es : List PyData} (h : RdAll F vs ds) (k : RdAll F ws es) : RdAll F (vs ++ ws) (ds ++ es) := by
 induction vs generalizing ds with
 | nil => cases h; exact k
 | cons v vs ih => cases h with | cons h r => exact .cons h (ih r)
theorem RdAll.get {F : FH} {vs : List Value} {ds : List PyData} (h : RdAll F vs ds) {k : Nat} {d : PyData} (hk : ds[k]? = some d) : ∃ v, vs[k]? = some v ∧ Rd F v d := by
 induction vs generalizing ds k with
 | nil => cases h; simp at hk
 | cons v vs ih =>
  cases h with
  | cons h r =>
   cases k with
   | zero => simp at hk; subst hk; exact ⟨v, rfl, h⟩
   | succ k => exact ih r (by simpa using hk)
set_option genInjectivity true in
inductive AV where
 | d (x : PyData)
 | r (i : Nat)
inductive AO where
 | list (xs : List PyData)
 | dictS (es : List (Str × AV))
 | dictI (es : List (Int × AV))
 | inst (C : Addr) (fs : List (Str × AV))
structure AH where
 get : Nat → Option AO
 next : Nat
noncomputable def AH.set (σ : AH) (i : Nat) (o : AO) : AH := ⟨fun j => if j = i then some o else σ.get j, σ.next⟩
noncomputable def AH.push (σ : AH) (o : AO) : AH := ⟨fun j => if j = σ.next then some o else σ.get j, σ.next + 1⟩
noncomputable def AH.del (σ : AH) (i : Nat) : AH := ⟨fun j => if j = i then none else σ.get j, σ.next⟩
structure Wd where
 F : FH
 P : FH
 φ : Nat → Addr
 δ : Nat → Addr
 n : Nat
noncomputable def VR (W : Wd) (v : Value) : AV → Prop
 | .d x => Rd W.F v x
 | .r i => i < W.n ∧ v = .ref (W.φ i)
inductive VRs (W : Wd) : List Value → List AV → Prop
 | nil : VRs W [] []
 | cons {v vs a as} : VR W v a → VRs W vs as → VRs W (v :: vs) (a :: as)
noncomputable def Owns (W : Wd) (σ : AH) (i : Nat) (a : Addr) : Prop := ∃ o, σ.get i = some o ∧ (a = W.φ i ∨ ∃ C fs, o = .inst C fs ∧ a = W.δ i)
structure G (K : Params → Frag) where
 prog : Program
 w : World
 B : Heap
 mg : Str → Option Value
 mb : Str → Option Value
 p : Program
 loose : List Str
 X : (K w.params).In B
 T : TopRead p loose mg mb B
inductive Ents (W : Wd) : List DictEntry → List (Str × AV) → Prop
 | nil : Ents W [] []
 | cons {hsh x t v a es fs} : VR W v a → Ents W es fs → Ents W (⟨hsh, .str x t, v⟩ :: es) ((x, a) :: fs)
noncomputable def ORep (prog : Program) (w : World) (W : Wd) (h : Heap) (i : Nat) : AO → Prop
 | .list xs => ∃ vs, h.PlainList (W.φ i) vs ∧ RdAll W.F vs.toList xs
 | .dictS es => W.φ i ≠ 1 ∧ ∃ kvs : List (Str × Value), h.DictOf (strKind prog w) (W.φ i) kvs ∧ kvs.map (·.1) = es.map (·.1) ∧ VRs W (kvs.map (·.2)) (es.map (·.2))
 | .dictI es => W.φ i ≠ 1 ∧ ∃ kvs : List (Int × Value), h.DictOf (intKind prog w) (W.φ i) kvs ∧ kvs.map (·.1) = es.map (·.1) ∧ VRs W (kvs.map (·.2)) (es.map (·.2))
 | .inst C fs => h.get? (W.φ i) = some (instObj C (W.δ i)) ∧ ∃ es n, h.get? (W.δ i) = some (dictOf es n) ∧ Ents W es fs
structure Abs {K : Params → Frag} (g : G K) (W : Wd) (σ : AH) (h : Heap) : Prop where
 base : ∀ a o, g.B.get? a = some o → W.F a = some o
 keepF : ∀ a o, W.F a = some o → h.get? a = some o
 keepP : ∀ a o, W.P a = some o → h.get? a = some o
 fp : ∀ a o, W.P a = some o → W.F a = none
 n : W.n = σ.next
 obj : ∀ i o, σ.get i = some o → ORep g.prog g.w W h i o
 lt : ∀ i o, σ.get i = some o → i < σ.next
 sep : ∀ i j a, Owns W σ i a → Owns W σ j a → i = j
 two : ∀ i C fs, σ.get i = some (.inst C fs) → W.φ i ≠ W.δ i
 free : ∀ i a, Owns W σ i a → W.F a = none ∧ W.P a = none
structure Le (W W' : Wd) : Prop where
 F : ∀ a o, W.F a = some o → W'.F a = some o
 n : W.n ≤ W'.n
 φ : ∀ i, i < W.n → W'.φ i = W.φ i
 δ : ∀ i, i < W.n → W'.δ i = W.δ i
theorem Le.refl (W : Wd) : Le W W := ⟨fun ww ww e => e, Nat.le_refl _, fun ww ww => rfl, fun ww ww => rfl⟩
theorem Le.trans {W W' W'' : Wd} (h : Le W W') (h' : Le W' W'') : Le W W'' :=
 ⟨fun a o e => h'.F a o (h.F a o e), Nat.le_trans h.n h'.n, fun i hi => (h'.φ i (Nat.lt_of_lt_of_le hi h.n)).trans (h.φ i hi), fun i hi => (h'.δ i (Nat.lt_of_lt_of_le hi h.n)).trans (h.δ i hi)⟩
theorem VR.le {W W' : Wd} {v : Value} {a : AV} (h : VR W v a) (l : Le W W') : VR W' v a := by
 cases a with
 | d x => exact Rd.mono l.F h
 | r i => exact ⟨Nat.lt_of_lt_of_le h.1 l.n, by rw [l.φ i h.1]; exact h.2⟩
theorem VRs.le {W W' : Wd} {vs : List Value} {as : List AV} (h : VRs W vs as) (l : Le W W') : VRs W' vs as := by
 induction h with
 | nil => exact .nil
 | cons h _ ih => exact .cons (h.le l) ih
theorem Ents.le {W W' : Wd} {es : List DictEntry} {fs : List (Str × AV)} (h : Ents W es fs) (l : Le W W') : Ents W' es fs := by
 induction h with
 | nil => exact .nil
 | cons h _ ih => exact .cons (h.le l) ih
theorem ORep.le {prog : Program} {w : World} {W W' : Wd} {h h' : Heap} {i : Nat} {o : AO} (r : ORep prog w W h i o) (l : Le W W') (hi : i < W.n)
  (hφ : h'.get? (W.φ i) = h.get? (W.φ i)) (hδ : ∀ C fs, o = .inst C fs → h'.get? (W.δ i) = h.get? (W.δ i)) : ORep prog w W' h' i o := by
 cases o with
 | list xs =>
  (refine x1_1 r ?_; clear r; intro vs e q)
  refine ⟨vs, ?_, RdAll.mono l.F q⟩
  rw [l.φ i hi]
  unfold Heap.PlainList at e ⊢
  rw [hφ]; exact e
 | dictS es =>
  (refine x0_1 r ?_; clear r; intro e1 z1; refine x1_2 z1 ?_; clear z1; intro kvs e q z)
  refine ⟨by rw [l.φ i hi]; exact e1, kvs, ?_, q, z.le l⟩
  rw [l.φ i hi]
  unfold Heap.DictOf at e ⊢
  rw [hφ]; exact e
 | dictI es =>
  (refine x0_1 r ?_; clear r; intro e1 z2; refine x1_2 z2 ?_; clear z2; intro kvs e q z)
  refine ⟨by rw [l.φ i hi]; exact e1, kvs, ?_, q, z.le l⟩
  rw [l.φ i hi]
  unfold Heap.DictOf at e ⊢
  rw [hφ]; exact e
 | inst C fs =>
  (refine x0_1 r ?_; clear r; intro e z3; refine x2_1 z3 ?_; clear z3; intro es n e2 z)
  exact ⟨by rw [l.φ i hi, l.δ i hi, hφ]; exact e, es, n, by rw [l.δ i hi, hδ C fs rfl]; exact e2, z.le l⟩
end
section
set_option tactic.hygienic false
noncomputable def Grows (h h' : Heap) : Prop := ∀ a o, h.get? a = some o → h'.get? a = some o
theorem Grows.trans {a b c : Heap} (x : Grows a b) (y : Grows b c) : Grows a c := fun ww ww e => y _ _ (x _ _ e)
theorem Grows.push (h : Heap) (o : Obj) : Grows h (h.push o) := fun ww ww e => Heap.get?_push_of_some o e
section
variable {K : Params → Frag} {g : G K} {W W' : Wd} {σ σ' : AH} {h h' : Heap}
theorem Abs.owned (X : Abs g W σ h) {i : Nat} {a : Addr} (o : Owns W σ i a) : ∃ x, h.get? a = some x := by
 (refine x1_1 o ?_; clear o; intro ao e q)
 have r := X.obj i ao e
 cases ao with
 | list xs =>
  rcases q with rfl | ⟨C, fs, z, _⟩
  ·(refine x1_1 r ?_; clear r; intro vs z1 ww; (refine x1_0 z1 ?_; clear z1; intro n e)); exact ⟨_, e⟩
  ·cases z
 | dictS es =>
  rcases q with rfl | ⟨C, fs, z, _⟩
  ·(refine x0_1 r ?_; clear r; intro ww z2; refine x1_1 z2 ?_; clear z2; intro kvs z3 ww; (refine x3_1 z3 ?_; clear z3; intro o _ _ e _)); exact ⟨_, e⟩
  ·cases z
 | dictI es =>
  rcases q with rfl | ⟨C, fs, z, _⟩
  ·(refine x0_1 r ?_; clear r; intro ww z4; refine x1_1 z4 ?_; clear z4; intro kvs z5 ww; (refine x3_1 z5 ?_; clear z5; intro o _ _ e _)); exact ⟨_, e⟩
  ·cases z
 | inst C fs =>
  (refine x0_1 r ?_; clear r; intro e1 z6; refine x2_1 z6 ?_; clear z6; intro es n e2 ww)
  rcases q with rfl | ⟨C, fs, z, rfl⟩
  ·exact ⟨_, e1⟩
  ·exact ⟨_, e2⟩
theorem Abs.ownLt (X : Abs g W σ h) {i : Nat} {a : Addr} (o : Owns W σ i a) : a < h.objs.size := x1_0 (X.owned o) fun ww e => Heap.lt_size e
theorem Abs.fLt (X : Abs g W σ h) {a : Addr} {o : Obj} (e : W.F a = some o) : a < h.objs.size := Heap.lt_size (X.keepF _ _ e)
theorem Abs.pLt (X : Abs g W σ h) {a : Addr} {o : Obj} (e : W.P a = some o) : a < h.objs.size := Heap.lt_size (X.keepP _ _ e)
theorem Abs.fNew (X : Abs g W σ h) : W.F h.objs.size = none := by
 cases e : W.F h.objs.size with
 | none => rfl
 | some o => exact absurd (X.fLt e) (Nat.lt_irrefl _)
theorem Abs.pNew (X : Abs g W σ h) : W.P h.objs.size = none := by
 cases e : W.P h.objs.size with
 | none => rfl
 | some o => exact absurd (X.pLt e) (Nat.lt_irrefl _)
theorem Abs.oNew (X : Abs g W σ h) {i : Nat} : ¬ Owns W σ i h.objs.size := fun o => absurd (X.ownLt o) (Nat.lt_irrefl _)
theorem Abs.wlt (X : Abs g W σ h) {i : Nat} {o : AO} (e : σ.get i = some o) : i < W.n := by rw [X.n]; exact X.lt i o e
theorem Abs.base' (X : Abs g W σ h) : ∀ a o, g.B.get? a = some o → h.get? a = some o := fun a o e => X.keepF a o (X.base a o e)
theorem Abs.stat (X : Abs g W σ h) : (K g.w.params).In h := g.X.keeps X.base'
theorem Abs.grows (X : Abs g W σ h) (k : Grows h h') : Abs g W σ h' := by
 refine ⟨X.base, fun a o e => k _ _ (X.keepF a o e), fun a o e => k _ _ (X.keepP a o e), X.fp, X.n, fun i o e => ?_, X.lt, X.sep, X.two, X.free⟩
 refine (X.obj i o e).le (Le.refl W) (X.wlt e) ?_ fun C fs z => ?_
 ·(refine x1_0 (X.owned (i := i) (a := W.φ i) ⟨o, e, .inl rfl⟩) ?_; intro x q)
  rw [q, k _ _ q]
 ·(refine x1_0 (X.owned (i := i) (a := W.δ i) ⟨o, e, .inr ⟨C, fs, z, rfl⟩⟩) ?_; intro x q)
  rw [q, k _ _ q]
noncomputable def Wd.addF (W : Wd) (a : Addr) (o : Obj) : Wd := { W with F := fun x => if x = a then some o else W.F x }
theorem Wd.addF_at (W : Wd) (a : Addr) (o : Obj) : (W.addF a o).F a = some o := if_pos rfl
theorem Abs.leF (X : Abs g W σ h) {a : Addr} (ha : W.F a = none) (o : Obj) : Le W (W.addF a o) :=
 ⟨fun x ox e => by
  show (if x = a then some o else W.F x) = some ox
  rw [if_neg (fun q => by subst q; rw [ha] at e; cases e)]; exact e, Nat.le_refl _, fun ww ww => rfl, fun ww ww => rfl⟩
theorem Abs.addF (X : Abs g W σ h) {a : Addr} {o : Obj} (e : h.get? a = some o) (hF : W.F a = none) (hP : W.P a = none) (hO : ∀ i, ¬ Owns W σ i a) : Abs g (W.addF a o) σ h := by
 have l := X.leF hF o
 refine ⟨fun b ob q => l.F _ _ (X.base b ob q), fun b ob q => ?_, X.keepP, fun b ob q => ?_, X.n, fun i ao q => (X.obj i ao q).le l (X.wlt q) rfl fun ww ww ww => rfl, X.lt, X.sep, X.two, fun i b q => ?_⟩
 ·change (if b = a then some o else W.F b) = some ob at q
  split at q
  ·rename_i z; subst z; cases q; exact e
  ·exact X.keepF b ob q
 ·show (if b = a then some o else W.F b) = none
  rw [if_neg (fun z => by subst z; rw [show W.P b = some ob from q] at hP; cases hP)]
  exact X.fp b ob q
 ·refine ⟨?_, (X.free i b q).2⟩
  show (if b = a then some o else W.F b) = none
  rw [if_neg (fun z : b = a => hO i (z ▸ q))]
  exact (X.free i b q).1
theorem Abs.allocF (X : Abs g W σ h) {o : Obj} (hf : o.isFreed = false) : Abs g (W.addF h.objs.size o) σ (h.push o) ∧ Le W (W.addF h.objs.size o) := by
 refine ⟨?_, X.leF X.fNew o⟩
 exact (X.grows (Grows.push h o)).addF (Heap.get?_push_size _ hf) X.fNew X.pNew fun i q => X.oNew q
noncomputable def Wd.setP (W : Wd) (a : Addr) (o : Option Obj) : Wd := { W with P := fun x => if x = a then o else W.P x }
theorem Wd.leP (W : Wd) (a : Addr) (o : Option Obj) : Le W (W.setP a o) := ⟨fun ww ww e => e, Nat.le_refl _, fun ww ww => rfl, fun ww ww => rfl⟩
theorem Abs.setP (X : Abs g W σ h) {a : Addr} {o : Option Obj} (e : ∀ x, o = some x → h.get? a = some x) (hF : W.F a = none) (hO : ∀ i, ¬ Owns W σ i a) : Abs g (W.setP a o) σ h := by
 refine ⟨X.base, X.keepF, fun b ob q => ?_, fun b ob q => ?_, X.n, fun i ao q => (X.obj i ao q).le (W.leP a o) (X.wlt q) rfl fun ww ww ww => rfl, X.lt, X.sep, X.two, fun i b q => ⟨(X.free i b q).1, ?_⟩⟩
 ·change (if b = a then o else W.P b) = some ob at q
  split at q
  ·rename_i z; subst z; exact e _ q
  ·exact X.keepP b ob q
 ·change (if b = a then o else W.P b) = some ob at q
  split at q
  ·rename_i z; subst z; exact hF
  ·exact X.fp b ob q
 ·show (if b = a then o else W.P b) = none
  rw [if_neg (fun z : b = a => hO i (z ▸ q))]
  exact (X.free i b q).2
theorem Abs.dropP (X : Abs g W σ h) (a : Addr) : Abs g (W.setP a none) σ h := by
 refine ⟨X.base, X.keepF, fun b ob q => ?_, fun b ob q => ?_, X.n, fun i ao q => (X.obj i ao q).le (W.leP a none) (X.wlt q) rfl fun ww ww ww => rfl, X.lt, X.sep, X.two, fun i b q => ⟨(X.free i b q).1, ?_⟩⟩
 ·change (if b = a then none else W.P b) = some ob at q
  split at q
  ·cases q
  ·exact X.keepP b ob q
 ·change (if b = a then none else W.P b) = some ob at q
  split at q
  ·cases q
  ·exact X.fp b ob q
 ·show (if b = a then none else W.P b) = none
  split
  ·rfl
  ·exact (X.free i b q).2
theorem Abs.allocP (X : Abs g W σ h) {o : Obj} (hf : o.isFreed = false) : Abs g (W.setP h.objs.size (some o)) σ (h.push o) :=
 (X.grows (Grows.push h o)).setP (fun x q => by cases q; exact Heap.get?_push_size _ hf) X.fNew fun i q => X.oNew q
theorem Abs.updP (X : Abs g W σ h) {a : Addr} {o o' : Obj} (e : W.P a = some o) (hs : ∀ b, b ≠ a → h'.get? b = h.get? b) (e' : h'.get? a = some o') : Abs g (W.setP a (some o')) σ h' := by
 have no : ∀ i, ¬ Owns W σ i a := fun i q => by have := (X.free i a q).2; rw [e] at this; cases this
 have hF := X.fp a o e
 refine ⟨X.base, fun b ob q => ?_, fun b ob q => ?_, fun b ob q => ?_, X.n, fun i ao q => ?_, X.lt, X.sep, X.two, fun i b q => ⟨(X.free i b q).1, ?_⟩⟩
 ·rw [hs b fun z => by subst z; rw [show W.F b = some ob from q] at hF; cases hF]; exact X.keepF b ob q
 ·change (if b = a then some o' else W.P b) = some ob at q
  split at q
  ·rename_i z; subst z; cases q; exact e'
  ·rename_i z; rw [hs b z]; exact X.keepP b ob q
 ·change (if b = a then some o' else W.P b) = some ob at q
  split at q
  ·rename_i z; subst z; exact hF
  ·exact X.fp b ob q
 ·refine (X.obj i ao q).le (W.leP a (some o')) (X.wlt q) (hs _ fun z => no i ⟨ao, q, .inl z.symm⟩) fun C fs z => hs _ fun y => no i ⟨ao, q, .inr ⟨C, fs, z, y.symm⟩⟩
 ·show (if b = a then some o' else W.P b) = none
  rw [if_neg (fun z : b = a => no i (z ▸ q))]
  exact (X.free i b q).2
theorem Abs.less (X : Abs g W σ h) (k : ∀ i o, σ'.get i = some o → σ.get i = some o) (hl : ∀ i o, σ'.get i = some o → i < σ'.next) (hn : σ'.next ≤ σ.next)
  (hv : ∀ i o, σ'.get i = some o → match o with
   | .list _ => True
   | .dictS es => ∀ p ∈ es, ∀ j, p.2 = .r j → j < σ'.next
   | .dictI es => ∀ p ∈ es, ∀ j, p.2 = .r j → j < σ'.next
   | .inst _ fs => ∀ p ∈ fs, ∀ j, p.2 = .r j → j < σ'.next) : Abs g { W with n := σ'.next } σ' h := by
 have ow : ∀ {i a}, Owns { W with n := σ'.next } σ' i a → Owns W σ i a := fun hh => x1_1 hh fun o e q => ⟨o, k _ _ e, q⟩
 have vr : ∀ {v a}, VR W v a → (∀ j, a = .r j → j < σ'.next) → VR { W with n := σ'.next } v a := by
  intro v a q z
  cases a with
  | d x => exact q
  | r j => exact ⟨z j rfl, q.2⟩
 have vrs : ∀ {vs as}, VRs W vs as → (∀ a ∈ as, ∀ j, a = .r j → j < σ'.next) → VRs { W with n := σ'.next } vs as := by
  intro vs as q
  induction q with
  | nil => exact fun ww => .nil
  | cons a _ ih => exact fun z => .cons (vr a (z _ (.head _))) (ih fun b hb => z b (.tail _ hb))
 refine ⟨X.base, X.keepF, X.keepP, X.fp, rfl, fun i o e => ?_, hl, fun i j a p q => X.sep i j a (ow p) (ow q), fun i C fs e => X.two i C fs (k _ _ e), fun i a p => X.free i a (ow p)⟩
 have r := X.obj i o (k _ _ e)
 have v := hv i o e
 cases o with
 | list xs => exact r
 | dictS es =>
  (refine x0_1 r ?_; clear r; intro n1 z7; refine x1_2 z7 ?_; clear z7; intro kvs p q z)
  exact ⟨n1, kvs, p, q, vrs z fun a ha j hj => by (refine x1_1 (List.mem_map.mp ha) ?_; intro pp hp z8; obtain rfl := z8); exact v pp hp j hj⟩
 | dictI es =>
  (refine x0_1 r ?_; clear r; intro n1 z9; refine x1_2 z9 ?_; clear z9; intro kvs p q z)
  exact ⟨n1, kvs, p, q, vrs z fun a ha j hj => by (refine x1_1 (List.mem_map.mp ha) ?_; intro pp hp z10; obtain rfl := z10); exact v pp hp j hj⟩
 | inst C fs =>
  (refine x0_1 r ?_; clear r; intro p z11; refine x2_1 z11 ?_; clear z11; intro es n q z)
  refine ⟨p, es, n, q, ?_⟩
  clear p q e
  induction z with
  | nil => exact .nil
  | cons y _ ih => exact .cons (vr y fun j hj => v _ (.head _) j hj) (ih fun p hp => v p (.tail _ hp))
end
end
section
set_option tactic.hygienic false
section
variable {K : Params → Frag} {g : G K} {W W' : Wd} {σ σ' : AH} {h h' : Heap}
noncomputable def sameKind : AO → AO → Prop
 | .inst _ _, .inst _ _ => True
 | .inst _ _, _ => True
 | _, .inst _ _ => False
 | _, _ => True
theorem Abs.updO (X : Abs g W σ h) {i : Nat} {o o' : AO} (e : σ.get i = some o) (hk : sameKind o o') (hs : ∀ b, ¬ Owns W σ i b → h'.get? b = h.get? b) (r : ORep g.prog g.w W h' i o') : Abs g W (σ.set i o') h' := by
 have ow : ∀ {j a}, Owns W (σ.set i o') j a → Owns W σ j a := by
  (intro j; intro a; intro z2r; (refine x1_1 z2r ?_; clear z2r; intro x ex q))
  change (if j = i then some o' else σ.get j) = some x at ex
  split at ex
  ·rename_i z
   subst z
   cases ex
   rcases q with rfl | ⟨C, fs, rfl, rfl⟩
   ·exact ⟨o, e, .inl rfl⟩
   ·cases o with
    | inst C' fs' => exact ⟨_, e, .inr ⟨C', fs', rfl, rfl⟩⟩
    | list _ => exact hk.elim
    | dictS _ => exact hk.elim
    | dictI _ => exact hk.elim
  ·exact ⟨x, ex, q⟩
 have free : ∀ {b ob}, (W.F b = some ob ∨ W.P b = some ob) → h'.get? b = h.get? b := by
  intro b ob q
  refine hs b fun z => ?_
  have := X.free i b z
  rcases q with q | q
  ·rw [q] at this; cases this.1
  ·rw [q] at this; cases this.2
 refine ⟨X.base, fun a ob q => (free (.inl q)).trans (X.keepF a ob q), fun a ob q => (free (.inr q)).trans (X.keepP a ob q), X.fp, X.n, fun j x ex => ?_, fun j x ex => ?_, fun j k a p q => X.sep j k a (ow p) (ow q), fun j C fs ex => ?_, fun j a q => X.free j a (ow q)⟩
 ·change (if j = i then some o' else σ.get j) = some x at ex
  split at ex
  ·rename_i z; subst z; cases ex; exact r
  ·rename_i z
   refine (X.obj j x ex).le (Le.refl W) (X.wlt ex) (hs _ fun q => z (X.sep j i _ ⟨x, ex, .inl rfl⟩ q)) fun C fs y => hs _ fun q => z (X.sep j i _ ⟨x, ex, .inr ⟨C, fs, y, rfl⟩⟩ q)
 ·change (if j = i then some o' else σ.get j) = some x at ex
  split at ex
  ·rename_i z; subst z; exact X.lt _ o e
  ·exact X.lt j x ex
 ·change (if j = i then some o' else σ.get j) = some _ at ex
  split at ex
  ·rename_i z
   subst z
   cases ex
   cases o with
   | inst C' fs' => exact X.two _ C' fs' e
   | list _ => exact hk.elim
   | dictS _ => exact hk.elim
   | dictI _ => exact hk.elim
  ·exact X.two j C fs ex
noncomputable def Wd.addO (W : Wd) (a d : Addr) : Wd := { W with φ := fun i => if i = W.n then a else W.φ i, δ := fun i => if i = W.n then d else W.δ i, n := W.n + 1 }
theorem Wd.leO (W : Wd) (a d : Addr) : Le W (W.addO a d) :=
 ⟨fun ww ww e => e, Nat.le_succ _, fun i hi => if_neg (Nat.ne_of_lt hi), fun i hi => if_neg (Nat.ne_of_lt hi)⟩
theorem Wd.addO_φ (W : Wd) (a d : Addr) : (W.addO a d).φ W.n = a := if_pos rfl
theorem Wd.addO_δ (W : Wd) (a d : Addr) : (W.addO a d).δ W.n = d := if_pos rfl
theorem Abs.addO (X : Abs g W σ h) {a d : Addr} {o : AO} (hF : W.F a = none) (hP : W.P a = none) (hO : ∀ i, ¬ Owns W σ i a) (hF' : W.F d = none) (hP' : W.P d = none) (hO' : ∀ i, ¬ Owns W σ i d) (ne : a ≠ d)
  (r : ORep g.prog g.w (W.addO a d) h W.n o) : Abs g (W.addO a d) (σ.push o) h := by
 have l := W.leO a d
 have ow : ∀ {j b}, Owns (W.addO a d) (σ.push o) j b → (j = W.n ∧ (b = a ∨ b = d)) ∨ (j ≠ W.n ∧ Owns W σ j b) := by
  (intro j; intro b; intro z2r; (refine x1_1 z2r ?_; clear z2r; intro x ex q))
  change (if j = σ.next then some o else σ.get j) = some x at ex
  split at ex
  ·rename_i z
   rw [← X.n] at z
   subst z
   refine .inl ⟨rfl, ?_⟩
   rcases q with rfl | ⟨C, fs, rfl, rfl⟩
   ·exact .inl (W.addO_φ a d)
   ·exact .inr (W.addO_δ a d)
  ·rename_i z
   rw [← X.n] at z
   refine .inr ⟨z, x, ex, ?_⟩
   have hj := X.wlt ex
   rw [l.φ j hj, l.δ j hj] at q
   exact q
 refine ⟨X.base, X.keepF, X.keepP, X.fp, ?_, fun j x ex => ?_, fun j x ex => ?_, fun j k b p q => ?_, fun j C fs ex => ?_, fun j b q => ?_⟩
 ·show W.n + 1 = σ.next + 1; rw [X.n]
 ·change (if j = σ.next then some o else σ.get j) = some x at ex
  split at ex
  ·rename_i z; rw [← X.n] at z; subst z; cases ex; exact r
  ·exact (X.obj j x ex).le l (X.wlt ex) rfl fun ww ww ww => rfl
 ·change (if j = σ.next then some o else σ.get j) = some x at ex
  split at ex
  ·rename_i z; subst z; exact Nat.lt_succ_self _
  ·exact Nat.lt_succ_of_lt (X.lt j x ex)
 ·rcases ow p with ⟨p0, p1⟩ | ⟨p0, p1⟩ <;> rcases ow q with ⟨q0, q1⟩ | ⟨q0, q1⟩
  ·rw [p0, q0]
  ·rcases p1 with p1 | p1
   ·exact (hO _ (p1 ▸ q1)).elim
   ·exact (hO' _ (p1 ▸ q1)).elim
  ·rcases q1 with q1 | q1
   ·exact (hO _ (q1 ▸ p1)).elim
   ·exact (hO' _ (q1 ▸ p1)).elim
  ·exact X.sep j k b p1 q1
 ·change (if j = σ.next then some o else σ.get j) = some _ at ex
  split at ex
  ·rename_i z
   rw [← X.n] at z
   subst z
   rw [W.addO_φ, W.addO_δ]; exact ne
  ·have hj := X.wlt ex
   rw [l.φ j hj, l.δ j hj]; exact X.two j C fs ex
 ·rcases ow q with ⟨_, q1⟩ | ⟨_, q1⟩
  ·rcases q1 with q1 | q1
   ·rw [q1]; exact ⟨hF, hP⟩
   ·rw [q1]; exact ⟨hF', hP'⟩
  ·exact X.free j b q1
theorem Abs.allocList (X : Abs g W σ h) {vs : Array Value} {xs : List PyData} (r : RdAll W.F vs.toList xs) :
  Abs g (W.addO h.objs.size (h.objs.size + 1)) (σ.push (.list xs)) (h.push { cls := .type "list", data := .seq vs }) := by
 have Y := X.grows (Grows.push h { cls := .type "list", data := .seq vs })
 have big : ∀ {o}, h.get? (h.objs.size + 1) ≠ some o := fun e => absurd (Heap.lt_size e) (Nat.not_lt.mpr (Nat.le_succ _))
 have bigP : ∀ {o}, (h.push { cls := .type "list", data := .seq vs }).get? (h.objs.size + 1) ≠ some o := fun e => absurd (Heap.lt_size e) (by rw [Heap.size_push]; exact Nat.lt_irrefl _)
 refine Y.addO X.fNew X.pNew (fun i q => X.oNew q) ?_ ?_ (fun i q => ?_) (Nat.ne_of_lt (Nat.lt_succ_self _)) ?_
 ·cases e : W.F (h.objs.size + 1) with
  | none => rfl
  | some o => exact (big (X.keepF _ _ e)).elim
 ·cases e : W.P (h.objs.size + 1) with
  | none => rfl
  | some o => exact (big (X.keepP _ _ e)).elim
 ·(refine x1_0 (X.owned q) ?_; intro ww e)
  exact big e
 ·refine ⟨vs, ?_, r⟩
  rw [W.addO_φ]
  exact ⟨_, Heap.get?_push_size _ rfl⟩
end
structure Room (k : Nat) (A : Around) : Prop where
 handled : A.handled = none
 depth : A.depth + 2 * k ≤ 800
 units : A.units + 10 * k ≤ 9700
theorem Room.le {k k' : Nat} {A : Around} (R : Room k A) (h : k' ≤ k) : Room k' A := ⟨R.handled, by have := R.depth; lia, by have := R.units; lia⟩
theorem Room.deeper {k : Nat} {A : Around} {env : Env} (R : Room (k + 1) A) : Room k (A.deeper env) := ⟨R.handled, by have := R.depth; simp only [Around.deeper]; lia, by have := R.units; simp only [Around.deeper]; lia⟩
theorem Room.lim {k : Nat} {A : Around} (R : Room k A) : A.depth < recursionLimit := by have := R.depth; unfold recursionLimit; lia
theorem Room.c {k : Nat} {A : Around} (R : Room k A) : A.units + 64 < cLine := by have := R.units; unfold cLine; lia
noncomputable abbrev Loc := Str → Option AV
noncomputable def upd (m : Loc) (x : Str) (v : AV) : Loc := fun y => if y = x then some v else m y
structure EnvOk (env : Env) (sc : Scope) : Prop where
 scope : env.scope = sc
 globals : env.globals = mainGlobals
 builtins : env.builtins = builtinsNs
 kind : sc.kind = .function
noncomputable def CellIs (P : FH) (c : Addr) (v : Option Value) : Prop := ∃ o, P c = some o ∧ o.data = .cell v
structure Frm (env : Env) (m : Loc) (W : Wd) : Prop where
 loc : ∃ o es ep, W.P env.locals = some o ∧ o.data = .dict es ep ∧ StrKeys es ∧ ∀ x v, env.scope.names.lookup x = some .local → m x = some v → ∃ v', nsFind es x = some v' ∧ VR W v' v
 free : ∀ x v, env.scope.names.lookup x = some .free → m x = some v → ∃ c v', env.cells.lookup x = some c ∧ CellIs W.P c (some v') ∧ VR W v' v
 cell : ∀ x, env.scope.names.lookup x = some .cell → ∃ c cv, env.cells.lookup x = some c ∧ CellIs W.P c cv ∧ ∀ v, m x = some v → ∃ v', cv = some v' ∧ VR W v' v
 inj : ∀ x y c, env.scope.names.lookup x = some .cell → env.cells.lookup x = some c → env.cells.lookup y = some c → x = y
 apart : ∀ x c, env.cells.lookup x = some c → c ≠ env.locals
theorem Frm.le {env : Env} {m : Loc} {W W' : Wd} (Fm : Frm env m W) (l : Le W W') (hp : W'.P = W.P) : Frm env m W' := by
 obtain ⟨a, b, c, d, e⟩ := Fm
 refine ⟨?_, fun x v h1 h2 => ?_, fun x h1 => ?_, d, e⟩
 ·(refine x3_3 a ?_; clear a; intro o es ep h1 h2 h3 h4)
  refine ⟨o, es, ep, by rw [hp]; exact h1, h2, h3, fun x v p q => ?_⟩
  (refine x1_1 (h4 x v p q) ?_; intro v' y z)
  exact ⟨v', y, z.le l⟩
 ·(refine x2_2 (b x v h1 h2) ?_; intro cc v' p q r)
  exact ⟨cc, v', p, by rw [hp]; exact q, r.le l⟩
 ·(refine x2_2 (c x h1) ?_; intro cc cv p q r)
  exact ⟨cc, cv, p, by rw [hp]; exact q, fun v hv => x1_1 (r v hv) fun v' y z => ⟨v', y, z.le l⟩⟩
section
variable {K : Params → Frag} (g : G K)
structure Stp (W : Wd) (s : Shared) (W' : Wd) (σ' : AH) (s' : Shared) : Prop where
 abs : Abs g W' σ' s'.heap
 le : Le W W'
 os : s'.os = s.os
 gens : s'.gens = s.gens
inductive VPost (W : Wd) (s : Shared) (Q : AV → AH → Prop) (v : Value) (s' : Shared) : Prop
 | mk (W' : Wd) (σ' : AH) (a : AV) (st : Stp g W s W' σ' s') (p : W'.P = W.P) (r : VR W' v a) (q : Q a σ') : VPost W s Q v s'
inductive BPost (W : Wd) (s : Shared) (Q : Bool → AH → Prop) (b : Bool) (s' : Shared) : Prop
 | mk (W' : Wd) (σ' : AH) (st : Stp g W s W' σ' s') (p : W'.P = W.P) (q : Q b σ') : BPost W s Q b s'
inductive LPost (W : Wd) (s : Shared) (Q : List AV → AH → Prop) (vs : List Value) (s' : Shared) : Prop
 | mk (W' : Wd) (σ' : AH) (as : List AV) (st : Stp g W s W' σ' s') (p : W'.P = W.P) (r : VRs W' vs as) (q : Q as σ') : LPost W s Q vs s'
noncomputable def EvW (k : Nat) (sc : Scope) (m : Loc) (σ : AH) (e : Expr) (Q : AV → AH → Prop) : Prop :=
 ∀ (A : Around) (env : Env) (W : Wd) (s : Shared), Room k A → EnvOk env sc → Abs g W σ s.heap → Frm env m W →
  wpAny (model g.prog g.w) A (eval e env) (VPost g W s Q) (fun ww ww => False) s
noncomputable def TsW (k : Nat) (sc : Scope) (m : Loc) (σ : AH) (e : Expr) (Q : Bool → AH → Prop) : Prop :=
 ∀ (A : Around) (env : Env) (W : Wd) (s : Shared), Room k A → EnvOk env sc → Abs g W σ s.heap → Frm env m W →
  wpAny (model g.prog g.w) A (isTrue e env (eval e env)) (BPost g W s Q) (fun ww ww => False) s
noncomputable def CallW (k : Nat) (f : Value) (args : List AV) (σ : AH) (Q : AV → AH → Prop) : Prop :=
 ∀ (A : Around) (W : Wd) (s : Shared) (vs : List Value), Room k A → Abs g W σ s.heap → VRs W vs args →
  wpAny (model g.prog g.w) A (call f vs) (VPost g W s Q) (fun ww ww => False) s
inductive Fl where
 | next
 | ret (v : AV)
noncomputable def FlR (W : Wd) : Flow → Fl → Prop
 | .next, .next => True
 | .ret v, .ret a => VR W v a
 | _, _ => False
noncomputable def FrP (env : Env) (W W' : Wd) : Prop := ∀ a, a ≠ env.locals → (∀ x c, env.scope.names.lookup x = some .cell → env.cells.lookup x = some c → a ≠ c) → W'.P a = W.P a
theorem FrP.refl (env : Env) (W : Wd) : FrP env W W := fun ww ww ww => rfl
theorem FrP.trans {env : Env} {W W' W'' : Wd} (h : FrP env W W') (h' : FrP env W' W'') : FrP env W W'' := fun a x y => (h' a x y).trans (h a x y)
theorem FrP.of {env : Env} {W W' : Wd} (h : W'.P = W.P) : FrP env W W' := fun a ww ww => by rw [h]
inductive SPost (env : Env) (W : Wd) (s : Shared) (Q : Fl → Loc → AH → Prop) (fl : Flow) (s' : Shared) : Prop
 | mk (W' : Wd) (σ' : AH) (m' : Loc) (f : Fl) (st : Stp g W s W' σ' s') (p : FrP env W W') (F : Frm env m' W') (r : FlR W' fl f) (q : Q f m' σ') : SPost env W s Q fl s'
inductive APost (env : Env) (W : Wd) (s : Shared) (Q : Loc → AH → Prop) (s' : Shared) : Prop
 | mk (W' : Wd) (σ' : AH) (m' : Loc) (st : Stp g W s W' σ' s') (p : FrP env W W') (F : Frm env m' W') (q : Q m' σ') : APost env W s Q s'
noncomputable def StW (k : Nat) (sc : Scope) (m : Loc) (σ : AH) (st : Stmt) (Q : Fl → Loc → AH → Prop) : Prop :=
 ∀ (A : Around) (env : Env) (W : Wd) (s : Shared), Room k A → EnvOk env sc → Abs g W σ s.heap → Frm env m W →
  wpAny (model g.prog g.w) A (exec st env) (SPost g env W s Q) (fun ww ww => False) s
noncomputable def ExW (k : Nat) (sc : Scope) (m : Loc) (σ : AH) (ss : List Stmt) (Q : Fl → Loc → AH → Prop) : Prop :=
 ∀ (A : Around) (env : Env) (W : Wd) (s : Shared), Room k A → EnvOk env sc → Abs g W σ s.heap → Frm env m W →
  wpAny (model g.prog g.w) A (execs ss env) (SPost g env W s Q) (fun ww ww => False) s
end
section
variable {K : Params → Frag} {g : G K} {k : Nat} {sc : Scope} {m : Loc} {σ : AH}
theorem VPost.out {W : Wd} {s : Shared} {Q : AV → AH → Prop} {v : Value} {s' : Shared} {G : Prop} (h : VPost g W s Q v s') (k : ∀ W' σ' a, Stp g W s W' σ' s' → W'.P = W.P → VR W' v a → Q a σ' → G) : G := by
 cases h; apply k <;> assumption
theorem BPost.out {W : Wd} {s : Shared} {Q : Bool → AH → Prop} {b : Bool} {s' : Shared} {G : Prop} (h : BPost g W s Q b s') (k : ∀ W' σ', Stp g W s W' σ' s' → W'.P = W.P → Q b σ' → G) : G := by
 cases h; apply k <;> assumption
theorem LPost.out {W : Wd} {s : Shared} {Q : List AV → AH → Prop} {vs : List Value} {s' : Shared} {G : Prop} (h : LPost g W s Q vs s') (k : ∀ W' σ' as, Stp g W s W' σ' s' → W'.P = W.P → VRs W' vs as → Q as σ' → G) : G := by
 cases h; apply k <;> assumption
theorem SPost.out {env : Env} {W : Wd} {s : Shared} {Q : Fl → Loc → AH → Prop} {fl : Flow} {s' : Shared} {G : Prop} (h : SPost g env W s Q fl s') (k : ∀ W' σ' m' f, Stp g W s W' σ' s' → FrP env W W' → Frm env m' W' → FlR W' fl f → Q f m' σ' → G) : G := by
 cases h; apply k <;> assumption
theorem APost.out {env : Env} {W : Wd} {s : Shared} {Q : Loc → AH → Prop} {s' : Shared} {G : Prop} (h : APost g env W s Q s') (k : ∀ W' σ' m', Stp g W s W' σ' s' → FrP env W W' → Frm env m' W' → Q m' σ' → G) : G := by
 cases h; apply k <;> assumption
theorem Stp.refl {W : Wd} {s : Shared} (X : Abs g W σ s.heap) : Stp g W s W σ s := ⟨X, Le.refl W, rfl, rfl⟩
theorem Stp.trans {W W' W'' : Wd} {s s' s'' : Shared} {σ' σ'' : AH} (a : Stp g W s W' σ' s') (b : Stp g W' s' W'' σ'' s'') : Stp g W s W'' σ'' s'' :=
 ⟨b.abs, a.le.trans b.le, b.os.trans a.os, b.gens.trans a.gens⟩
theorem EvW.mono {e : Expr} {Q Q' : AV → AH → Prop} (h : EvW g k sc m σ e Q) (q : ∀ a σ', Q a σ' → Q' a σ') : EvW g k sc m σ e Q' := fun A env W s R eo X Fm =>
 wpAny_mono (h A env W s R eo X Fm) (fun ww ww hh => hh.out fun W' σ' a x y z t => ⟨W', σ', a, x, y, z, q _ _ t⟩) fun ww ww x => x
theorem CallW.lift {k' : Nat} {f : Value} {args : List AV} {Q : AV → AH → Prop} (h : CallW g k f args σ Q) (hk : k ≤ k') : CallW g k' f args σ Q := fun A W s vs R X V => h A W s vs (R.le hk) X V
theorem CallW.mono {f : Value} {args : List AV} {Q Q' : AV → AH → Prop} (h : CallW g k f args σ Q) (q : ∀ a σ', Q a σ' → Q' a σ') : CallW g k f args σ Q' := fun A W s vs R X V =>
 wpAny_mono (h A W s vs R X V) (fun ww ww hh => hh.out fun W' σ' a x y z t => ⟨W', σ', a, x, y, z, q _ _ t⟩) fun ww ww x => x
theorem ExW.mono {ss : List Stmt} {Q Q' : Fl → Loc → AH → Prop} (h : ExW g k sc m σ ss Q) (q : ∀ f m' σ', Q f m' σ' → Q' f m' σ') : ExW g k sc m σ ss Q' := fun A env W s R eo X Fm =>
 wpAny_mono (h A env W s R eo X Fm) (fun ww ww hh => hh.out fun W' σ' m' f x y z t u => ⟨W', σ', m', f, x, y, z, t, q _ _ _ u⟩) fun ww ww x => x
theorem xn {Q : Fl → Loc → AH → Prop} (h : Q .next m σ) : ExW g k sc m σ [] Q := fun A env W s R eo X Fm =>
 wpAny_execs_nil ⟨W, σ, m, .next, Stp.refl X, FrP.refl env W, Fm, trivial, h⟩
theorem ExW.cons {st : Stmt} {rest : List Stmt} {Q : Fl → Loc → AH → Prop}
  (h : StW g k sc m σ st (fun f m' σ' => match f with | .next => ExW g k sc m' σ' rest Q | .ret v => Q (.ret v) m' σ')) : ExW g k sc m σ (st :: rest) Q := by
 intro A env W s R eo X Fm
 refine wpAny_execs_cons (wpAny_mono (h A env W s R eo X Fm) (fun fl s' z => ?_) fun ww ww x => x)
 (refine SPost.out z ?_; clear z; intro W' σ' m' f st' fp Fm' fr q)
 cases fl with
 | next =>
  cases f with
  | next =>
   refine wpAny_mono (q A env W' s' R eo st'.abs Fm') (fun fl s'' z => ?_) fun ww ww x => x
   (refine SPost.out z ?_; clear z; intro W'' σ'' m'' f st2 fp2 Fm2 fr2 q2)
   exact ⟨W'', σ'', m'', f, st'.trans st2, fp.trans fp2, Fm2, fr2, q2⟩
  | ret v => exact fr.elim
 | ret v =>
  cases f with
  | next => exact fr.elim
  | ret a => exact ⟨W', σ', m', .ret a, st', fp, Fm', fr, q⟩
 | brk => exact fr.elim
 | cont => exact fr.elim
end
end
section
set_option tactic.hygienic false
section
variable {K : Params → Frag} (g : G K)
noncomputable def NoE : Value → Shared → Prop := fun ww ww => False
noncomputable def BinW (k : Nat) (op : Operator) (a b : AV) (σ : AH) (Q : AV → AH → Prop) : Prop :=
 ∀ (A : Around) (W : Wd) (s : Shared) (va vb : Value), Room k A → Abs g W σ s.heap → VR W va a → VR W vb b → wpAny (model g.prog g.w) A (binaryOp op va vb) (VPost g W s Q) NoE s
noncomputable def CmpW (k : Nat) (op : CmpOp) (a b : AV) (σ : AH) (Q : AV → AH → Prop) : Prop :=
 ∀ (A : Around) (W : Wd) (s : Shared) (va vb : Value), Room k A → Abs g W σ s.heap → VR W va a → VR W vb b → wpAny (model g.prog g.w) A (compareOp op va vb) (VPost g W s Q) NoE s
noncomputable def UnW (k : Nat) (op : UnaryOp) (a : AV) (σ : AH) (Q : AV → AH → Prop) : Prop :=
 ∀ (A : Around) (W : Wd) (s : Shared) (va : Value), Room k A → Abs g W σ s.heap → VR W va a → wpAny (model g.prog g.w) A (unaryOp op va) (VPost g W s Q) NoE s
noncomputable def TruW (k : Nat) (a : AV) (σ : AH) (Q : Bool → AH → Prop) : Prop :=
 ∀ (A : Around) (W : Wd) (s : Shared) (va : Value), Room k A → Abs g W σ s.heap → VR W va a → wpAny (model g.prog g.w) A (truthy va) (BPost g W s Q) NoE s
noncomputable def SpW (k : Nat) (sc : Scope) (m : Loc) (σ : AH) (es : List Expr) (Q : List AV → AH → Prop) : Prop :=
 ∀ (A : Around) (env : Env) (W : Wd) (s : Shared) (pos : Pos), Room k A → EnvOk env sc → Abs g W σ s.heap → Frm env m W →
  wpAny (model g.prog g.w) A (spliced (backTo pos (starEach es env))) (LPost g W s Q) NoE s
noncomputable def SubW (k : Nat) (value slice : Expr) (a b : AV) (σ : AH) (Q : AV → AH → Prop) : Prop :=
 ∀ (A : Around) (W : Wd) (s : Shared) (va vb : Value), Room k A → Abs g W σ s.heap → VR W va a → VR W vb b → wpAny (model g.prog g.w) A (subscriptTail value slice va vb) (VPost g W s Q) NoE s
end
section
variable {K : Params → Frag} {g : G K} {k : Nat} {sc : Scope} {m : Loc} {σ : AH}
theorem VPost.go {W W' : Wd} {s s' : Shared} {Q : AV → AH → Prop} {v : Value} {s'' : Shared} {σ' : AH} (a : Stp g W s W' σ' s') (p : W'.P = W.P) (h : VPost g W' s' Q v s'') : VPost g W s Q v s'' :=
 VPost.out h fun W'' σ'' x b q r t => ⟨W'', σ'', x, a.trans b, q.trans p, r, t⟩
theorem BPost.go {W W' : Wd} {s s' : Shared} {Q : Bool → AH → Prop} {v : Bool} {s'' : Shared} {σ' : AH} (a : Stp g W s W' σ' s') (p : W'.P = W.P) (h : BPost g W' s' Q v s'') : BPost g W s Q v s'' :=
 BPost.out h fun W'' σ'' b q t => ⟨W'', σ'', a.trans b, q.trans p, t⟩
theorem VPost.here {W : Wd} {s : Shared} {Q : AV → AH → Prop} {v : Value} {a : AV} (X : Abs g W σ s.heap) (r : VR W v a) (q : Q a σ) (t : Nat) : VPost g W s Q v { s with toks := t } :=
 ⟨W, σ, a, ⟨X, Le.refl W, rfl, rfl⟩, rfl, r, q⟩
theorem VPost.now {W : Wd} {s : Shared} {Q : AV → AH → Prop} {v : Value} {a : AV} (X : Abs g W σ s.heap) (r : VR W v a) (q : Q a σ) : VPost g W s Q v s :=
 ⟨W, σ, a, ⟨X, Le.refl W, rfl, rfl⟩, rfl, r, q⟩
theorem BPost.now {W : Wd} {s : Shared} {Q : Bool → AH → Prop} {b : Bool} (X : Abs g W σ s.heap) (q : Q b σ) : BPost g W s Q b s := ⟨W, σ, ⟨X, Le.refl W, rfl, rfl⟩, rfl, q⟩
theorem EvW.then {A : Around} {env : Env} {W : Wd} {s : Shared} {e : Expr} {Q : AV → AH → Prop} {R : Value → Shared → Prop} (h : EvW g k sc m σ e Q) (rm : Room k A) (eo : EnvOk env sc) (X : Abs g W σ s.heap) (Fm : Frm env m W)
  (q : ∀ v s' W' σ' a, Stp g W s W' σ' s' → W'.P = W.P → Frm env m W' → VR W' v a → Q a σ' → R v s') : wpAny (model g.prog g.w) A (eval e env) R NoE s :=
 wpAny_mono (h A env W s rm eo X Fm) (fun v s' hh => hh.out fun W' σ' a st p vr hq => q v s' W' σ' a st p (Fm.le st.le p) vr hq) fun ww ww x => x
theorem EvW.local {x : Str} {pos : Pos} {a : AV} {Q : AV → AH → Prop} (hx : sc.names.lookup x = some .local) (hm : m x = some a) (hd : (x == ("__debug__" : Str)) = false) (h : Q a σ) : EvW g k sc m σ (.Name x pos) Q := by
 intro A env W s R eo X Fm
 (refine x3_3 Fm.loc ?_; intro o es ep h1 h2 h3 h4)
 (refine x1_1 (h4 x a (by rw [eo.scope]; exact hx) hm) ?_; intro v' e r)
 exact wpAny_Name (wpAny_loadName_local (by rw [eo.scope]; exact eo.kind) (by unfold Env.kindOf; rw [eo.scope]; exact hx) (m := nsFind es) ⟨o, es, ep, X.keepP _ _ h1, h2, h3, fun ww => rfl⟩ e (VPost.now X r h)) hd
theorem EvW.cell {x : Str} {pos : Pos} {a : AV} {Q : AV → AH → Prop} (hx : sc.names.lookup x = some .cell) (hm : m x = some a) (hd : (x == ("__debug__" : Str)) = false) (h : Q a σ) : EvW g k sc m σ (.Name x pos) Q := by
 intro A env W s R eo X Fm
 (refine x2_2 (Fm.cell x (by rw [eo.scope]; exact hx)) ?_; intro c cv h1 z1 h4; (refine x1_1 z1 ?_; clear z1; intro o h2 h3))
 (refine x1_1 (h4 a hm) ?_; intro v' z2 r; obtain rfl := z2)
 exact wpAny_Name (wpAny_loadName_cell (by rw [eo.scope]; exact eo.kind) (by unfold Env.kindOf; rw [eo.scope]; exact hx) h1 ⟨o, X.keepP _ _ h2, h3⟩ (VPost.now X r h)) hd
noncomputable def GlbW (g : G K) (sc : Scope) (x : Str) (f : Value) : Prop :=
 ∀ (A : Around) (env : Env) (s : Shared) (pos : Pos) (R : Value → Shared → Prop), EnvOk env sc → (∀ a o, g.B.get? a = some o → s.heap.get? a = some o) → R f s → wpAny (model g.prog g.w) A (eval (.Name x pos) env) R NoE s
theorem GlbW.top {x : Str} {f : Value} (hx : sc.names.lookup x = some .globalImplicit) (e : nsIn (K g.w.params) mainGlobals x = some (some f)) (hd : (x == ("__debug__" : Str)) = false) : GlbW g sc x f := by
 intro A env s pos R eo kb h
 have G1 : s.heap.Ns env.globals g.mg := by rw [eo.globals]; exact g.T.g.keeps kb
 exact Name_function_global (by rw [eo.scope]; exact eo.kind) (by unfold Env.kindOf; rw [eo.scope]; exact hx) (loadGlobal_global G1 (mg_of g.X g.T.g e) h) hd
theorem GlbW.boot {x : Str} {f : Value} (hx : sc.names.lookup x = some .globalImplicit) (e : nsIn (K g.w.params) mainGlobals x = some none) (hv : bootBuiltins x = some f) (hn : x ≠ "__name__") (hd : (x == ("__debug__" : Str)) = false) : GlbW g sc x f := by
 intro A env s pos R eo kb h
 have G1 : s.heap.Ns env.globals g.mg := by rw [eo.globals]; exact g.T.g.keeps kb
 have G2 : s.heap.Ns env.builtins g.mb := by rw [eo.builtins]; exact g.T.b.keeps kb
 exact Name_function_global (by rw [eo.scope]; exact eo.kind) (by unfold Env.kindOf; rw [eo.scope]; exact hx) (loadGlobal_builtin G1 (mg_none_of g.X g.T.g e) G2 ((g.T.builtins x hn).trans hv) h) hd
theorem ei {i : Int} {n : Nat} {pos : Pos} {Q : AV → AH → Prop} (h : Q (.d (.int i)) σ) : EvW g k sc m σ (.Constant (.int i) n pos) Q := fun A env W s R eo X Fm =>
 wpAny_Constant_int (VPost.here (a := .d (.int i)) X (Rd.int i s.toks) h _)
theorem eS {x : Str} {n : Nat} {pos : Pos} {Q : AV → AH → Prop} (h : Q (.d (.str x)) σ) : EvW g k sc m σ (.Constant (.str x) n pos) Q := fun A env W s R eo X Fm =>
 Constant_str (VPost.here (a := .d (.str x)) X (Rd.str x s.toks) h _)
theorem EvW.bool {b : Bool} {n : Nat} {pos : Pos} {Q : AV → AH → Prop} (h : Q (.d (.bool b)) σ) : EvW g k sc m σ (.Constant (.bool b) n pos) Q := fun A env W s R eo X Fm =>
 Constant_bool (VPost.now (a := .d (.bool b)) X (Rd.bool b) h)
theorem EvW.none {n : Nat} {pos : Pos} {Q : AV → AH → Prop} (h : Q (.d .none) σ) : EvW g k sc m σ (.Constant .none n pos) Q := fun A env W s R eo X Fm =>
 Constant_none (VPost.now (a := .d .none) X Rd.none h)
theorem EvW.bin {l r : Expr} {op : Operator} {pos : Pos} {Q : AV → AH → Prop} (h : EvW g k sc m σ l (fun a σ1 => EvW g k sc m σ1 r (fun b σ2 => BinW g k op a b σ2 Q))) : EvW g k sc m σ (.BinOp l op r pos) Q := by
 intro A env W s R eo X Fm
 refine wpAny_BinOp (h.then R eo X Fm fun v s1 W1 σ1 a st p Fm1 vr h1 => h1.then R eo st.abs Fm1 fun v2 s2 W2 σ2 b st2 p2 Fm2 vr2 h2 => ?_)
 exact wpAny_mono (h2 A W2 s2 v v2 R st2.abs (vr.le st2.le) vr2) (fun ww ww z => z.go (st.trans st2) (p2.trans p)) fun ww ww x => x
theorem EvW.cmp {l r : Expr} {op : CmpOp} {pos : Pos} {Q : AV → AH → Prop} (hm : behindInMarks op r = false) (h : EvW g k sc m σ l (fun a σ1 => EvW g k sc m σ1 r (fun b σ2 => CmpW g k op a b σ2 Q))) : EvW g k sc m σ (.Compare l [op] [r] pos) Q := by
 intro A env W s R eo X Fm
 refine wpAny_Compare1 (h.then R eo X Fm fun v s1 W1 σ1 a st p Fm1 vr h1 => h1.then R eo st.abs Fm1 fun v2 s2 W2 σ2 b st2 p2 Fm2 vr2 h2 => ?_) hm
 exact wpAny_mono (h2 A W2 s2 v v2 R st2.abs (vr.le st2.le) vr2) (fun ww ww z => z.go (st.trans st2) (p2.trans p)) fun ww ww x => x
theorem EvW.un {e : Expr} {op : UnaryOp} {pos : Pos} {Q : AV → AH → Prop} (h : EvW g k sc m σ e (fun a σ1 => UnW g k op a σ1 Q)) : EvW g k sc m σ (.UnaryOp op e pos) Q := by
 intro A env W s R eo X Fm
 refine UnaryOp_ (h.then R eo X Fm fun v s1 W1 σ1 a st p Fm1 vr h1 => ?_)
 exact wpAny_mono (h1 A W1 s1 v R st.abs vr) (fun ww ww z => z.go st p) fun ww ww x => x
theorem TsW.then {A : Around} {env : Env} {W : Wd} {s : Shared} {e : Expr} {Q : Bool → AH → Prop} {R : Bool → Shared → Prop} (h : TsW g k sc m σ e Q) (rm : Room k A) (eo : EnvOk env sc) (X : Abs g W σ s.heap) (Fm : Frm env m W)
  (q : ∀ b s' W' σ', Stp g W s W' σ' s' → W'.P = W.P → Frm env m W' → Q b σ' → R b s') : wpAny (model g.prog g.w) A (isTrue e env (eval e env)) R NoE s :=
 wpAny_mono (h A env W s rm eo X Fm) (fun b s' hh => hh.out fun W' σ' st p hq => q b s' W' σ' st p (Fm.le st.le p) hq) fun ww ww x => x
theorem EvW.ifx {t b o : Expr} {pos : Pos} {Q : AV → AH → Prop} (h : TsW g k sc m σ t (fun c σ1 => if c = true then EvW g k sc m σ1 b Q else EvW g k sc m σ1 o Q)) : EvW g k sc m σ (.IfExp t b o pos) Q := by
 intro A env W s R eo X Fm
 refine IfExp_ (h.then R eo X Fm fun c s1 W1 σ1 st p Fm1 h1 => ?_)
 cases c with
 | true => exact wpAny_mono (h1 A env W1 s1 R eo st.abs Fm1) (fun ww ww z => VPost.go st p z) fun ww ww x => x
 | false => exact wpAny_mono (h1 A env W1 s1 R eo st.abs Fm1) (fun ww ww z => VPost.go st p z) fun ww ww x => x
theorem EvW.and1 {e : Expr} {op : BoolOp} {pos : Pos} {Q : AV → AH → Prop} (h : EvW g k sc m σ e Q) : EvW g k sc m σ (.BoolOp op [e] pos) Q := fun A env W s R eo X Fm => BoolOp_one (h A env W s R eo X Fm)
theorem EvW.and {e e' : Expr} {r : List Expr} {pos : Pos} {Q : AV → AH → Prop} (h : EvW g k sc m σ e (fun a σ1 => TruW g k a σ1 (fun c σ2 => if c = true then EvW g k sc m σ2 (.BoolOp .And (e' :: r) pos) Q else Q a σ2))) : EvW g k sc m σ (.BoolOp .And (e :: e' :: r) pos) Q := by
 intro A env W s R eo X Fm
 refine BoolOp_and (h.then R eo X Fm fun v s1 W1 σ1 a st p Fm1 vr h1 => wpAny_mono (h1 A W1 s1 v R st.abs vr) (fun c s2 z => ?_) fun ww ww x => x)
 (refine BPost.out z ?_; clear z; intro W2 σ2 st2 p2 q)
 cases c with
 | true => exact wpAny_mono (q A env W2 s2 R eo st2.abs (Fm1.le st2.le p2)) (fun ww ww z => VPost.go (st.trans st2) (p2.trans p) z) fun ww ww x => x
 | false => exact ⟨W2, σ2, a, st.trans st2, p2.trans p, vr.le st2.le, q⟩
theorem EvW.or {e e' : Expr} {r : List Expr} {pos : Pos} {Q : AV → AH → Prop} (h : EvW g k sc m σ e (fun a σ1 => TruW g k a σ1 (fun c σ2 => if c = true then Q a σ2 else EvW g k sc m σ2 (.BoolOp .Or (e' :: r) pos) Q))) : EvW g k sc m σ (.BoolOp .Or (e :: e' :: r) pos) Q := by
 intro A env W s R eo X Fm
 refine BoolOp_or (h.then R eo X Fm fun v s1 W1 σ1 a st p Fm1 vr h1 => wpAny_mono (h1 A W1 s1 v R st.abs vr) (fun c s2 z => ?_) fun ww ww x => x)
 (refine BPost.out z ?_; clear z; intro W2 σ2 st2 p2 q)
 cases c with
 | false => exact wpAny_mono (q A env W2 s2 R eo st2.abs (Fm1.le st2.le p2)) (fun ww ww z => VPost.go (st.trans st2) (p2.trans p) z) fun ww ww x => x
 | true => exact ⟨W2, σ2, a, st.trans st2, p2.trans p, vr.le st2.le, q⟩
theorem TsW.cmp {l r : Expr} {op : CmpOp} {pos : Pos} {Q : Bool → AH → Prop} (hm : behindInMarks op r = false) (h : EvW g k sc m σ l (fun a σ1 => EvW g k sc m σ1 r (fun b σ2 => CmpW g k op a b σ2 (fun c σ3 => TruW g k c σ3 Q)))) : TsW g k sc m σ (.Compare l [op] [r] pos) Q := by
 intro A env W s R eo X Fm
 refine wpAny_isTrue_Compare1 (h.then R eo X Fm fun v s1 W1 σ1 a st p Fm1 vr h1 => h1.then R eo st.abs Fm1 fun v2 s2 W2 σ2 b st2 p2 Fm2 vr2 h2 => ?_) hm
 refine wpAny_mono (h2 A W2 s2 v v2 R st2.abs (vr.le st2.le) vr2) (fun v3 s3 z => ?_) fun ww ww x => x
 (refine VPost.out z ?_; clear z; intro W3 σ3 c st3 p3 vr3 q)
 exact wpAny_mono (q A W3 s3 v3 R st3.abs vr3) (fun ww ww z => BPost.go ((st.trans st2).trans st3) (p3.trans (p2.trans p)) z) fun ww ww x => x
theorem TsW.not {e : Expr} {pos : Pos} {Q : Bool → AH → Prop} (h : TsW g k sc m σ e (fun c σ1 => Q (!c) σ1)) : TsW g k sc m σ (.UnaryOp .Not e pos) Q := fun A env W s R eo X Fm =>
 isTrue_not (wpAny_mono (h A env W s R eo X Fm) (fun c s' z => z.out fun W' σ' a b q => ⟨W', σ', a, b, q⟩) fun ww ww x => x)
theorem TsW.and0 {pos : Pos} {Q : Bool → AH → Prop} (h : Q true σ) : TsW g k sc m σ (.BoolOp .And [] pos) Q := fun A env W s R eo X Fm => isTrue_and_nil (BPost.now X h)
theorem TsW.or0 {pos : Pos} {Q : Bool → AH → Prop} (h : Q false σ) : TsW g k sc m σ (.BoolOp .Or [] pos) Q := fun A env W s R eo X Fm => isTrue_or_nil (BPost.now X h)
theorem TsW.and {e : Expr} {r : List Expr} {pos : Pos} {Q : Bool → AH → Prop} (h : TsW g k sc m σ e (fun c σ1 => if c = true then TsW g k sc m σ1 (.BoolOp .And r pos) Q else Q false σ1)) : TsW g k sc m σ (.BoolOp .And (e :: r) pos) Q := by
 intro A env W s R eo X Fm
 refine isTrue_and (h.then R eo X Fm fun c s1 W1 σ1 st p Fm1 h1 => ?_)
 cases c with
 | true => exact wpAny_mono (h1 A env W1 s1 R eo st.abs Fm1) (fun ww ww z => BPost.go st p z) fun ww ww x => x
 | false => exact ⟨W1, σ1, st, p, h1⟩
theorem TsW.or {e : Expr} {r : List Expr} {pos : Pos} {Q : Bool → AH → Prop} (h : TsW g k sc m σ e (fun c σ1 => if c = true then Q true σ1 else TsW g k sc m σ1 (.BoolOp .Or r pos) Q)) : TsW g k sc m σ (.BoolOp .Or (e :: r) pos) Q := by
 intro A env W s R eo X Fm
 refine isTrue_or (h.then R eo X Fm fun c s1 W1 σ1 st p Fm1 h1 => ?_)
 cases c with
 | false => exact wpAny_mono (h1 A env W1 s1 R eo st.abs Fm1) (fun ww ww z => BPost.go st p z) fun ww ww x => x
 | true => exact ⟨W1, σ1, st, p, h1⟩
theorem TsW.plain {e : Expr} {Q : Bool → AH → Prop} (he : ∀ (env : Env) (whole : Sem Value), isTrue e env whole = (do let v ← whole; standAt e.pos; holding [v] (truthy v))) (h : EvW g k sc m σ e (fun a σ1 => TruW g k a σ1 Q)) : TsW g k sc m σ e Q := by
 intro A env W s R eo X Fm
 refine isTrue_plain (h.then R eo X Fm fun v s1 W1 σ1 a st p Fm1 vr h1 => ?_) (he env _)
 exact wpAny_mono (h1 A W1 s1 v R st.abs vr) (fun ww ww z => BPost.go st p z) fun ww ww x => x
theorem sn {Q : List AV → AH → Prop} (h : Q [] σ) : SpW g k sc m σ [] Q := fun A env W s pos R eo X Fm => spliced_none ⟨W, σ, [], Stp.refl X, rfl, .nil, h⟩
theorem SpW.cons {e : Expr} {es : List Expr} {Q : List AV → AH → Prop} (he : ∀ env : Env, starEach (e :: es) env = (false, eval e env) :: starEach es env) (h : EvW g k sc m σ e (fun a σ1 => SpW g k sc m σ1 es (fun as σ2 => Q (a :: as) σ2))) : SpW g k sc m σ (e :: es) Q := by
 intro A env W s pos R eo X Fm
 refine spliced_more (h.then R eo X Fm fun v s1 W1 σ1 a st p Fm1 vr h1 => ?_) (he env)
 refine wpAny_mono (h1 A env W1 s1 pos R eo st.abs Fm1) (fun vs s2 z => ?_) fun ww ww x => x
 (refine LPost.out z ?_; clear z; intro W2 σ2 as st2 p2 vr2 q)
 exact ⟨W2, σ2, a :: as, st.trans st2, p2.trans p, .cons (vr.le st2.le) vr2, q⟩
theorem EvW.sub {v sl : Expr} {pos : Pos} {Q : AV → AH → Prop} (h : EvW g k sc m σ v (fun a σ1 => EvW g k sc m σ1 sl (fun b σ2 => SubW g k v sl a b σ2 Q))) : EvW g k sc m σ (.Subscript v sl pos) Q := by
 intro A env W s R eo X Fm
 refine Subscript_ (h.then R eo X Fm fun v s1 W1 σ1 a st p Fm1 vr h1 => h1.then R eo st.abs Fm1 fun v2 s2 W2 σ2 b st2 p2 Fm2 vr2 h2 => ?_)
 exact wpAny_mono (h2 A W2 s2 v v2 R st2.abs (vr.le st2.le) vr2) (fun ww ww z => z.go (st.trans st2) (p2.trans p)) fun ww ww x => x
theorem StW.ret {e : Expr} {pos : Pos} {Q : Fl → Loc → AH → Prop} (h : EvW g k sc m σ e (fun a σ1 => Q (.ret a) m σ1)) : StW g k sc m σ (.Return (some e) pos) Q := by
 intro A env W s R eo X Fm
 exact wpAny_Return_some (h.then R eo X Fm fun v s1 W1 σ1 a st p Fm1 vr h1 => ⟨W1, σ1, m, .ret a, st, FrP.of p, Fm1, vr, h1⟩)
theorem StW.ite {t : Expr} {b o : List Stmt} {pos : Pos} {Q : Fl → Loc → AH → Prop} (h : TsW g k sc m σ t (fun c σ1 => if c = true then ExW g k sc m σ1 b Q else ExW g k sc m σ1 o Q)) : StW g k sc m σ (.If t b o pos) Q := by
 intro A env W s R eo X Fm
 refine wpAny_If (h.then R eo X Fm fun c s1 W1 σ1 st p Fm1 h1 => ?_)
 have fin : ∀ {ss : List Stmt}, ExW g k sc m σ1 ss Q → wpAny (model g.prog g.w) A (execs ss env) (SPost g env W s Q) NoE s1 := fun hh =>
  wpAny_mono (hh A env W1 s1 R eo st.abs Fm1) (fun fl s2 hh => hh.out fun W2 σ2 m2 f st2 fp2 Fm2 fr q => ⟨W2, σ2, m2, f, st.trans st2, (FrP.of p).trans fp2, Fm2, fr, q⟩) fun ww ww x => x
 cases c with
 | true => exact fin h1
 | false => exact fin h1
end
end
section
set_option tactic.hygienic false
section
variable {K : Params → Frag} {g : G K} {k : Nat} {sc : Scope} {m : Loc} {σ : AH}
theorem VR.int {W : Wd} {v : Value} {i : Int} (h : VR W v (.d (.int i))) : ∃ t, v = .int i t := by
 exact Rd.inv h
theorem VR.bool {W : Wd} {v : Value} {b : Bool} (h : VR W v (.d (.bool b))) : v = .bool b := by
 exact Rd.inv h
theorem VR.none {W : Wd} {v : Value} (h : VR W v (.d .none)) : v = .none := by
 exact Rd.inv h
theorem BinW.add {a b : Int} {Q : AV → AH → Prop} (h : Q (.d (.int (a + b))) σ) : BinW g k .Add (.d (.int a)) (.d (.int b)) σ Q := by
 intro A W s va vb R X ra rb
 (refine x1_0 ra.int ?_; intro t z1; obtain rfl := z1)
 (refine x1_0 rb.int ?_; intro u z2; obtain rfl := z2)
 exact PyProof.Rows.add_int (VPost.here (a := .d (.int (a + b))) X (Rd.int _ _) h _)
theorem BinW.sub {a b : Int} {Q : AV → AH → Prop} (h : Q (.d (.int (a - b))) σ) : BinW g k .Sub (.d (.int a)) (.d (.int b)) σ Q := by
 intro A W s va vb R X ra rb
 (refine x1_0 ra.int ?_; intro t z3; obtain rfl := z3)
 (refine x1_0 rb.int ?_; intro u z4; obtain rfl := z4)
 exact PyProof.Rows.sub_int (VPost.here (a := .d (.int (a - b))) X (Rd.int _ _) h _)
theorem BinW.mul {a b : Int} {Q : AV → AH → Prop} (hb : -(2 ^ 60) ≤ b ∧ b ≤ 2 ^ 60) (h : Q (.d (.int (a * b))) σ) : BinW g k .Mult (.d (.int a)) (.d (.int b)) σ Q := by
 intro A W s va vb R X ra rb
 (refine x1_0 ra.int ?_; intro t z5; obtain rfl := z5)
 (refine x1_0 rb.int ?_; intro u z6; obtain rfl := z6)
 exact PyProof.Rows.mul_int (VPost.here (a := .d (.int (a * b))) X (Rd.int _ _) h _) (IntMulOk.of_right (intBits_le_64 (by lia) (by lia)))
theorem BinW.div {a b : Int} {Q : AV → AH → Prop} (hb0 : b ≠ 0) (hb : b.natAbs < 1073741824) (h : Q (.d (.int (a.fdiv b))) σ) : BinW g k .FloorDiv (.d (.int a)) (.d (.int b)) σ Q := by
 intro A W s va vb R X ra rb
 (refine x1_0 ra.int ?_; intro t z7; obtain rfl := z7)
 (refine x1_0 rb.int ?_; intro u z8; obtain rfl := z8)
 exact PyProof.Rows.floordiv_int hb0 (VPost.here (a := .d (.int (a.fdiv b))) X (Rd.int _ _) h _) (.inl (PyProof.noPylong_small hb))
theorem BinW.mod {a b : Int} {Q : AV → AH → Prop} (hb0 : b ≠ 0) (h : Q (.d (.int (a.fmod b))) σ) : BinW g k .Mod (.d (.int a)) (.d (.int b)) σ Q := by
 intro A W s va vb R X ra rb
 (refine x1_0 ra.int ?_; intro t z9; obtain rfl := z9)
 (refine x1_0 rb.int ?_; intro u z10; obtain rfl := z10)
 exact PyProof.Rows.mod_int hb0 (VPost.here (a := .d (.int (a.fmod b))) X (Rd.int _ _) h _)
theorem UnW.neg {a : Int} {Q : AV → AH → Prop} (h : Q (.d (.int (-a))) σ) : UnW g k .USub (.d (.int a)) σ Q := by
 intro A W s va R X ra
 (refine x1_0 ra.int ?_; intro t z11; obtain rfl := z11)
 exact PyProof.Rows.neg_int (VPost.here (a := .d (.int (-a))) X (Rd.int _ _) h _)
theorem ab {b : Bool} {Q : Bool → AH → Prop} (h : Q b σ) : TruW g k (.d (.bool b)) σ Q := by
 intro A W s va R X ra
 obtain rfl := ra.bool
 exact wpAny_truthy_bool (BPost.now X h)
theorem UnW.not {a : AV} {Q : AV → AH → Prop} (h : TruW g k a σ (fun c σ1 => Q (.d (.bool (!c))) σ1)) : UnW g k .Not a σ Q := by
 intro A W s va R X ra
 exact not_of (wpAny_mono (h A W s va R X ra) (fun c s1 hh => hh.out fun W1 σ1 st p q => ⟨W1, σ1, .d (.bool (!c)), st, p, Rd.bool _, q⟩) fun ww ww x => x)
theorem CmpW.lt {a b : Int} {Q : AV → AH → Prop} (h : Q (.d (.bool (decide (a < b)))) σ) : CmpW g k .Lt (.d (.int a)) (.d (.int b)) σ Q := by
 intro A W s va vb R X ra rb
 (refine x1_0 ra.int ?_; intro t z12; obtain rfl := z12)
 (refine x1_0 rb.int ?_; intro u z13; obtain rfl := z13)
 exact PyProof.Rows.lt_int (VPost.now (a := .d (.bool _)) X (Rd.bool _) h)
theorem CmpW.le {a b : Int} {Q : AV → AH → Prop} (h : Q (.d (.bool (decide (a ≤ b)))) σ) : CmpW g k .LtE (.d (.int a)) (.d (.int b)) σ Q := by
 intro A W s va vb R X ra rb
 (refine x1_0 ra.int ?_; intro t z14; obtain rfl := z14)
 (refine x1_0 rb.int ?_; intro u z15; obtain rfl := z15)
 exact PyProof.Rows.le_int (VPost.now (a := .d (.bool _)) X (Rd.bool _) h)
theorem CmpW.gt {a b : Int} {Q : AV → AH → Prop} (h : Q (.d (.bool (decide (b < a)))) σ) : CmpW g k .Gt (.d (.int a)) (.d (.int b)) σ Q := by
 intro A W s va vb R X ra rb
 (refine x1_0 ra.int ?_; intro t z16; obtain rfl := z16)
 (refine x1_0 rb.int ?_; intro u z17; obtain rfl := z17)
 exact PyProof.Rows.gt_int (VPost.now (a := .d (.bool _)) X (Rd.bool _) h)
theorem CmpW.ge {a b : Int} {Q : AV → AH → Prop} (h : Q (.d (.bool (decide (b ≤ a)))) σ) : CmpW g k .GtE (.d (.int a)) (.d (.int b)) σ Q := by
 intro A W s va vb R X ra rb
 (refine x1_0 ra.int ?_; intro t z18; obtain rfl := z18)
 (refine x1_0 rb.int ?_; intro u z19; obtain rfl := z19)
 exact PyProof.Rows.ge_int (VPost.now (a := .d (.bool _)) X (Rd.bool _) h)
theorem Abs.rd {W : Wd} {h : Heap} {v : Value} {x : PyData} (X : Abs g W σ h) (r : Rd W.F v x) : ∃ as, Reads h v x as := r.reads X.keepF
theorem Abs.rdO {W : Wd} {h : Heap} {i : Nat} {xs : List PyData} (X : Abs g W σ h) (e : σ.get i = some (.list xs)) : ∃ as, Reads h (.ref (W.φ i)) (.list xs) as := by
 (refine x1_1 (X.obj i _ e) ?_; intro vs z20 r; (refine x1_0 z20 ?_; clear z20; intro n ho))
 (refine x1_0 (r.reads X.keepF) ?_; intro as q)
 exact ⟨_, .list ho rfl rfl q⟩
noncomputable def AsD (σ : AH) : AV → PyData → Prop
 | .d x, y => x = y
 | .r i, y => ∃ xs, σ.get i = some (.list xs) ∧ y = .list xs
theorem Abs.rdA {W : Wd} {h : Heap} {v : Value} {a : AV} {x : PyData} (X : Abs g W σ h) (r : VR W v a) (e : AsD σ a x) : ∃ as, Reads h v x as := by
 cases a with
 | d y => cases e; exact X.rd r
 | r i => (refine x1_1 e ?_; clear e; intro xs e z21; obtain rfl := z21); rw [r.2]; exact X.rdO e
theorem CmpW.eq {a b : AV} {x y : PyData} {Q : AV → AH → Prop} (ha : AsD σ a x) (hb : AsD σ b y) (sa : shaped x = true) (sb : shaped y = true) (h : Q (.d (.bool (PyData.eqv x y))) σ) : CmpW g k .Eq a b σ Q := by
 intro A W s va vb R X ra rb
 (refine x1_0 (X.rdA ra ha) ?_; intro ww r1)
 (refine x1_0 (X.rdA rb hb) ?_; intro ww r2)
 exact eq_dataH r1 r2 sa sb R.c (VPost.now (a := .d (.bool _)) X (Rd.bool _) h)
theorem CmpW.ne {a b : AV} {x y : PyData} {Q : AV → AH → Prop} (ha : AsD σ a x) (hb : AsD σ b y) (sa : shaped x = true) (sb : shaped y = true) (h : Q (.d (.bool (!PyData.eqv x y))) σ) : CmpW g k .NotEq a b σ Q := by
 intro A W s va vb R X ra rb
 (refine x1_0 (X.rdA ra ha) ?_; intro ww r1)
 (refine x1_0 (X.rdA rb hb) ?_; intro ww r2)
 exact ne_dataH r1 r2 sa sb R.c (VPost.now (a := .d (.bool _)) X (Rd.bool _) h)
theorem shaped_list {xs : List PyData} (h : shaped (.list xs) = true) : PyData.canLayAll0 xs = true := by
 have := SeqAt.canLay_of_shaped h
 simpa [PyData.canLay0] using this
theorem shaped_tuple {xs : List PyData} (h : shaped (.tuple xs) = true) : PyData.canLayAll0 xs = true := by
 have := SeqAt.canLay_of_shaped h
 simpa [PyData.canLay0] using this
theorem Room.in' {A : Around} (R : Room k A) {xs : List PyData} {d : PyData} (h : shaped d = true) : A.units + 1 + min (PyData.depthAll xs) d.depth < cLine := by
 have h1 := SeqAt.depth_of_shaped h
 have h2 : min (PyData.depthAll xs) d.depth ≤ d.depth := Nat.min_le_right _ _
 have := R.units
 unfold cLine
 lia
theorem CmpW.inL {a b : AV} {x : PyData} {ys : List PyData} {Q : AV → AH → Prop} (ha : AsD σ a x) (hb : AsD σ b (.list ys)) (sa : shaped x = true) (sb : shaped (.list ys) = true) (h : Q (.d (.bool (ys.any fun y => PyData.eqv y x))) σ) : CmpW g k .In a b σ Q := by
 intro A W s va vb R X ra rb
 (refine x1_0 (X.rdA ra ha) ?_; intro ww r1)
 (refine x1_0 (X.rdA rb hb) ?_; intro ww r2)
 exact SeqAt.in_list_reads r2 r1 (shaped_list sb) (SeqAt.canLay_of_shaped sa) (R.in' sa) (VPost.now (a := .d (.bool _)) X (Rd.bool _) h)
theorem CmpW.notInL {a b : AV} {x : PyData} {ys : List PyData} {Q : AV → AH → Prop} (ha : AsD σ a x) (hb : AsD σ b (.list ys)) (sa : shaped x = true) (sb : shaped (.list ys) = true) (h : Q (.d (.bool (!ys.any fun y => PyData.eqv y x))) σ) : CmpW g k .NotIn a b σ Q := by
 intro A W s va vb R X ra rb
 (refine x1_0 (X.rdA ra ha) ?_; intro ww r1)
 (refine x1_0 (X.rdA rb hb) ?_; intro ww r2)
 exact SeqAt.notIn_list_reads r2 r1 (shaped_list sb) (SeqAt.canLay_of_shaped sa) (R.in' sa) (VPost.now (a := .d (.bool _)) X (Rd.bool _) h)
theorem CmpW.inT {a b : AV} {x : PyData} {ys : List PyData} {Q : AV → AH → Prop} (ha : AsD σ a x) (hb : AsD σ b (.tuple ys)) (sa : shaped x = true) (sb : shaped (.tuple ys) = true) (h : Q (.d (.bool (ys.any fun y => PyData.eqv y x))) σ) : CmpW g k .In a b σ Q := by
 intro A W s va vb R X ra rb
 (refine x1_0 (X.rdA ra ha) ?_; intro ww r1)
 (refine x1_0 (X.rdA rb hb) ?_; intro ww r2)
 exact SeqAt.in_tuple_reads r2 r1 (shaped_tuple sb) (SeqAt.canLay_of_shaped sa) (R.in' sa) (VPost.now (a := .d (.bool _)) X (Rd.bool _) h)
theorem CmpW.notInT {a b : AV} {x : PyData} {ys : List PyData} {Q : AV → AH → Prop} (ha : AsD σ a x) (hb : AsD σ b (.tuple ys)) (sa : shaped x = true) (sb : shaped (.tuple ys) = true) (h : Q (.d (.bool (!ys.any fun y => PyData.eqv y x))) σ) : CmpW g k .NotIn a b σ Q := by
 intro A W s va vb R X ra rb
 (refine x1_0 (X.rdA ra ha) ?_; intro ww r1)
 (refine x1_0 (X.rdA rb hb) ?_; intro ww r2)
 exact SeqAt.notIn_tuple_reads r2 r1 (shaped_tuple sb) (SeqAt.canLay_of_shaped sa) (R.in' sa) (VPost.now (a := .d (.bool _)) X (Rd.bool _) h)
noncomputable def isNone : AV → Bool
 | .d .none => true
 | _ => false
theorem VR.isNone {W : Wd} {v : Value} {a : AV} (h : VR W v a) : (v == Value.none) = isNone a := by
 cases a with
 | r i => rw [h.2]; rfl
 | d x =>
  change Rd W.F v x at h
  cases h <;> rfl
theorem CmpW.isNone {a : AV} {Q : AV → AH → Prop} (h : Q (.d (.bool (isNone a))) σ) : CmpW g k .Is a (.d .none) σ Q := by
 intro A W s va vb R X ra rb
 obtain rfl := rb.none
 exact is_none_gen (by rw [ra.isNone]; exact VPost.now (a := .d (.bool _)) X (Rd.bool _) h)
theorem CmpW.isNotNone {a : AV} {Q : AV → AH → Prop} (h : Q (.d (.bool (!Mine.isNone a))) σ) : CmpW g k .IsNot a (.d .none) σ Q := by
 intro A W s va vb R X ra rb
 obtain rfl := rb.none
 exact isnot_none_gen (by rw [ra.isNone]; exact VPost.now (a := .d (.bool _)) X (Rd.bool _) h)
theorem CmpW.isNotBool {a b : Bool} {Q : AV → AH → Prop} (h : Q (.d (.bool (a != b))) σ) : CmpW g k .IsNot (.d (.bool a)) (.d (.bool b)) σ Q := by
 intro A W s va vb R X ra rb
 obtain rfl := ra.bool
 obtain rfl := rb.bool
 exact isnot_bool (VPost.now (a := .d (.bool _)) X (Rd.bool _) h)
theorem Abs.tup {W : Wd} {h : Heap} {v : Value} {xs : List PyData} (X : Abs g W σ h) (r : VR W v (.d (.tuple xs))) : ∃ a vs, v = .ref a ∧ IsTup h a vs ∧ RdAll W.F vs.toList xs := by
 change Rd W.F v (.tuple xs) at r
 refine x4_4 r.inv ?_
 intro a o vs n z e c d q
 exact ⟨_, _, z, ⟨_, X.keepF _ _ e, c, _, d⟩, q⟩
theorem Abs.lst {W : Wd} {h : Heap} {v : Value} {xs : List PyData} (X : Abs g W σ h) (r : VR W v (.d (.list xs))) : ∃ a vs, v = .ref a ∧ h.IsList a vs ∧ RdAll W.F vs.toList xs := by
 change Rd W.F v (.list xs) at r
 refine x4_4 r.inv ?_
 intro a o vs n z e c d q
 exact ⟨_, _, z, ⟨_, X.keepF _ _ e, c, _, d⟩, q⟩
theorem Abs.lstA {W : Wd} {h : Heap} {v : Value} {a : AV} {xs : List PyData} (X : Abs g W σ h) (r : VR W v a) (e : AsD σ a (.list xs)) : ∃ b vs, v = .ref b ∧ h.IsList b vs ∧ RdAll W.F vs.toList xs := by
 cases a with
 | d y => cases e; exact X.lst r
 | r i =>
  (refine x1_1 e ?_; clear e; intro ys e q)
  cases q
  (refine x1_1 (X.obj i _ e) ?_; intro vs hl rr)
  exact ⟨_, vs, r.2, hl.isList, rr⟩
theorem SubW.tup {value slice : Expr} {xs : List PyData} {i : Int} {j : Nat} {d : PyData} {Q : AV → AH → Prop} (hs : ∀ o i, subscripted slice false o i = operate [o, i] (getItem o i))
  (hlo : -(2 ^ 63) ≤ i) (hhi : i < 2 ^ 63) (hj : seqIndex? i xs.length = some j) (hx : xs[j]? = some d) (h : Q (.d d) σ) : SubW g k value slice (.d (.tuple xs)) (.d (.int i)) σ Q := by
 intro A W s va vb R X ra rb
 (refine x2_1 (X.tup ra) ?_; intro a vs z22 z23; obtain rfl := z22; refine x0_1 z23 ?_; clear z23; intro ht r)
 (refine x1_0 rb.int ?_; intro t z24; obtain rfl := z24)
 (refine x1_1 (r.get hx) ?_; intro v hv rv)
 have hl := r.length
 exact tail_any ht.typeIs slot_tuple_getitem.lookup (getItem_tuple ht hlo hhi (by rw [← Array.length_toList, hl]; exact hj) (by simpa using hv) (VPost.now X (a := .d d) rv h)) (hs _ _)
theorem SubW.lst {value slice : Expr} {a : AV} {xs : List PyData} {i : Int} {d : PyData} {Q : AV → AH → Prop} (hs : ∀ o i, subscripted slice false o i = operate [o, i] (getItem o i)) (ha : AsD σ a (.list xs))
  (hlo : 0 ≤ i) (hhi : i < 2 ^ 63) (hx : xs[i.toNat]? = some d) (h : Q (.d d) σ) : SubW g k value slice a (.d (.int i)) σ Q := by
 intro A W s va vb R X ra rb
 (refine x2_1 (X.lstA ra ha) ?_; intro a vs z25 z26; obtain rfl := z25; refine x0_1 z26 ?_; clear z26; intro ht r)
 (refine x1_0 rb.int ?_; intro t z27; obtain rfl := z27)
 (refine x1_1 (r.get hx) ?_; intro v hv rv)
 exact tail_any ht.typeIs slot_list_getitem.lookup (wpAny_getItem_list ht hlo hhi (by simpa using hv) (VPost.now X (a := .d d) rv h)) (hs _ _)
end
end
section
set_option tactic.hygienic false
noncomputable def isVar (sc : Scope) (x : Str) : Prop := sc.names.lookup x = some .local ∨ sc.names.lookup x = some .cell
section
variable {K : Params → Frag} {g : G K} {k : Nat} {sc : Scope} {m : Loc} {σ : AH}
theorem CellIs.setP {W : Wd} {a c : Addr} {o v : Option _} (h : CellIs W.P c v) (hc : c ≠ a) : CellIs (W.setP a o).P c v :=
 x1_1 h fun x e d => ⟨x, by show (if c = a then o else W.P c) = some x; rw [if_neg hc]; exact e, d⟩
theorem store_name {x : Str} {A : Around} {env : Env} {W : Wd} {s : Shared} {v : Value} {a : AV} {R : Unit → Shared → Prop} (hx : isVar sc x) (eo : EnvOk env sc) (X : Abs g W σ s.heap) (Fm : Frm env m W) (r : VR W v a)
  (q : ∀ W' s', Stp g W s W' σ s' → FrP env W W' → Frm env (upd m x a) W' → R () s') : wpAny (model g.prog g.w) A (storeName env x v) R NoE s := by
 rcases hx with hx | hx
 ·(refine x3_3 Fm.loc ?_; intro o es ep h1 h2 h3 h4)
  refine wpAny_storeName_local (by unfold Env.kindOf; rw [eo.scope]; exact hx) (m := nsFind es) ⟨o, es, ep, X.keepP _ _ h1, h2, h3, fun ww => rfl⟩ (fun h' hn hs => ?_) (by rw [eo.scope, eo.kind]; rfl)
  (refine x3_3 hn ?_; clear hn; intro o' es' ep' e1 e2 e3 e4)
  have X' := X.updP h1 hs.2 e1
  refine q (W.setP env.locals (some o')) _ ⟨X', W.leP _ _, rfl, rfl⟩ (fun b hb ww => by show (if b = env.locals then _ else _) = _; rw [if_neg hb]) ⟨⟨o', es', ep', by show (if env.locals = env.locals then _ else _) = _; rw [if_pos rfl], e2, e3, fun y w hy hm => ?_⟩, fun y w hy hm => ?_, fun y hy => ?_, Fm.inj, Fm.apart⟩
  ·rw [e4]
   show ∃ v', (if y = x then some v else nsFind es y) = some v' ∧ VR W v' w
   unfold upd at hm
   by_cases hyx : y = x
   ·subst hyx
    rw [if_pos rfl] at hm ⊢
    cases hm
    exact ⟨v, rfl, r⟩
   ·rw [if_neg hyx] at hm ⊢
    exact h4 y w hy hm
  ·have hyx : y ≠ x := by rintro rfl; rw [eo.scope, hx] at hy; cases hy
   unfold upd at hm
   rw [if_neg hyx] at hm
   (refine x2_2 (Fm.free y w hy hm) ?_; intro c v' p1 p2 p3)
   exact ⟨c, v', p1, p2.setP (Fm.apart y c p1), p3⟩
  ·have hyx : y ≠ x := by rintro rfl; rw [eo.scope, hx] at hy; cases hy
   (refine x2_2 (Fm.cell y hy) ?_; intro c cv p1 p2 p3)
   refine ⟨c, cv, p1, p2.setP (Fm.apart y c p1), fun w hm => ?_⟩
   unfold upd at hm
   rw [if_neg hyx] at hm
   exact p3 w hm
 ·(refine x2_2 (Fm.cell x (by rw [eo.scope]; exact hx)) ?_; intro c cv p1 z1 p3; (refine x1_1 z1 ?_; clear z1; intro o p2 p2'))
  refine wpAny_storeName_cell (by rw [eo.scope]; exact eo.kind) (by unfold Env.kindOf; rw [eo.scope]; exact hx) p1 ⟨o, X.keepP _ _ p2, p2'⟩ fun h' hc hs => ?_
  (refine x1_1 hc ?_; clear hc; intro o' e1 e2)
  have X' := X.updP p2 hs.2 e1
  have hL : env.locals ≠ c := fun z => Fm.apart x c p1 z.symm
  refine q (W.setP c (some o')) _ ⟨X', W.leP _ _, rfl, rfl⟩ (fun b ww hb => by show (if b = c then _ else _) = _; rw [if_neg (hb x c (by rw [eo.scope]; exact hx) p1)]) ⟨?_, fun y w hy hm => ?_, fun y hy => ?_, Fm.inj, Fm.apart⟩
  ·(refine x3_3 Fm.loc ?_; intro o es ep h1 h2 h3 h4)
   refine ⟨o, es, ep, by show (if env.locals = c then _ else _) = _; rw [if_neg hL]; exact h1, h2, h3, fun y w hy hm => ?_⟩
   have hyx : y ≠ x := by rintro rfl; rw [eo.scope, hx] at hy; cases hy
   unfold upd at hm
   rw [if_neg hyx] at hm
   exact h4 y w hy hm
  ·have hyx : y ≠ x := by rintro rfl; rw [eo.scope, hx] at hy; cases hy
   unfold upd at hm
   rw [if_neg hyx] at hm
   (refine x2_2 (Fm.free y w hy hm) ?_; intro c' v' q1 z2 q3; (refine x1_1 z2 ?_; clear z2; intro oo q2 q2'))
   have hcc : c' ≠ c := by rintro rfl; exact hyx (Fm.inj x y _ (by rw [eo.scope]; exact hx) p1 q1).symm
   exact ⟨c', v', q1, CellIs.setP ⟨oo, q2, q2'⟩ hcc, q3⟩
  ·by_cases hyx : y = x
   ·subst hyx
    refine ⟨c, some v, p1, ⟨o', by show (if c = c then _ else _) = _; rw [if_pos rfl], e2⟩, fun w hm => ?_⟩
    unfold upd at hm
    rw [if_pos rfl] at hm
    cases hm
    exact ⟨v, rfl, r⟩
   ·(refine x2_2 (Fm.cell y hy) ?_; intro c' cv' q1 q2 q3)
    have hcc : c' ≠ c := by rintro rfl; exact hyx (Fm.inj y x _ hy q1 p1)
    refine ⟨c', cv', q1, q2.setP hcc, fun w hm => ?_⟩
    unfold upd at hm
    rw [if_neg hyx] at hm
    exact q3 w hm
noncomputable def uA (m : Loc) : List Str → List AV → Loc
 | x :: xs, a :: as => uA (upd m x a) xs as
 | _, _ => m
section
variable (g : G K)
noncomputable def AsgW (k : Nat) (sc : Scope) (m : Loc) (σ : AH) (t : Expr) (a : AV) (Q : Loc → AH → Prop) : Prop :=
 ∀ (A : Around) (env : Env) (W : Wd) (s : Shared) (v : Value), Room k A → EnvOk env sc → Abs g W σ s.heap → Frm env m W → VR W v a →
  wpAny (model g.prog g.w) A (assign t env v) (fun ww s' => APost g env W s Q s') NoE s
noncomputable def TpW (k : Nat) (sc : Scope) (m : Loc) (σ : AH) (e : Expr) (Q : List AV → AH → Prop) : Prop :=
 ∀ (A : Around) (env : Env) (W : Wd) (s : Shared), Room k A → EnvOk env sc → Abs g W σ s.heap → Frm env m W →
  wpAny (model g.prog g.w) A (eval e env) (fun v s' => ∃ W' σ' t vs as, Stp g W s W' σ' s' ∧ W'.P = W.P ∧ v = .ref t ∧ IsTup s'.heap t vs ∧ VRs W' vs.toList as ∧ Q as σ') NoE s
end
theorem VRs.ofRd {W : Wd} {vs : List Value} {ds : List PyData} (h : RdAll W.F vs ds) : VRs W vs (ds.map .d) := by
 induction vs generalizing ds with
 | nil => cases h; exact .nil
 | cons v vs ih => cases h with | cons h r => exact .cons h (ih r)
theorem VRs.toRd {W : Wd} {vs : List Value} {ds : List PyData} (h : VRs W vs (ds.map .d)) : RdAll W.F vs ds := by
 induction ds generalizing vs with
 | nil => cases h; exact .nil
 | cons d ds ih => cases h with | cons h r => exact .cons h (ih r)
theorem VRs.length {W : Wd} {vs : List Value} {as : List AV} (h : VRs W vs as) : vs.length = as.length := by
 induction h with
 | nil => rfl
 | cons _ _ ih => rw [List.length_cons, List.length_cons, ih]
theorem TpW.data {e : Expr} {Q : List AV → AH → Prop} (h : EvW g k sc m σ e (fun a σ1 => ∃ ds, a = .d (.tuple ds) ∧ Q (ds.map .d) σ1)) : TpW g k sc m σ e Q := by
 intro A env W s R eo X Fm
 refine h.then R eo X Fm fun v s1 W1 σ1 a st p Fm1 vr h1 => ?_
 (refine x1_1 h1 ?_; clear h1; intro ds z3 q; obtain rfl := z3)
 (refine x2_1 (st.abs.tup vr) ?_; intro t vs z4 z5; obtain rfl := z4; refine x0_1 z5 ?_; clear z5; intro ht r)
 exact ⟨W1, σ1, t, vs, _, st, p, rfl, ht, VRs.ofRd r, q⟩
theorem TpW.display {es : List Expr} {n : Nat} {pos : Pos} {Q : List AV → AH → Prop} (h : SpW g k sc m σ es (fun as σ1 => as.length ≤ 1000 ∧ Q as σ1)) : TpW g k sc m σ (.Tuple es n pos) Q := by
 intro A env W s R eo X Fm
 refine Tuple_ (wpAny_mono (h A env W s pos R eo X Fm) (fun vs s1 z => ?_) fun ww ww x => x)
 (refine LPost.out z ?_; clear z; intro W1 σ1 as st p vr zq; refine x0_1 zq ?_; clear zq; intro hl q)
 refine wpAny_newTuple ?_ (by rw [vr.length, sizeLine_eq]; lia)
 have X1 := st.abs.grows (Grows.push s1.heap { cls := .type "tuple", data := .seq vs.toArray })
 exact ⟨W1, σ1, _, vs.toArray, as, ⟨X1, st.le, st.os, st.gens⟩, p, rfl, IsTup.new _ _, by simpa using vr, q⟩
theorem AsgW.name {x : Str} {pos : Pos} {a : AV} {Q : Loc → AH → Prop} (hx : isVar sc x) (h : Q (upd m x a) σ) : AsgW g k sc m σ (.Name x pos) a Q := by
 intro A env W s v R eo X Fm r
 exact assign_Name (store_name hx eo X Fm r fun W' s' st fp Fm' => ⟨W', σ, _, st, fp, Fm', h⟩)
noncomputable def nameEs : List (Str × Pos) → List Expr
 | [] => []
 | (x, p) :: r => .Name x p :: nameEs r
theorem nameEs_len (env : Env) : ∀ ns : List (Str × Pos), (assignEach (nameEs ns) env).length = ns.length
 | [] => rfl
 | (x, p) :: r => congrArg Nat.succ (nameEs_len env r)
theorem nameEs_star (env : Env) : ∀ ns : List (Str × Pos), (assignEach (nameEs ns) env).findIdx? (·.1) = none
 | [] => rfl
 | (x, p) :: r => by
  have e : assignEach (nameEs ((x, p) :: r)) env = (false, assign (.Name x p) env) :: assignEach (nameEs r) env := rfl
  rw [e, List.findIdx?_cons, nameEs_star env r]; rfl
theorem assign_names {A : Around} {env : Env} {R : Unit → Shared → Prop} (eo : EnvOk env sc) : ∀ (ns : List (Str × Pos)) (vs : List Value) (as : List AV) (m : Loc) (W : Wd) (s : Shared), (∀ p ∈ ns, isVar sc p.1) → ns.length = as.length → Abs g W σ s.heap → Frm env m W → VRs W vs as →
  (∀ W' s', Stp g W s W' σ s' → FrP env W W' → Frm env (uA m (ns.map (·.1)) as) W' → R () s') → wpAny (model g.prog g.w) A (assignInOrder ((assignEach (nameEs ns) env).map (·.2)) vs) R NoE s
 | [], vs, as, m, W, s, _, _, X, Fm, r, q => assignInOrder_nil (q W s (Stp.refl X) (FrP.refl env W) Fm)
 | (x, p) :: ns, vs0, as0, m, W, s, hv, hl, X, Fm, r0, q => by
  cases r0 with
  | nil => cases hl
  | @cons v vs a as rv r =>
  have e : (assignEach (nameEs ((x, p) :: ns)) env).map (·.2) = assign (.Name x p) env :: (assignEach (nameEs ns) env).map (·.2) := rfl
  rw [e]
  refine assignInOrder_cons (assign_Name (store_name (hv _ (.head _)) eo X Fm rv fun W' s' st fp Fm' => ?_))
  exact assign_names eo ns vs as (upd m x a) W' s' (fun p hp => hv p (.tail _ hp)) (Nat.succ.inj hl) st.abs Fm' (r.le st.le) fun W'' s'' st' fp' Fm'' => q W'' s'' (st.trans st') (fp.trans fp') Fm''
theorem AsgW.tuple {es : List Expr} {n : Nat} {pos : Pos} {ds : List PyData} {ns : List (Str × Pos)} {Q : Loc → AH → Prop} (he : es = nameEs ns) (hv : ∀ p ∈ ns, isVar sc p.1) (hl : ns.length = ds.length)
  (h : Q (uA m (ns.map (·.1)) (ds.map .d)) σ) : AsgW g k sc m σ (.Tuple es n pos) (.d (.tuple ds)) Q := by
 intro A env W s v R eo X Fm r
 (refine x2_1 (X.tup r) ?_; intro t vs z6 z7; obtain rfl := z6; refine x0_1 z7 ?_; clear z7; intro ht r)
 subst he
 have hz : vs.size = ds.length := by rw [← Array.length_toList]; exact r.length
 refine assign_Tuple_tuple R.handled ht (by rw [nameEs_len, hl, hz]) (nameEs_star env ns) fun h' hx => ?_
 have gr : Grows s.heap h' := fun b o e => hx b o (Nat.ne_of_lt (Heap.lt_size e)) e
 have X' := X.grows gr
 exact assign_names eo ns _ (ds.map .d) m W { s with heap := h' } hv (by simpa using hl) X' Fm (VRs.ofRd r) fun W' s' st fp Fm' => ⟨W', σ, _, ⟨st.abs, st.le, st.os, st.gens⟩, fp, Fm', h⟩
theorem StW.assign {x : Str} {p : Pos} {e : Expr} {pos : Pos} {Q : Fl → Loc → AH → Prop} (hx : isVar sc x) (hs : ∀ env, swapsWith e (some (.Name x p)) pos.line env = pure false) (h : EvW g k sc m σ e (fun a σ1 => Q .next (upd m x a) σ1)) : StW g k sc m σ (.Assign [.Name x p] e pos) Q := by
 intro A env W s R eo X Fm
 refine wpAny_Assign_Name (h.then R eo X Fm fun v s1 W1 σ1 a st pp Fm1 vr h1 => store_name hx eo st.abs Fm1 vr fun W' s' st' fp Fm' => ?_) (hs env)
 exact ⟨W', σ1, _, .next, st.trans st', (FrP.of pp).trans fp, Fm', trivial, h1⟩
theorem StW.unpack {es : List Expr} {n : Nat} {tpos : Pos} {e : Expr} {pos : Pos} {ns : List (Str × Pos)} {Q : Fl → Loc → AH → Prop} (he : es = nameEs ns) (hv : ∀ p ∈ ns, isVar sc p.1)
  (hs : ∀ env, swapsWithSole [.Tuple es n tpos] e pos.line env = pure false) (hw : ∀ env, env.scope = sc → swappedStores [.Tuple es n tpos] e env = pure none)
  (h : TpW g k sc m σ e (fun as σ1 => ns.length = as.length ∧ Q .next (uA m (ns.map (·.1)) as) σ1)) : StW g k sc m σ (.Assign [.Tuple es n tpos] e pos) Q := by
 intro A env W s R eo X Fm
 refine PyProof.Rows.Assign_Tuple (wpAny_mono (h A env W s R eo X Fm) (fun v s1 z => ?_) fun ww ww x => x) (hs env) (hw env eo.scope)
 (refine x5_3 z ?_; clear z; intro W1 σ1 t vs as st p z8 z9; obtain rfl := z8; refine x0_3 z9 ?_; clear z9; intro ht vr hl q)
 subst he
 have hz : vs.size = as.length := by rw [← Array.length_toList]; exact vr.length
 refine assign_Tuple_tuple R.handled ht (by rw [nameEs_len, hl, hz]) (nameEs_star env ns) fun h' hx => ?_
 have gr : Grows s1.heap h' := fun b o e => hx b o (Nat.ne_of_lt (Heap.lt_size e)) e
 have X' := st.abs.grows gr
 exact assign_names eo ns _ as m W1 { s1 with heap := h' } hv hl X' (Fm.le st.le p) vr fun W' s' st' fp Fm' =>
  ⟨W', σ1, _, .next, ⟨st'.abs, st.le.trans st'.le, st'.os.trans st.os, st'.gens.trans st.gens⟩, (FrP.of p).trans fp, Fm', trivial, q⟩
theorem bind_names {A : Around} {env : Env} {R : Unit → Shared → Prop} (eo : EnvOk env sc) : ∀ (ns : List Str) (vs : List Value) (as : List AV) (m : Loc) (W : Wd) (s : Shared), (∀ p ∈ ns, isVar sc p) → ns.length = as.length → Abs g W σ s.heap → Frm env m W → VRs W vs as →
  (∀ W' s', Stp g W s W' σ s' → FrP env W W' → Frm env (uA m ns as) W' → R () s') → wpAny (model g.prog g.w) A (assignInOrder (ns.map fun n => bindName env n) vs) R NoE s
 | [], vs, as, m, W, s, _, _, X, Fm, r, q => assignInOrder_nil (q W s (Stp.refl X) (FrP.refl env W) Fm)
 | x :: ns, vs0, as0, m, W, s, hv, hl, X, Fm, r0, q => by
  cases r0 with
  | nil => cases hl
  | @cons v vs a as rv r =>
  rw [List.map_cons]
  refine assignInOrder_cons (bindName_ (store_name (hv _ (.head _)) eo X Fm rv fun W' s' st fp Fm' => ?_))
  exact bind_names eo ns vs as (upd m x a) W' s' (fun p hp => hv p (.tail _ hp)) (Nat.succ.inj hl) st.abs Fm' (r.le st.le) fun W'' s'' st' fp' Fm'' => q W'' s'' (st.trans st') (fp.trans fp') Fm''
theorem VRs.append {W : Wd} {vs ws : List Value} {as bs : List AV} (h : VRs W vs as) (k : VRs W ws bs) : VRs W (vs ++ ws) (as ++ bs) := by
 induction h with
 | nil => exact k
 | cons h _ ih => exact .cons h ih
theorem VRs.reverse {W : Wd} {vs : List Value} {as : List AV} (h : VRs W vs as) : VRs W vs.reverse as.reverse := by
 induction h with
 | nil => exact .nil
 | cons h _ ih => rw [List.reverse_cons, List.reverse_cons]; exact ih.append (.cons h .nil)
theorem StW.swapped {es : List Expr} {n : Nat} {tpos : Pos} {e : Expr} {pos : Pos} {ns : List Str} {Q : Fl → Loc → AH → Prop} (hv : ∀ p ∈ ns, isVar sc p)
  (hs : ∀ env, swapsWithSole [.Tuple es n tpos] e pos.line env = pure false) (hw : ∀ env, env.scope = sc → swappedStores [.Tuple es n tpos] e env = pure (some ns))
  (h : TpW g k sc m σ e (fun as σ1 => ns.length = as.length ∧ Q .next (uA m ns.reverse as.reverse) σ1)) : StW g k sc m σ (.Assign [.Tuple es n tpos] e pos) Q := by
 intro A env W s R eo X Fm
 refine PyProof.Rows.Assign_Tuple_swapped (wpAny_mono (h A env W s R eo X Fm) (fun v s1 z => ?_) fun ww ww x => x) (hs env) (hw env eo.scope)
 (refine x5_3 z ?_; clear z; intro W1 σ1 t vs as st p z10 z11; obtain rfl := z10; refine x0_3 z11 ?_; clear z11; intro ht vr hl q)
 have hz : vs.size = as.length := by rw [← Array.length_toList]; exact vr.length
 rw [hl, ← hz]
 refine unpackItems_tuple R.handled ht fun h' hx => ?_
 have gr : Grows s1.heap h' := fun b o e => hx b o (Nat.ne_of_lt (Heap.lt_size e)) e
 have X' := st.abs.grows gr
 exact bind_names eo ns.reverse _ as.reverse m W1 { s1 with heap := h' } (fun p hp => hv p (List.mem_reverse.mp hp)) (by simpa using hl) X' (Fm.le st.le p) vr.reverse fun W' s' st' fp Fm' =>
  ⟨W', σ1, _, .next, ⟨st'.abs, st.le.trans st'.le, st'.os.trans st.os, st'.gens.trans st.gens⟩, (FrP.of p).trans fp, Fm', trivial, q⟩
end
end
section
set_option tactic.hygienic false
inductive FrzAll : AH → List AV → List PyData → AH → Prop
 | nil {σ} : FrzAll σ [] [] σ
 | d {σ x as ds σ'} : FrzAll σ as ds σ' → FrzAll σ (.d x :: as) (x :: ds) σ'
 | r {σ i xs as ds σ'} : σ.get i = some (.list xs) → FrzAll (σ.del i) as ds σ' → FrzAll σ (.r i :: as) (.list xs :: ds) σ'
section
variable {K : Params → Frag} {g : G K} {k : Nat} {sc : Scope} {m : Loc} {σ : AH}
theorem AH.del_get {σ : AH} {i j : Nat} {o : AO} (e : (σ.del i).get j = some o) : j ≠ i ∧ σ.get j = some o := by
 change (if j = i then none else σ.get j) = some o at e
 split at e
 ·cases e
 ·rename_i h; exact ⟨h, e⟩
theorem Abs.del {W : Wd} {h : Heap} (X : Abs g W σ h) (i : Nat) : Abs g W (σ.del i) h :=
 ⟨X.base, X.keepF, X.keepP, X.fp, X.n, fun j o e => X.obj j o (AH.del_get e).2, fun j o e => X.lt j o (AH.del_get e).2, fun a b c ⟨o, e, q⟩ ⟨o', e', q'⟩ => X.sep a b c ⟨o, (AH.del_get e).2, q⟩ ⟨o', (AH.del_get e').2, q'⟩,
  fun j C fs e => X.two j C fs (AH.del_get e).2, fun j a hh => x1_1 hh fun o e q => X.free j a ⟨o, (AH.del_get e).2, q⟩⟩
theorem Abs.freeze {W : Wd} {h : Heap} (X : Abs g W σ h) {i : Nat} {xs : List PyData} (e : σ.get i = some (.list xs)) : ∃ W', Abs g W' (σ.del i) h ∧ Le W W' ∧ W'.P = W.P ∧ Rd W'.F (.ref (W.φ i)) (.list xs) := by
 (refine x1_1 (X.obj i _ e) ?_; intro vs z1 r; (refine x1_0 z1 ?_; clear z1; intro n ho))
 have ow : Owns W σ i (W.φ i) := ⟨_, e, .inl rfl⟩
 have no : ∀ j, ¬ Owns W (σ.del i) j (W.φ i) := fun j hh => x1_1 hh fun o' e' q => (AH.del_get e').1 (X.sep j i _ ⟨o', (AH.del_get e').2, q⟩ ow)
 have Y := (X.del i).addF ho (X.free i _ ow).1 (X.free i _ ow).2 no
 have l := X.leF (X.free i _ ow).1 { cls := .type "list", data := .seq vs n }
 exact ⟨_, Y, l, rfl, .list (W.addF_at _ _) rfl rfl (RdAll.mono l.F r)⟩
theorem Abs.freezeAll {h : Heap} : ∀ {σ : AH} {as : List AV} {ds : List PyData} {σ' : AH} {W : Wd} {vs : List Value}, FrzAll σ as ds σ' → Abs g W σ h → VRs W vs as → ∃ W', Abs g W' σ' h ∧ Le W W' ∧ W'.P = W.P ∧ RdAll W'.F vs ds := by
 intro σ as ds σ' W vs f
 induction f generalizing W vs with
 | nil => intro X r; cases r; exact ⟨W, X, Le.refl W, rfl, .nil⟩
 | d f ih =>
  intro X r
  cases r with
  | cons rv r =>
   (refine x1_3 (ih X r) ?_; intro W' X' l p q)
   exact ⟨W', X', l, p, .cons (Rd.mono l.F rv) q⟩
 | r e f ih =>
  intro X r
  cases r with
  | cons rv r =>
   (refine x1_3 (X.freeze e) ?_; intro W1 X1 l1 p1 q1)
   (refine x1_3 (ih X1 (r.le l1)) ?_; intro W' X' l p q)
   refine ⟨W', X', l1.trans l, p.trans p1, .cons ?_ q⟩
   rw [rv.2]; exact Rd.mono l.F q1
theorem newTup {A : Around} {W : Wd} {s : Shared} {vs : List Value} {ds : List PyData} {Q : AV → AH → Prop} (X : Abs g W σ s.heap) (r : RdAll W.F vs ds) (hl : ds.length ≤ 10000) (h : Q (.d (.tuple ds)) σ) :
  wpAny (model g.prog g.w) A (newTuple vs) (VPost g W s Q) NoE s := by
 refine wpAny_newTuple ?_ (by rw [r.length, sizeLine_eq]; lia)
 (refine x0_1 (X.allocF (o := { cls := .type "tuple", data := .seq vs.toArray }) rfl) ?_; intro X' l)
 exact ⟨_, σ, .d (.tuple ds), ⟨X', l, rfl, rfl⟩, rfl, Rd.tuple (W.addF_at _ _) rfl rfl (by simpa using RdAll.mono l.F r), h⟩
theorem newLst {A : Around} {W : Wd} {s : Shared} {vs : List Value} {ds : List PyData} {Q : AV → AH → Prop} (X : Abs g W σ s.heap) (r : RdAll W.F vs ds) (hl : ds.length ≤ 10000) (h : Q (.d (.list ds)) σ) :
  wpAny (model g.prog g.w) A (newList vs) (VPost g W s Q) NoE s := by
 refine wpAny_newList ?_ (by rw [r.length, sizeLine_eq]; lia)
 (refine x0_1 (X.allocF (o := { cls := .type "list", data := .seq vs.toArray }) rfl) ?_; intro X' l)
 exact ⟨_, σ, .d (.list ds), ⟨X', l, rfl, rfl⟩, rfl, Rd.list (W.addF_at _ _) rfl rfl (by simpa using RdAll.mono l.F r), h⟩
theorem newLstO {A : Around} {W : Wd} {s : Shared} {vs : List Value} {ds : List PyData} {Q : AV → AH → Prop} (X : Abs g W σ s.heap) (r : RdAll W.F vs ds) (hl : ds.length ≤ 10000) (h : Q (.r σ.next) (σ.push (.list ds))) :
  wpAny (model g.prog g.w) A (newList vs) (VPost g W s Q) NoE s := by
 refine wpAny_newList ?_ (by rw [r.length, sizeLine_eq]; lia)
 have X' := X.allocList (vs := vs.toArray) (xs := ds) (by simpa using r)
 refine ⟨_, _, .r σ.next, ⟨X', W.leO _ _, rfl, rfl⟩, rfl, ?_, h⟩
 rw [← X.n]
 exact ⟨Nat.lt_succ_self _, by rw [W.addO_φ]⟩
theorem EvW.tup {es : List Expr} {n : Nat} {pos : Pos} {Q : AV → AH → Prop} (h : SpW g k sc m σ es (fun as σ1 => ∃ ds σ2, FrzAll σ1 as ds σ2 ∧ ds.length ≤ 1000 ∧ Q (.d (.tuple ds)) σ2)) : EvW g k sc m σ (.Tuple es n pos) Q := by
 intro A env W s R eo X Fm
 refine Tuple_ (wpAny_mono (h A env W s pos R eo X Fm) (fun vs s1 z => ?_) fun ww ww x => x)
 (refine LPost.out z ?_; clear z; intro W1 σ1 as st p vr z2; refine x2_2 z2 ?_; clear z2; intro ds σ2 f hl q)
 (refine x1_3 (st.abs.freezeAll f vr) ?_; intro W2 X2 l2 p2 r)
 exact wpAny_mono (newTup X2 r (by lia) q) (fun ww ww z => VPost.go ⟨X2, st.le.trans l2, st.os, st.gens⟩ (p2.trans p) z) fun ww ww x => x
theorem EvW.lst {es : List Expr} {pos : Pos} {Q : AV → AH → Prop} (h : SpW g k sc m σ es (fun as σ1 => ∃ ds σ2, FrzAll σ1 as ds σ2 ∧ ds.length ≤ 1000 ∧ Q (.d (.list ds)) σ2)) : EvW g k sc m σ (.List es pos) Q := by
 intro A env W s R eo X Fm
 refine List_ (wpAny_mono (h A env W s pos R eo X Fm) (fun vs s1 z => ?_) fun ww ww x => x)
 (refine LPost.out z ?_; clear z; intro W1 σ1 as st p vr z3; refine x2_2 z3 ?_; clear z3; intro ds σ2 f hl q)
 (refine x1_3 (st.abs.freezeAll f vr) ?_; intro W2 X2 l2 p2 r)
 exact wpAny_mono (newLst X2 r (by lia) q) (fun ww ww z => VPost.go ⟨X2, st.le.trans l2, st.os, st.gens⟩ (p2.trans p) z) fun ww ww x => x
theorem EvW.lst0 {pos : Pos} {Q : AV → AH → Prop} (h : Q (.r σ.next) (σ.push (.list []))) : EvW g k sc m σ (.List [] pos) Q := fun A env W s R eo X Fm =>
 List_ (spliced_none (newLstO (ds := []) X .nil (by simp) h))
theorem BinW.cat {xs ys : List PyData} {Q : AV → AH → Prop} (hl : xs.length + ys.length ≤ 10000) (h : Q (.d (.tuple (xs ++ ys))) σ) : BinW g k .Add (.d (.tuple xs)) (.d (.tuple ys)) σ Q := by
 intro A W s va vb R X ra rb
 change Rd W.F va (.tuple xs) at ra
 change Rd W.F vb (.tuple ys) at rb
 refine x4_4 ra.inv ?_
 clear ra
 intro a o vs n zv e hc hd r
 subst zv
 refine x4_4 rb.inv ?_
 clear rb
 intro b o2 ws n2 zv e2 hc2 hd2 r2
 subst zv
 obtain ⟨cls, dd, data, sl⟩ := o
 obtain ⟨cls2, dd2, data2, sl2⟩ := o2
 simp only at hc hd hc2 hd2
 subst hc hd hc2 hd2
 have ho := X.keepF _ _ e
 have ho2 := X.keepF _ _ e2
 have l1 := r.length
 have l2 := r2.length
 by_cases hv : xs = []
 ·subst hv
  have hz : vs.isEmpty = true := by
   have : vs.toList = [] := List.eq_nil_of_length_eq_zero (by simpa using l1)
   simpa using this
  refine concat_meets ⟨_, ho, rfl⟩ ⟨_, ho2, rfl⟩ noFill_tuple_add seq_tuple_add PySem.F.slot_tuple_add PySem.F.entry_tuple_add (PySem.F.args_tuple_add_2 _ _)
   (tuple_addW0 a b vs ws n n2 dd dd2 sl sl2 hz) ⟨ho, ho2, ?_⟩
  exact VPost.now (a := .d (.tuple ([] ++ ys))) X (by rw [List.nil_append]; exact Rd.tuple e2 rfl rfl r2) h
 ·have hz : ¬ vs.isEmpty = true := by
   intro q
   have : vs.toList = [] := by simpa using q
   rw [this] at l1
   exact hv (List.eq_nil_of_length_eq_zero l1.symm)
  by_cases hw : ys = []
  ·subst hw
   have hz2 : ws.isEmpty = true := by
    have : ws.toList = [] := List.eq_nil_of_length_eq_zero (by simpa using l2)
    simpa using this
   refine concat_meets ⟨_, ho, rfl⟩ ⟨_, ho2, rfl⟩ noFill_tuple_add seq_tuple_add PySem.F.slot_tuple_add PySem.F.entry_tuple_add (PySem.F.args_tuple_add_2 _ _)
    (tuple_addW1 a b vs ws n n2 dd dd2 sl sl2 hz hz2) ⟨ho, ho2, ?_⟩
   exact VPost.now (a := .d (.tuple (xs ++ []))) X (by rw [List.append_nil]; exact Rd.tuple e rfl rfl r) h
  ·have hz2 : ¬ ws.isEmpty = true := by
    intro q
    have : ws.toList = [] := by simpa using q
    rw [this] at l2
    exact hw (List.eq_nil_of_length_eq_zero l2.symm)
   refine concat_meets ⟨_, ho, rfl⟩ ⟨_, ho2, rfl⟩ noFill_tuple_add seq_tuple_add PySem.F.slot_tuple_add PySem.F.entry_tuple_add (PySem.F.args_tuple_add_2 _ _)
    (tuple_addW2 a b vs ws n n2 dd dd2 sl sl2 hz hz2 (by rw [sizeLine_eq, ← Array.length_toList, ← Array.length_toList, l1, l2]; lia)) ⟨ho, ho2, ?_⟩
   (refine x0_1 (X.allocF (o := { cls := .type "tuple", data := .seq (vs ++ ws) }) rfl) ?_; intro X' l)
   exact ⟨_, σ, .d (.tuple (xs ++ ys)), ⟨X', l, rfl, rfl⟩, rfl, Rd.tuple (W.addF_at _ _) rfl rfl (by simpa using (RdAll.mono l.F r).append (RdAll.mono l.F r2)), h⟩
theorem BinW.catL {a b : AV} {xs ys : List PyData} {Q : AV → AH → Prop} (ha : AsD σ a (.list xs)) (hb : AsD σ b (.list ys)) (hl : xs.length + ys.length ≤ 10000) (h : Q (.d (.list (xs ++ ys))) σ) : BinW g k .Add a b σ Q := by
 intro A W s va vb R X ra rb
 (refine x2_1 (X.lstA ra ha) ?_; intro a vs z4 z5; obtain rfl := z4; refine x0_1 z5 ?_; clear z5; intro z6 r; (refine x1_2 z6 ?_; clear z6; intro z1 ho hc z2; obtain ⟨cls, dd, data, sl⟩ := z1; refine x1_0 z2 ?_; clear z2; intro n hd))
 (refine x2_1 (X.lstA rb hb) ?_; intro b ws z7 z8; obtain rfl := z7; refine x0_1 z8 ?_; clear z8; intro z9 r2; (refine x1_2 z9 ?_; clear z9; intro z3 ho2 hc2 z4; obtain ⟨cls2, dd2, data2, sl2⟩ := z3; refine x1_0 z4 ?_; clear z4; intro n2 hd2))
 simp only at hc hd hc2 hd2
 subst hc hd hc2 hd2
 have l1 := r.length
 have l2 := r2.length
 refine concat_meets ⟨_, ho, rfl⟩ ⟨_, ho2, rfl⟩ noFill_list_add seq_list_add PySem.F.slot_list_add PySem.F.entry_list_add (PySem.F.args_list_add_2 _ _)
  (list_addW a b vs ws n n2 dd dd2 sl sl2 (by rw [sizeLine_eq, ← Array.length_toList, ← Array.length_toList, l1, l2]; lia)) ⟨ho, ho2, ?_⟩
 (refine x0_1 (X.allocF (o := { cls := .type "list", data := .seq (vs ++ ws) }) rfl) ?_; intro X' l)
 exact ⟨_, σ, .d (.list (xs ++ ys)), ⟨X', l, rfl, rfl⟩, rfl, Rd.list (W.addF_at _ _) rfl rfl (by simpa using (RdAll.mono l.F r).append (RdAll.mono l.F r2)), h⟩
noncomputable def sliceL {α : Type} (xs : List α) (lo hi : Option Int) : List α :=
 (xs.drop (Builtin.Slice.sliceAdjust lo hi 1 xs.length).1.toNat).take ((Builtin.Slice.sliceAdjust lo hi 1 xs.length).2 - (Builtin.Slice.sliceAdjust lo hi 1 xs.length).1).toNat
theorem sub_self_le {n a : Nat} (h : n ≤ n - a) (hn : ¬ n = 0) : a = 0 := by lia
theorem RdAll.drop {F : FH} {vs : List Value} {ds : List PyData} (h : RdAll F vs ds) (n : Nat) : RdAll F (vs.drop n) (ds.drop n) := by
 induction n generalizing vs ds with
 | zero => exact h
 | succ n ih => cases h with
  | nil => exact .nil
  | cons a r => exact ih r
theorem RdAll.take {F : FH} {vs : List Value} {ds : List PyData} (h : RdAll F vs ds) (n : Nat) : RdAll F (vs.take n) (ds.take n) := by
 induction n generalizing vs ds with
 | zero => exact .nil
 | succ n ih => cases h with
  | nil => exact .nil
  | cons a r => exact .cons a (ih r)
noncomputable def clp (v : Int) (n : Nat) : Int := if v < 0 then max (v + n) 0 else min v n
theorem clp_le (v : Int) (n : Nat) : 0 ≤ clp v n ∧ clp v n ≤ n := by unfold clp; split <;> lia
noncomputable def adA (n : Nat) (o : Option Int) : Int := match o with | none => 0 | some v => clp v n
noncomputable def adB (n : Nat) (o : Option Int) : Int := match o with | none => n | some v => clp v n
theorem adA_le (n : Nat) (o : Option Int) : 0 ≤ adA n o ∧ adA n o ≤ n := match o with
 | none => ⟨Int.le_refl 0, Int.natCast_nonneg n⟩
 | some v => clp_le v n
theorem adB_le (n : Nat) (o : Option Int) : 0 ≤ adB n o ∧ adB n o ≤ n := match o with
 | none => ⟨Int.natCast_nonneg n, Int.le_refl _⟩
 | some v => clp_le v n
theorem adj_eq (lo hi : Option Int) (n : Nat) : Builtin.Slice.sliceAdjust lo hi 1 (n : Int) = (adA n lo, adB n hi) := by cases lo <;> cases hi <;> rfl
theorem sliceAdjust_le (lo hi : Option Int) (n : Nat) : 0 ≤ (Builtin.Slice.sliceAdjust lo hi 1 (n : Int)).1 ∧ (Builtin.Slice.sliceAdjust lo hi 1 (n : Int)).1 ≤ n ∧ 0 ≤ (Builtin.Slice.sliceAdjust lo hi 1 (n : Int)).2 ∧ (Builtin.Slice.sliceAdjust lo hi 1 (n : Int)).2 ≤ n :=
 adj_eq lo hi n ▸ ⟨(adA_le n lo).1, (adA_le n lo).2, (adB_le n hi).1, (adB_le n hi).2⟩
theorem slicePlaces_one (a b : Int) : Builtin.Slice.slicePlaces a b 1 = (b - a).toNat := by
 unfold Builtin.Slice.slicePlaces
 have h1 : (1 : Int) > 0 := by lia
 simp only [h1, if_true, Int.ediv_one]
 split <;> lia
theorem pickFrom (xs : Array Value) (a : Int) (h : 0 ≤ a) (n : Nat) : ((List.range n).filterMap fun (k : Nat) => xs[(a + (k : Int) * 1).toNat]?).toArray = ((xs.toList.drop a.toNat).take n).toArray := by
 have e : (fun (k : Nat) => xs[(a + (k : Int) * 1).toNat]?) = fun k => xs[a.toNat + k]? := by
  funext k
  have : (a + (k : Int) * 1).toNat = a.toNat + k := by lia
  rw [this]
 rw [e]
 have := pick_run xs a.toNat n
 rw [List.filterMap_map] at this
 have e2 : ((fun x => xs[x]?) ∘ fun x => a.toNat + x) = fun k => xs[a.toNat + k]? := rfl
 rw [e2] at this
 rw [this]
theorem slicePart_of {M : Model} {A : Around} {E : Value → Shared → Prop} {s : Shared} {v : Value} {i : Option Int} {Q : Option Int → Shared → Prop} (hp : IsPart v i) (h : Q i s) : wpAny M A (Builtin.Slice.slicePartIndex v) Q E s := by
 cases hp with
 | none => exact wpAny_pure h
 | int i t =>
  unfold Builtin.Slice.slicePartIndex
  rw [if_neg (show ¬ ((Value.int i t == Value.none) = true) from Bool.false_ne_true)]
  refine wpAny_bind (wpAny_specialOf (T := "int") (typeIs_int s i t) int_index ?_)
  simp only [Option.isNone_some, Bool.false_eq_true, if_false]
  exact wpAny_bind (wpAny_of_eq (a := i) rfl (wpAny_pure h))
theorem sliceApplied_of {M : Model} {A : Around} {E : Value → Shared → Prop} {s : Shared} {sl : Addr} {vl vu : Value} {lo hi : Option Int} {n : Nat} {Q : Int × Int × Nat → Shared → Prop} (hs : s.heap.IsSliceOf sl vl vu .none) (pl : IsPart vl lo) (pu : IsPart vu hi)
  (h : Q ((Builtin.Slice.sliceAdjust lo hi 1 (n : Int)).1, 1, ((Builtin.Slice.sliceAdjust lo hi 1 (n : Int)).2 - (Builtin.Slice.sliceAdjust lo hi 1 (n : Int)).1).toNat) s) :
  wpAny M A (Builtin.Slice.sliceApplied (.ref sl) (pure (n : Int))) Q E s := by
 (refine x1_2 (id hs) ?_; intro os hos hcs hds)
 unfold Builtin.Slice.sliceApplied Builtin.Slice.sliceFields
 refine wpAny_bind (wpAny_bind (wpAny_field hos hds (x := vl) rfl (wpAny_bind (wpAny_field hos hds (x := vu) rfl (wpAny_bind (wpAny_field hos hds (x := .none) rfl (wpAny_pure ?_)))))))
 refine wpAny_bind (slicePart_of .none ?_)
 show wpAny _ _ (if ((1 : Int) == 0) = true then _ else _) _ _ s
 rw [if_neg (by decide)]
 refine wpAny_bind (slicePart_of pl (wpAny_bind (slicePart_of pu (wpAny_bind (wpAny_pure ?_)))))
 show wpAny _ _ (pure ((Builtin.Slice.sliceAdjust lo hi 1 (n : Int)).1, (1 : Int), Builtin.Slice.slicePlaces (Builtin.Slice.sliceAdjust lo hi 1 (n : Int)).1 (Builtin.Slice.sliceAdjust lo hi 1 (n : Int)).2 1)) _ _ s
 rw [slicePlaces_one]
 exact wpAny_pure h
theorem getItem_tuple_slice {A : Around} {E : Value → Shared → Prop} {s : Shared} {t sl : Addr} {o : Obj} {items : Array Value} {n : Nat} {vl vu : Value} {lo hi : Option Int} {Q : Value → Shared → Prop} (ho : s.heap.get? t = some o) (hc : o.cls = .type "tuple") (hd : o.data = .seq items n) (hs : s.heap.IsSliceOf sl vl vu .none)
  (pl : IsPart vl lo) (pu : IsPart vu hi) (hsz : items.size ≤ 10000)
  (h0 : sliceL items.toList lo hi = items.toList → Q (.ref t) s)
  (h : Q (.ref s.heap.objs.size) { s with heap := s.heap.push { cls := .type "tuple", data := .seq (sliceL items.toList lo hi).toArray } }) : wpAny (model g.prog g.w) A (getItem (.ref t) (.ref sl)) Q E s := by
 have ht : IsTup s.heap t items := ⟨o, ho, hc, n, hd⟩
 (refine x1_2 (id hs) ?_; intro os hos hcs hds)
 have hTs : s.TypeIs (.ref sl) "slice" := ⟨os, hos, hcs⟩
 have hb := sliceAdjust_le lo hi items.size
 have hlen : (sliceL items.toList lo hi).length ≤ items.size := by
  unfold sliceL
  rw [List.length_take, List.length_drop, Array.length_toList]; exact Nat.le_trans (Nat.min_le_right _ _) (Nat.sub_le _ _)
 unfold getItem
 try with_reducible refine wpAny_holding ?_
 first | refine wpAny_bind (wpAny_pure ?_) | skip
 refine wpAny_bind (wpAny_sequenceKey ht.typeIs (by decide) ?_)
 refine wpAny_bind (wpAny_callSpecial?_slot (name := Str.ofString "__getitem__") ht.typeIs slot_tuple_getitem
  (wpAny_call_entry slot_tuple_getitem ht.typeIs entry_tuple_getitem ?_ (args_tuple_getitem _ _)))
 show wpAny _ _ (Builtin.Tuple.tupleItemsOf (.ref t) >>= _) _ _ s
 refine wpAny_bind (tupleItemsOf_ ht ?_)
 refine wpAny_bind (wpAny_typeOf hTs ?_)
 rw [if_pos (by decide)]
 refine wpAny_bind (sliceApplied_of hs pl pu ?_)
 generalize hA : (Builtin.Slice.sliceAdjust lo hi 1 (items.size : Int)).1 = a at *
 generalize hB : (Builtin.Slice.sliceAdjust lo hi 1 (items.size : Int)).2 = b at *
 have hL : sliceL items.toList lo hi = (items.toList.drop a.toNat).take (b - a).toNat := by
  unfold sliceL
  rw [Array.length_toList, hA, hB]
 have fresh : wpAny (model g.prog g.w) A.in1 (do return ← ret (← Builtin.Tuple.tupleExact ((List.range (b - a).toNat).filterMap fun (k : Nat) => items[(a + (k : Int) * 1).toNat]?).toArray)) (fun fin s' => ∃ v, fin = .done (.ret v) ∧ wpAny (model g.prog g.w) A (pure v) Q E s') E s := by
  rw [pickFrom items a hb.1, ← hL]
  have hdrop : sizeOk (.seq (sliceL items.toList lo hi).toArray) := by
   show (sliceL items.toList lo hi).toArray.size ≤ sizeLine
   rw [List.size_toArray, sizeLine_eq]; lia
  exact wpAny_bind (m := Builtin.Tuple.tupleExact _) (wpAny_newObj_type (wpAny_pure ⟨_, rfl, wpAny_pure h⟩) hdrop)
 show wpAny _ _ (if (a == 0 && (1 : Int) == 1 && (b - a).toNat == items.size) = true then _ else _) _ _ s
 split
 ·rename_i q
  simp only [Bool.and_eq_true, beq_iff_eq] at q
  have hw : sliceL items.toList lo hi = items.toList := by
   rw [hL, q.2, q.1.1, show Int.toNat 0 = 0 from rfl, List.drop_zero, List.take_of_length_le (by simp)]
  unfold Builtin.Tuple.tupleIsExact
  refine wpAny_bind (wpAny_bind (wpAny_typeOf ht.typeIs (wpAny_pure ?_)))
  rw [if_pos (by decide)]
  exact wpAny_bind (wpAny_rule (wpAny_pure ⟨_, rfl, wpAny_pure (h0 hw)⟩))
 ·exact fresh
noncomputable def EpW (g : G K) (k : Nat) (sc : Scope) (m : Loc) (σ : AH) : Option Expr → (Option Int → AH → Prop) → Prop
 | none, Q => Q none σ
 | some e, Q => EvW g k sc m σ e (fun a σ1 => ∃ i, a = .d (.int i) ∧ Q (some i) σ1)
theorem EpW.then {A : Around} {env : Env} {W : Wd} {s : Shared} {e : Option Expr} {Q : Option Int → AH → Prop} {R : Value → Shared → Prop} (h : EpW g k sc m σ e Q) (rm : Room k A) (eo : EnvOk env sc) (X : Abs g W σ s.heap) (Fm : Frm env m W)
  (q : ∀ v s' W' σ' i, Stp g W s W' σ' s' → W'.P = W.P → Frm env m W' → IsPart v i → Q i σ' → R v s') : wpAny (model g.prog g.w) A (evalPart e env) R NoE s := by
 cases e with
 | none => rw [evalPart_none]; exact wpAny_pure (q _ s W σ none (Stp.refl X) rfl Fm .none h)
 | some e =>
  rw [evalPart_some]
  refine EvW.then h rm eo X Fm fun v s1 W1 σ1 a st p Fm1 vr h1 => ?_
  (refine x1_1 h1 ?_; clear h1; intro i z10 h1; obtain rfl := z10)
  (refine x1_0 vr.int ?_; intro t z11; obtain rfl := z11)
  exact q _ s1 W1 σ1 (some i) st p Fm1 (.int i t) h1
theorem RdAll.slice {F : FH} {vs : List Value} {ds : List PyData} (h : RdAll F vs ds) (lo hi : Option Int) : RdAll F (sliceL vs lo hi) (sliceL ds lo hi) := by
 unfold sliceL
 rw [h.length]
 exact (h.drop _).take _
theorem EvW.sliceT {v : Expr} {lo hi : Option Expr} {sp pos : Pos} {Q : AV → AH → Prop}
  (h : EvW g k sc m σ v (fun a σ1 => ∃ xs, a = .d (.tuple xs) ∧ xs.length ≤ 10000 ∧ EpW g k sc m σ1 lo (fun l σ2 => EpW g k sc m σ2 hi (fun u σ3 => Q (.d (.tuple (sliceL xs l u))) σ3)))) : EvW g k sc m σ (.Subscript v (.Slice lo hi Option.none sp) pos) Q := by
 intro A env W s R eo X Fm
 refine Subscript_ (h.then R eo X Fm fun v0 s1 W1 σ1 a st p Fm1 vr h1 => ?_)
 (refine x1_1 h1 ?_; clear h1; intro xs z12 z13; obtain rfl := z12; refine x0_1 z13 ?_; clear z13; intro hl h1)
 refine wpAny_Slice (EpW.then h1 R eo st.abs Fm1 fun v2 s2 W2 σ2 l st2 p2 Fm2 pl h2 => EpW.then h2 R eo st2.abs Fm2 fun v3 s3 W3 σ3 u st3 p3 Fm3 pu h3 => ?_)
 rw [evalPart_none]
 refine wpAny_pure ?_
 have vr3 := (vr.le st2.le).le st3.le
 change Rd W3.F v0 (.tuple xs) at vr3
 refine x4_4 vr3.inv ?_
 clear vr3
 intro t o vs n zv e hc hd r
 subst zv
 have sz : vs.size = xs.length := by rw [← Array.length_toList]; exact r.length
 have X3 := st3.abs.grows (Grows.push s3.heap { cls := .type "slice", data := .fields #[v2, v3, .none] })
 have ht : IsTup (s3.heap.push { cls := .type "slice", data := .fields #[v2, v3, .none] }) t vs := ⟨o, X3.keepF _ _ e, hc, n, hd⟩
 have stp : Stp g W s W3 σ3 { s3 with heap := s3.heap.push { cls := .type "slice", data := .fields #[v2, v3, .none] } } := ⟨X3, (st.le.trans st2.le).trans st3.le, st3.os.trans (st2.os.trans st.os), st3.gens.trans (st2.gens.trans st.gens)⟩
 have pp := p3.trans (p2.trans p)
 have rs := r.slice l u
 refine tail_any (ops := [.ref s3.heap.objs.size, .ref t]) (s := { s3 with heap := s3.heap.push { cls := .type "slice", data := .fields #[v2, v3, .none] } }) ht.typeIs slot_tuple_getitem.lookup
  (getItem_tuple_slice (X3.keepF _ _ e) hc hd (Heap.IsSliceOf.new ..) pl pu (by lia) (fun q => ?_) ?_) rfl
 ·refine VPost.go stp pp (VPost.now (a := .d (.tuple (sliceL xs l u))) X3 ?_ h3)
  rw [q] at rs
  have : sliceL xs l u = xs := by
   have e1 := rs.length
   have e2 := r.length
   have e3 : (sliceL xs l u).length = xs.length := by lia
   unfold sliceL at e3 ⊢
   rw [List.length_take, List.length_drop] at e3
   have z := sliceAdjust_le l u xs.length
   generalize (Builtin.Slice.sliceAdjust l u 1 (xs.length : Int)).1 = a at *
   generalize (Builtin.Slice.sliceAdjust l u 1 (xs.length : Int)).2 = b at *
   by_cases hx : xs.length = 0
   ·have : xs = [] := List.eq_nil_of_length_eq_zero hx
    subst this; simp
   ·have ha : a.toNat = 0 := sub_self_le (Nat.le_trans (Nat.le_of_eq e3.symm) (Nat.min_le_right _ _)) hx
    rw [ha, List.drop_zero, List.take_of_length_le (Nat.le_trans (Nat.le_of_eq e3.symm) (Nat.min_le_left _ _))]
  rw [this]
  exact Rd.tuple e hc hd r
 ·(refine x0_1 (X3.allocF (o := { cls := .type "tuple", data := .seq (sliceL vs.toList l u).toArray }) rfl) ?_; intro X' l')
  refine VPost.go stp pp ⟨_, σ3, .d (.tuple (sliceL xs l u)), ⟨X', l', rfl, rfl⟩, rfl, Rd.tuple (Wd.addF_at _ _ _) rfl rfl (by simpa using RdAll.mono l'.F rs), h3⟩
theorem EvW.frontL {v : Expr} {hi : Expr} {sp pos : Pos} {Q : AV → AH → Prop}
  (h : EvW g k sc m σ v (fun a σ1 => EvW g k sc m σ1 hi (fun u σ2 => ∃ xs n, AsD σ2 a (.list xs) ∧ xs.length ≤ 10000 ∧ u = .d (.int (n : Nat)) ∧ Q (.r σ2.next) (σ2.push (.list (xs.take n)))))) : EvW g k sc m σ (.Subscript v (.Slice Option.none (some hi) Option.none sp) pos) Q := by
 intro A env W s R eo X Fm
 refine Subscript_ (h.then R eo X Fm fun v0 s1 W1 σ1 a st p Fm1 vr h1 => ?_)
 refine wpAny_Slice ?_
 rw [evalPart_none]
 refine wpAny_pure ?_
 rw [evalPart_some]
 refine h1.then R eo st.abs Fm1 fun v3 s3 W3 σ3 u st3 p3 Fm3 vr3 h3 => ?_
 (refine x2_3 h3 ?_; clear h3; intro xs n ha hl z14 hq; obtain rfl := z14)
 (refine x1_0 vr3.int ?_; intro tk z15; obtain rfl := z15)
 refine wpAny_pure ?_
 have X3 := st3.abs.grows (Grows.push s3.heap { cls := .type "slice", data := .fields #[.none, .int (n : Nat) tk, .none] })
 (refine x2_1 (X3.lstA (vr.le st3.le) ha) ?_; intro t vs z16 z17; obtain rfl := z16; refine x0_1 z17 ?_; clear z17; intro ht r)
 have sz : vs.size = xs.length := by rw [← Array.length_toList]; exact r.length
 have stp : Stp g W s W3 σ3 { s3 with heap := s3.heap.push { cls := .type "slice", data := .fields #[.none, .int (n : Nat) tk, .none] } } := ⟨X3, st.le.trans st3.le, st3.os.trans st.os, st3.gens.trans st.gens⟩
 have pp := p3.trans p
 refine tail_any (ops := [.ref s3.heap.objs.size, .ref t]) (s := { s3 with heap := s3.heap.push { cls := .type "slice", data := .fields #[.none, .int (n : Nat) tk, .none] } }) (Heap.IsList.typeIs (s := { s3 with heap := s3.heap.push { cls := .type "slice", data := .fields #[.none, .int (n : Nat) tk, .none] } }) ht) list_getitem_lookup
  (wpAny_getItem_list_slice ht (Heap.IsSliceOf.new ..) .none (.int _ _) .none (by simp) ?_ (by rw [sizeLine_eq]; lia)) rfl
 have rt := r.take n
 rw [slicePick_upto']
 have X' := X3.allocList (vs := (vs.toList.take n).toArray) (xs := xs.take n) (by simpa using rt)
 refine VPost.go stp pp ⟨_, _, .r σ3.next, ⟨X', Wd.leO _ _ _, rfl, rfl⟩, rfl, ?_, hq⟩
 rw [← X3.n]
 exact ⟨Nat.lt_succ_self _, by rw [Wd.addO_φ]⟩
end
end
section
set_option tactic.hygienic false
section
variable {K : Params → Frag} {g : G K} {k : Nat} {sc : Scope} {m : Loc} {σ : AH}
theorem Abs.lessP {W : Wd} {h : Heap} (X : Abs g W σ h) {P : FH} (hp : ∀ a o, P a = some o → W.P a = some o) : Abs g { W with P := P } σ h := by
 have l : Le W { W with P := P } := ⟨fun ww ww e => e, Nat.le_refl _, fun ww ww => rfl, fun ww ww => rfl⟩
 refine ⟨X.base, X.keepF, fun a o e => X.keepP a o (hp a o e), fun a o e => X.fp a o (hp a o e), X.n, fun i o e => (X.obj i o e).le l (X.wlt e) rfl fun ww ww ww => rfl, X.lt, X.sep, X.two, fun i a q => ⟨(X.free i a q).1, ?_⟩⟩
 show P a = none
 cases e : P a with
 | none => rfl
 | some o => have := (X.free i a q).2; rw [hp a o e] at this; cases this
theorem Abs.moreP {W : Wd} {h h' : Heap} (X : Abs g W σ h) (gr : Grows h h') {P : FH} (hp : ∀ a o, P a = some o → W.P a = some o ∨ (h.get? a = none ∧ h'.get? a = some o)) : Abs g { W with P := P } σ h' := by
 have l : Le W { W with P := P } := ⟨fun ww ww e => e, Nat.le_refl _, fun ww ww => rfl, fun ww ww => rfl⟩
 have X' := X.grows gr
 refine ⟨X.base, X'.keepF, fun a o e => ?_, fun a o e => ?_, X.n, fun i o e => (X'.obj i o e).le l (X.wlt e) rfl fun ww ww ww => rfl, X.lt, X.sep, X.two, fun i a q => ⟨(X.free i a q).1, ?_⟩⟩
 ·rcases hp a o e with q | q
  ·exact X'.keepP a o q
  ·exact q.2
 ·rcases hp a o e with q | q
  ·exact X.fp a o q
  ·cases z : W.F a with
   | none => rfl
   | some o' => have := X.keepF a o' z; rw [q.1] at this; cases this
 ·show P a = none
  cases e : P a with
  | none => rfl
  | some o =>
   rcases hp a o e with z | z
   ·have := (X.free i a q).2; rw [z] at this; cases this
   ·(refine x1_0 (X.owned q) ?_; intro x y); rw [z.1] at y; cases y
structure FnAt (g : G K) (f : Addr) (n : Nat) (names : List Str) (sc : Scope) (body : List Stmt) : Prop where
 rec_ : ∃ oc od fd osl, (K g.w.params).lookup f = some ⟨oc, od, .func fd, osl⟩ ∧ fd.body = .stmts body ∧ fd.closure = [] ∧ fd.globals = mainGlobals ∧ fd.builtins = builtinsNs ∧ fd.scope = sc ∧
  codeIn (K g.w.params) fd.code fd.qualname = true ∧ (∀ vs : List Value, vs.length = n → bindArgs fd ⟨vs, []⟩ = pure (names.zip vs))
 len : names.length = n
 kinds : (names.all fun y => sc.names.lookup y == some .local || sc.names.lookup y == some .cell) = true
 free : (sc.names.all fun y => y.2 != .free) = true
 co : sc.isCoroutine = false
 gen : sc.isGenerator = false
 kind : sc.kind = .function
theorem look_all {p : Str × NameKind → Bool} : ∀ {l : List (Str × NameKind)}, l.all p = true → ∀ {x : Str} {k : NameKind}, l.lookup x = some k → p (x, k) = true
 | (y, q) :: r, h, x, k, e => by
  rw [List.all_cons, Bool.and_eq_true] at h
  rw [List.lookup_cons] at e
  cases hb : x == y with
  | true => rw [hb] at e; cases e; rw [beq_iff_eq.mp hb]; exact h.1
  | false => rw [hb] at e; exact look_all h.2 e
theorem bindL_get (kd : Str → Option NameKind) : ∀ (bs : List (Str × Value)) (m : Str → Option Value) (x : Str), kd x = some .local → bindL kd bs m x = (bs.reverse.lookup x).or (m x)
 | [], m, x, _ => rfl
 | (y, v) :: r, m, x, hx => by
  unfold bindL
  rw [bindL_get kd r _ x hx, List.reverse_cons, List.lookup_append]
  by_cases hy : x = y
  ·subst hy
   rw [if_pos hx]
   simp only [if_true, List.lookup_cons, beq_self_eq_true, Option.or_assoc]
   cases List.lookup x r.reverse <;> rfl
  ·have hb : (x == y) = false := by simpa using hy
   simp only [List.lookup_cons, hb, List.lookup_nil, Option.or_none]
   split
   ·show (List.lookup x r.reverse).or (if x = y then some v else m x) = _
    rw [if_neg hy]
   ·rfl
theorem bindC_get (kd : Str → Option NameKind) : ∀ (bs : List (Str × Value)) (m : Str → Option Value) (x : Str), kd x ≠ some .local → bindC kd bs m x = (bs.reverse.lookup x).or (m x)
 | [], m, x, _ => rfl
 | (y, v) :: r, m, x, hx => by
  unfold bindC
  rw [bindC_get kd r _ x hx, List.reverse_cons, List.lookup_append]
  by_cases hy : x = y
  ·subst hy
   rw [if_neg hx]
   simp only [if_true, List.lookup_cons, beq_self_eq_true, Option.or_assoc]
   cases List.lookup x r.reverse <;> rfl
  ·have hb : (x == y) = false := by simpa using hy
   simp only [List.lookup_cons, hb, List.lookup_nil, Option.or_none]
   split
   ·rfl
   ·show (List.lookup x r.reverse).or (if x = y then some v else m x) = _
    rw [if_neg hy]
theorem updAll_get {W : Wd} : ∀ {names : List Str} {vs : List Value} {as : List AV} {m : Loc} {m₀ : Str → Option Value}, names.length = as.length → VRs W vs as → ∀ {x : Str} {a : AV},
  (∀ a, m x = some a → ∃ v, m₀ x = some v ∧ VR W v a) → uA m names as x = some a → ∃ v, ((names.zip vs).reverse.lookup x).or (m₀ x) = some v ∧ VR W v a
 | [], vs, as, m, m₀, _, r, x, a, h0, h => by
  have : uA m [] as = m := by cases as <;> rfl
  rw [this] at h
  exact h0 a h
 | y :: ns, vs, as, m, m₀, hl, r, x, a, h0, h => by
  cases r with
  | nil => cases hl
  | @cons v vs b as rv r =>
   change uA (upd m y b) ns as x = some a at h
   rw [List.zip_cons_cons, List.reverse_cons, List.lookup_append]
   have := updAll_get (m := upd m y b) (m₀ := fun z => if z = y then some v else m₀ z) (Nat.succ.inj hl) r (x := x) (a := a) (fun a' ha' => by
    unfold upd at ha'
    by_cases hy : x = y
    ·rw [if_pos hy] at ha'
     cases ha'
     exact ⟨v, if_pos hy, rv⟩
    ·rw [if_neg hy] at ha'
     (refine x1_1 (h0 a' ha') ?_; intro v' p q)
     exact ⟨v', (if_neg hy).trans p, q⟩) h
   (refine x1_1 this ?_; clear this; intro v' p q)
   refine ⟨v', ?_, q⟩
   rw [← p]
   by_cases hy : x = y
   ·subst hy
    cases List.lookup x (ns.zip vs).reverse <;> simp [List.lookup_cons]
   ·have hb : (x == y) = false := by simpa using hy
    rw [if_neg hy]
    cases List.lookup x (ns.zip vs).reverse <;> simp [List.lookup_cons, hb]
noncomputable def start (names : List Str) (args : List AV) : Loc := uA (fun ww => none) names args
noncomputable def CodeW (g : G K) (k : Nat) (f : Value) (args : List AV) (σ : AH) (Q : AV → AH → Prop) : Prop :=
 ∀ (A : Around) (W : Wd) (s : Shared) (vs : List Value), Room k A → Abs g W σ s.heap → VRs W vs args →
  codeAny (model g.prog g.w) A (.call f ⟨vs, []⟩) (fun r s' => match r with | .ok (.ret v) => VPost g W s Q v s' | .ok _ => False | .error _ => False) s
theorem CodeW.call {f : Value} {args : List AV} {Q : AV → AH → Prop} (h : CodeW g k f args σ Q) : CallW g k f args σ Q := fun A W s vs R X V => wpAny_call (h A W s vs R X V)
open Classical in
theorem CodeW.fn {f : Addr} {n : Nat} {names : List Str} {body : List Stmt} {args : List AV} {Q : AV → AH → Prop} (H : FnAt g f n names sc body) (hn : args.length = n)
  (h : ExW g k sc (start names args) σ body (fun fl m' σ' => match fl with | .ret a => Q a σ' | .next => Q (.d .none) σ')) : CodeW g (k + 1) (.ref f) args σ Q := by
 intro A W s vs R X V
 obtain ⟨⟨oc, od, fd, osl, hl, hbody, hclo, hglob, hbt, rfl, hcode, hbind⟩, hnl, hkinds, hfree, hco, hgen, hk⟩ := H
 have hvl : vs.length = n := V.length.trans hn
 refine codeAny_call_cells (fd := fd) R.lim (X.stat f _ hl) rfl (g.T.nolimit.keeps X.base') (codeRec_of X.stat hcode) hbody (hbind vs hvl) hclo ?_ ?_ hco hgen hk
 ·intro x hx
  have := List.all_eq_true.mp hkinds x.1 (List.of_mem_zip hx).1
  rcases Bool.or_eq_true_iff.mp this with q | q
  ·exact .inl (by simpa using q)
  ·have q' : fd.scope.names.lookup x.1 = some .cell := by simpa using q
   exact .inr ⟨q', cellsFrom_some _ _ _ (.inl q')⟩
 intro s₁ C
 have kd : (callEnvC fd s.heap.objs.size f).kindOf = fun x => fd.scope.names.lookup x := rfl
 (refine x2_1 C.done ?_; intro h₁ tk z1 gr; obtain rfl := z1)
 have hL : s.heap.get? s.heap.objs.size = none := Heap.get?_none_of_le (Nat.le_refl _)
 have cnew : ∀ x c, (callEnvC fd s.heap.objs.size f).cells.lookup x = some c → s.heap.get? c = none := fun x c e =>
  Heap.get?_none_of_le (Nat.le_of_lt (C.above x c (mem_of_lookup e)))
 let isF : Addr → Prop := fun a => a = s.heap.objs.size ∨ ∃ x, fd.scope.names.lookup x = some .cell ∧ (callEnvC fd s.heap.objs.size f).cells.lookup x = some a
 let P : FH := fun a => if isF a then h₁.get? a else W.P a
 have isNew : ∀ a, isF a → s.heap.get? a = none := by
  rintro a (rfl | ⟨x, _, e⟩)
  ·exact hL
  ·exact cnew x a e
 have X1 : Abs g { W with P := P } σ h₁ := by
  refine X.moreP gr fun a o e => ?_
  change (if isF a then h₁.get? a else W.P a) = some o at e
  split at e
  ·rename_i q; exact .inr ⟨isNew a q, e⟩
  ·exact .inl e
 have l1 : Le W { W with P := P } := ⟨fun ww ww e => e, Nat.le_refl _, fun ww ww => rfl, fun ww ww => rfl⟩
 have Fm : Frm (callEnvC fd s.heap.objs.size f) (start names args) { W with P := P } := by
  refine ⟨?_, fun x v hx ww => ?_, fun x hx => ?_, fun x y c ww e1 e2 => ?_, fun x c e => Nat.ne_of_gt (C.above x c (mem_of_lookup e))⟩
  ·(refine x3_3 C.toInCall.ns ?_; intro o es ep h1 h2 h3 h4)
   refine ⟨o, es, ep, ?_, h2, h3, fun x v hx hm => ?_⟩
   ·show (if isF s.heap.objs.size then h₁.get? s.heap.objs.size else W.P s.heap.objs.size) = some o
    rw [if_pos (.inl rfl)]; exact h1
   ·rw [h4, kd, bindL_get _ _ _ _ hx]
    have := updAll_get (W := { W with P := P }) (hnl.trans hn.symm) (V.le l1) (m₀ := fun ww => none) (fun a e => by cases e) hm
    exact this
  ·have := look_all hfree hx
   simp at this
  ·have hc := cellsFrom_some (x := x) fd.scope.names (s.heap.objs.size + 1) [] (.inl hx)
   (refine x1_0 (Option.isSome_iff_exists.mp hc) ?_; intro c hc)
   (refine x1_1 (C.cell x c hc) ?_; intro o h1 h2)
   refine ⟨c, _, hc, ⟨o, ?_, h2⟩, fun v hm => ?_⟩
   ·show (if isF c then h₁.get? c else W.P c) = some o
    rw [if_pos (.inr ⟨x, hx, hc⟩)]; exact h1
   ·rw [kd, bindC_get _ _ _ _ (by show fd.scope.names.lookup x ≠ some .local; rw [show fd.scope.names.lookup x = some .cell from hx]; decide)]
    exact updAll_get (W := { W with P := P }) (hnl.trans hn.symm) (V.le l1) (m₀ := fun ww => none) (fun a e => by cases e) hm
  ·exact name_of_addr C.apart (mem_of_lookup e1) (mem_of_lookup e2)
 refine wpAny_mono (h (A.deeper (callEnvC fd s.heap.objs.size f)) (callEnvC fd s.heap.objs.size f) { W with P := P } { s with heap := h₁, toks := tk } R.deeper ⟨rfl, hglob, hbt, hk⟩ X1 Fm) (fun fl s2 z => ?_) fun ww ww x => x.elim
 (refine SPost.out z ?_; clear z; intro W2 σ2 m2 f2 st fp Fm2 fr q)
 have X3 : Abs g { W2 with P := W.P } σ2 s2.heap := by
  refine st.abs.lessP fun a o e => ?_
  have na : ¬ isF a := fun q => by have := X.keepP a o e; rw [isNew a q] at this; cases this
  have e2 : W2.P a = P a := fp a (fun q => na (.inl q)) fun x c h1 h2 q => na (.inr ⟨x, h1, q ▸ h2⟩)
  rw [e2]
  show (if isF a then h₁.get? a else W.P a) = some o
  rw [if_neg na]; exact e
 have l2 : Le W { W2 with P := W.P } := ⟨st.le.F, st.le.n, st.le.φ, st.le.δ⟩
 have fin : ∀ {v : Value} {a : AV}, VR W2 v a → Q a σ2 → VPost g W s Q v s2 := fun {v a} r q => ⟨{ W2 with P := W.P }, σ2, a, ⟨X3, l2, st.os, st.gens⟩, rfl, by cases a with | d x => exact r | r i => exact r, q⟩
 cases fl with
 | next =>
  cases f2 with
  | next => exact fin (v := .none) (a := .d .none) Rd.none q
  | ret a => exact fr.elim
 | ret v =>
  cases f2 with
  | next => exact fr.elim
  | ret a => exact fin fr q
 | brk => exact fr.elim
 | cont => exact fr.elim
end
end
section
set_option tactic.hygienic false
section
variable {K : Params → Frag} {g : G K} {k : Nat} {sc : Scope} {m : Loc} {σ : AH}
theorem VR.handed {W : Wd} {v : Value} {a : AV} (r : VR W v a) : handedIn v = true := by
 cases a with
 | d x => cases r <;> rfl
 | r i => rw [r.2]; rfl
theorem isStr_str (x y : Str) (t : Tok) : Value.isStr (.str x t) y = (x == y) := rfl
theorem Ents.noRef {W : Wd} {es : List DictEntry} {fs : List (Str × AV)} (h : Ents W es fs) : es.any (·.refKey) = false := by
 induction h with
 | nil => rfl
 | cons _ _ ih => rw [List.any_cons, ih]; rfl
theorem Ents.get {W : Wd} {es : List DictEntry} {fs : List (Str × AV)} (h : Ents W es fs) {x : Str} {a : AV} (e : fs.lookup x = some a) : ∃ v, getL x es = some (some v) ∧ VR W v a := by
 induction h with
 | nil => cases e
 | @cons hsh y t v b es fs r hr ih =>
  rw [List.lookup_cons] at e
  unfold getL
  rw [List.find?_cons]
  by_cases hy : x = y
  ·subst hy
   rw [beq_self_eq_true] at e
   cases e
   exact ⟨v, by simp [isStr_str], r⟩
  ·have h1 : (x == y) = false := by simpa using hy
   have h2 : (y == x) = false := by simpa using fun z : y = x => hy z.symm
   rw [h1] at e
   (refine x1_1 (ih e) ?_; intro w p q)
   refine ⟨w, ?_, q⟩
   have h3 : Value.isStr (.str y t) x = false := by rw [isStr_str, h2]
   unfold getL at p
   dsimp only
   rw [h3]
   dsimp only
   cases z : List.find? (fun e => Value.isStr e.key x) es with
   | some e0 => rw [z] at p; exact p
   | none => rw [z] at p; simp only at p; split at p <;> cases p
theorem Ents.gone {W : Wd} {es : List DictEntry} {fs : List (Str × AV)} (h : Ents W es fs) {x : Str} (e : fs.lookup x = none) : getL x es = some none := by
 have n := h.noRef
 have : es.find? (·.key.isStr x) = none := by
  clear n
  induction h with
  | nil => rfl
  | @cons hsh y t v b es fs r hr ih =>
   rw [List.lookup_cons] at e
   by_cases hy : x = y
   ·subst hy; rw [beq_self_eq_true] at e; cases e
   ·have h1 : (x == y) = false := by simpa using hy
    have h2 : (y == x) = false := by simpa using fun z : y = x => hy z.symm
    rw [h1] at e
    rw [List.find?_cons]
    have h3 : Value.isStr (.str y t) x = false := by rw [isStr_str, h2]
    dsimp only
    rw [h3]
    exact ih e
 unfold getL
 rw [this]
 dsimp only
 rw [if_neg (by rw [n]; decide)]
noncomputable def putFs (x : Str) (a : AV) : List (Str × AV) → List (Str × AV)
 | [] => [(x, a)]
 | (y, b) :: r => if y == x then (y, a) :: r else (y, b) :: putFs x a r
theorem Ents.put {W : Wd} {es : List DictEntry} {fs : List (Str × AV)} (h : Ents W es fs) {x : Str} {a : AV} {v : Value} (hsh : Int) (t : Tok) (r : VR W v a) : Ents W (putL x hsh (.str x t) v es) (putFs x a fs) := by
 induction h with
 | nil => exact .cons r .nil
 | @cons hsh' y t' w b es fs rb hr ih =>
  unfold putL putFs
  show Ents W (if Value.isStr (.str y t') x then _ else _) _
  rw [isStr_str]
  cases hb : y == x with
  | true => exact .cons r hr
  | false => exact .cons rb ih
theorem putL_len (x : Str) (hsh : Int) (key v : Value) : ∀ es : List DictEntry, (putL x hsh key v es).length ≤ es.length + 1
 | [] => by simp [putL]
 | e :: r => by
  have ih := putL_len x hsh key v r
  unfold putL
  split <;> simp only [List.length_cons] <;> lia
theorem Ents.length {W : Wd} {es : List DictEntry} {fs : List (Str × AV)} (h : Ents W es fs) : es.length = fs.length := by
 induction h with
 | nil => rfl
 | cons _ _ ih => rw [List.length_cons, List.length_cons, ih]
noncomputable def clsOk (K : Frag) (C : Addr) : Bool :=
 plainGet K C "" && hasDictIn K C && plainOver K C && findIn K (.ref C) "__setattr__" == some (some (.builtin "object.__setattr__"))
noncomputable def attrOk (K : Frag) (C : Addr) (x : Str) : Bool := findIn K (.ref C) x == some none
noncomputable def methOk (K : Frag) (C : Addr) (x : Str) (f : Addr) : Bool := findIn K (.ref C) x == some (some (.ref f)) && isFn K (.ref f)
structure ClsOk (K : Frag) (C : Addr) : Prop where
 g1 : findIn K (.ref C) "__getattribute__" = some (some (.builtin "object.__getattribute__"))
 g2 : findIn K (.ref C) "__getattr__" = some none
 hd : hasDictIn K C = true
 po : plainOver K C = true
 sa : findIn K (.ref C) "__setattr__" = some (some (.builtin "object.__setattr__"))
theorem clsOk_of {K : Frag} {C : Addr} (h : clsOk K C = true) : ClsOk K C := by
 unfold clsOk at h
 simp only [Bool.and_eq_true, beq_iff_eq] at h
 (refine x0_1 h ?_; clear h; intro z1 d; (refine x0_1 z1 ?_; clear z1; intro z1 c; obtain ⟨a, b⟩ := z1))
 exact ⟨(plainGet_of a).1, (plainGet_of a).2, b, c, d⟩
theorem Abs.inst {W : Wd} {h : Heap} (X : Abs g W σ h) {i : Nat} {C : Addr} {fs : List (Str × AV)} (e : σ.get i = some (.inst C fs)) :
  ∃ es n, InstAt h (W.φ i) (instObj C (W.δ i)) C (some (dictOf es n)) ∧ h.get? (W.δ i) = some (dictOf es n) ∧ Ents W es fs := by
 (refine x0_1 (X.obj i _ e) ?_; intro e1 z2; refine x2_1 z2 ?_; clear z2; intro es n e2 z)
 exact ⟨es, n, ⟨e1, rfl, rfl, e2⟩, e2, z⟩
theorem getAttr_inst {A : Around} {W : Wd} {s : Shared} {i : Nat} {C : Addr} {fs : List (Str × AV)} {x : Str} {a : AV} {expr : Bool} {R : Value → Shared → Prop} (X : Abs g W σ s.heap) (e : σ.get i = some (.inst C fs))
  (hc : clsOk (K g.w.params) C = true) (ha : attrOk (K g.w.params) C x = true) (hl : fs.lookup x = some a) (q : ∀ v, VR W v a → R v { s with toks := s.toks + 1 }) :
  wpAny (model g.prog g.w) A (getAttr (.ref (W.φ i)) x expr) R NoE s := by
 (refine x2_2 (X.inst e) ?_; intro es n I ww z)
 (refine x1_1 (z.get hl) ?_; intro v hv r)
 have c := clsOk_of hc
 exact get_value X.stat I c.g1 (findObj_own c.hd (beq_iff_eq.mp ha) rfl hv) r.handed (q v r)
theorem EvW.attr {e : Expr} {x : Str} {pos : Pos} {Q : AV → AH → Prop} (hb : ∀ env, attributeBase e x env (eval e env) = eval e env) (h : EvW g k sc m σ e (fun a σ1 => ∃ i C fs v, a = .r i ∧ σ1.get i = some (.inst C fs) ∧ clsOk (K g.w.params) C = true ∧ attrOk (K g.w.params) C x = true ∧ fs.lookup x = some v ∧ Q v σ1)) :
  EvW g k sc m σ (.Attribute e x pos) Q := by
 intro A env W s R eo X Fm
 refine Attribute_any_ (h.then R eo X Fm fun v s1 W1 σ1 a st p Fm1 vr h1 => ?_) (by rw [arm_eval_Attribute, hb env])
 (refine x4_1 h1 ?_; clear h1; intro i C fs b z3 z4; obtain rfl := z3; refine x0_4 z4 ?_; clear z4; intro h2 h3 h4 h5 q)
 rw [vr.2]
 exact getAttr_inst st.abs h2 h3 h4 h5 fun v r => ⟨W1, σ1, b, ⟨st.abs, st.le, st.os, st.gens⟩, p, r, q⟩
theorem osa_own {A : Around} {W : Wd} {s : Shared} {i : Nat} {C : Addr} {fs : List (Str × AV)} {x : Str} {tk : Tok} {a : AV} {v : Value} {R : Result → Shared → Prop} (X : Abs g W σ s.heap) (e : σ.get i = some (.inst C fs))
  (hc : clsOk (K g.w.params) C = true) (ha : attrOk (K g.w.params) C x = true) (r : VR W v a) (hz : fs.length ≤ 100)
  (q : ∀ h' t, Abs g W (σ.set i (.inst C (putFs x a fs))) h' → R (.ok (.ret .none)) { s with heap := h', toks := t }) :
  codeAny (model g.prog g.w) A (.call (.builtin "object.__setattr__") ⟨[.ref (W.φ i), .str x tk, v], []⟩) R s := by
 (refine x2_2 (X.inst e) ?_; intro es n I D z)
 have c := clsOk_of hc
 have ht : takerIn (K g.w.params) C x = some none := by unfold takerIn; rw [beq_iff_eq.mp ha]; rfl
 refine osa_open X.stat I c.po ht fun b => ?_
 (refine x1_1 (any_some (show (clsIn (K g.w.params) C).any (·.hasDict) = true from c.hd)) ?_; intro cd hcd hd')
 have X2 : ∀ hsh t, Abs g W (σ.set i (.inst C (putFs x a fs))) (s.heap.update (W.δ i) (Obj.putName x hsh (.str x t) v)) := by
  intro hsh t
  have U := Heap.get?_update_self (Obj.putName x hsh (.str x t) v) D (by rw [putName_dict]; rfl)
  rw [putName_dict] at U
  refine X.updO e trivial (fun b hb => Heap.get?_update_ne _ _ _ _ fun z => hb ⟨_, e, .inr ⟨C, fs, rfl, z⟩⟩) ⟨?_, _, _, U, z.put hsh t r⟩
  exact (Heap.get?_update_ne _ _ _ _ fun z => X.two i C fs e z).trans (X.obj i _ e).1
 have hx := I.at_
 refine wpAny_bind (wpAny_pure (wpAny_bind (wpAny_bind (wpAny_loadPart hx (wpAny_bind ((looks_clsIn X.stat hcd).here ?_))))))
 rw [hd']
 refine wpAny_pure (a := some (W.δ i)) (wpAny_bind (wpAny_pure (wpAny_bind ?_)))
 unfold nsSet
 refine wpAny_bind (wpAny_bind (wpAny_askSetting (wpAny_pure (wpAny_bind (wpAny_mkText (wpAny_bind (wpAny_loadPart D ?_)))))))
 dsimp only
 have c' : (!es.toArray.any (·.key.isStr x) && es.toArray.any (·.refKey)) = false := by
  rw [← Array.any_toList, ← Array.any_toList, List.toList_toArray, z.noRef, Bool.and_false]
 rw [aRefKeyMayBeTheName_at, c']
 refine wpAny_updatePart D ?_
 have U : ∀ hsh t, (s.heap.update (W.δ i) (Obj.putName x hsh (.str x t) v)).get? (W.δ i) = some (dictOf (putL x hsh (.str x t) v es) (putN x es n)) := fun hsh t => by
  have U := Heap.get?_update_self (Obj.putName x hsh (.str x t) v) D (by rw [putName_dict]; rfl)
  rwa [putName_dict] at U
 refine wpAny_bind (wpAny_lookBehind (U _ _) (pastItsLine_dict (by rw [List.size_toArray, sizeLine_eq]; have := z.length; exact Nat.le_trans (putL_len _ _ _ _ es) (by lia))) ?_)
 exact wpAny_pure (q _ _ (X2 _ _))
end
end
section
set_option tactic.hygienic false
section
variable {K : Params → Frag} {g : G K} {k : Nat} {sc : Scope} {m : Loc} {σ : AH}
theorem StW.setattr {o : Expr} {x : Str} {ap : Pos} {e : Expr} {pos : Pos} {Q : Fl → Loc → AH → Prop} (hs : ∀ env, swapsWith e (some (.Attribute o x ap)) pos.line env = pure false)
  (h : EvW g k sc m σ e (fun a σ1 => EvW g k sc m σ1 o (fun b σ2 => ∃ i C fs, b = .r i ∧ σ2.get i = some (.inst C fs) ∧ clsOk (K g.w.params) C = true ∧ attrOk (K g.w.params) C x = true ∧ fs.length ≤ 100 ∧ Q .next m (σ2.set i (.inst C (putFs x a fs)))))) :
  StW g k sc m σ (.Assign [.Attribute o x ap] e pos) Q := by
 intro A env W s R eo X Fm
 refine plainObj_wpAny_Assign_Attribute (h.then R eo X Fm fun v s1 W1 σ1 a st p Fm1 vr h1 => h1.then R eo st.abs Fm1 fun v2 s2 W2 σ2 b st2 p2 Fm2 vr2 h2 => ?_) (hs env)
 (refine x3_1 h2 ?_; clear h2; intro i C fs z1 z2; obtain rfl := z1; refine x0_4 z2 ?_; clear z2; intro h3 h4 h5 h6 q)
 rw [vr2.2]
 have X2 := st2.abs
 refine set_plain X2.stat (X2.inst h3).choose_spec.choose_spec.1 (clsOk_of h4).sa ?_
 refine osa_own (s := { s2 with toks := s2.toks + 1 }) X2 h3 h4 h5 (vr.le st2.le) h6 fun h' t X' => ?_
 exact ⟨W2, _, m, .next, ⟨X', st.le.trans st2.le, st2.os.trans st.os, st2.gens.trans st.gens⟩, FrP.of (p2.trans p), Fm2, trivial, q⟩
noncomputable def keepF (K : Frag) (f : Value) : Bool := match f with
 | .ref _ => keepIn K f
 | _ => true
theorem keepF_of {M : Model} {f : Value} (h : keepF (K g.w.params) f = true) (hp : Heap) (X : (K g.w.params).In hp) : ∃ k, (k = Keeper.frame ∨ k = Keeper.machine ∨ k = Keeper.boundFrame) ∧ Looks M hp (keeperOf f) k := by
 cases f with
 | ref a => exact keeps_K (K := K g.w.params) (f := .ref a) h hp X
 | _ => exact ⟨.machine, .inr (.inl rfl), Looks.of_pure rfl⟩
theorem args_then {A : Around} {env : Env} {W : Wd} {s : Shared} {args : List Expr} {pos : Pos} {f : Value} {first : List Value} {fas : List AV} {Q : AV → AH → Prop} (R : Room k A) (eo : EnvOk env sc) (X : Abs g W σ s.heap) (Fm : Frm env m W)
  (hf : VRs W first fas) (hk : keepF (K g.w.params) f = true) (hp : ((backTo pos (starEach args env)).any (·.1)) = false)
  (h : SpW g k sc m σ args (fun as σ1 => CallW g k f (fas ++ as) σ1 Q)) : wpAny (model g.prog g.w) A (callWith pos f first (backTo pos (starEach args env)) []) (VPost g W s Q) NoE s := by
 refine callWith_of (P := (K g.w.params).In) (by rw [hp]; rfl) (fun h X => keepF_of hk h X) ?_
 have hh := h A env W s pos R eo X Fm
 have fin : ∀ vs s1, LPost g W s (fun as σ' => CallW g k f (fas ++ as) σ' Q) vs s1 → ((K g.w.params).In s1.heap ∧ wpAny (model g.prog g.w) A (call f (first ++ vs) []) (VPost g W s Q) NoE s1) := by
  (intro vs; intro s1; intro z2r; (refine LPost.out z2r ?_; clear z2r; intro W1 σ1 as st p vr hc))
  exact ⟨st.abs.stat, wpAny_mono (hc A W1 s1 (first ++ vs) R st.abs ((hf.le st.le).append vr)) (fun ww ww z => VPost.go st p z) fun ww ww x => x⟩
 generalize backTo pos (starEach args env) = trees at hh hp ⊢
 cases trees with
 | nil =>
  unfold evalArgs
  show wpAny _ _ (spliced [] >>= _) _ _ s
  refine wpAny_bind (wpAny_mono hh (fun vs s1 z => ?_) fun ww ww x => x.elim)
  refine wpAny_holding ?_
  exact wpAny_bind (wpAny_pure (wpAny_bind (wpAny_pure (wpAny_pure (fin vs s1 z)))))
 | cons t r =>
  obtain ⟨b, t⟩ := t
  have hb : b = false := by cases b; rfl; cases hp
  subst hb
  exact evalArgs_plain (wpAny_mono hh (fun vs s1 z => fin vs s1 z) fun ww ww x => x.elim)
theorem EvW.call {x : Str} {p : Pos} {args : List Expr} {pos : Pos} {f : Value} {Q : AV → AH → Prop} (hx : GlbW g sc x f) (hk : keepF (K g.w.params) f = true) (hp : ∀ env, ((backTo pos (starEach args env)).any (·.1)) = false)
  (h : SpW g k sc m σ args (fun as σ1 => CallW g k f as σ1 Q)) : EvW g k sc m σ (.Call (.Name x p) args [] pos) Q := by
 intro A env W s R eo X Fm
 refine Call_Name rfl (hx A env s p _ eo X.base' ?_)
 exact args_then (first := []) (fas := []) R eo X Fm .nil hk (hp env) h
theorem EvW.meth {pl : Env → Sem Bool} {o : Expr} {x : Str} {ap : Pos} {args : List Expr} {pos : Pos} {Q : AV → AH → Prop}
  (he : ∀ env, eval (.Call (.Attribute o x ap) args [] pos) env = (do
   let ov ← eval o env
   standAt ap.atName
   let (f, first) ← holding [ov] (getMethod ov x (pl env))
   callWith pos f first (backTo pos (starEach args env)) (backToKw pos (keywordEach [] env)))) (hp : ∀ env, ((backTo pos (starEach args env)).any (·.1)) = false)
  (h : EvW g k sc m σ o (fun a σ1 => ∃ i C fs f, a = .r i ∧ σ1.get i = some (.inst C fs) ∧ clsOk (K g.w.params) C = true ∧ methOk (K g.w.params) C x f = true ∧ keepF (K g.w.params) (.ref f) = true ∧ fs.lookup x = Option.none ∧
   SpW g k sc m σ1 args (fun as σ2 => CallW g k (.ref f) (a :: as) σ2 Q))) : EvW g k sc m σ (.Call (.Attribute o x ap) args [] pos) Q := by
 intro A env W s R eo X Fm
 refine methodCall_KW (h.then R eo X Fm fun v s1 W1 σ1 a st p Fm1 vr h1 => ?_) (he env)
 (refine x4_1 h1 ?_; clear h1; intro i C fs f z3 z4; obtain rfl := z3; refine x0_5 z4 ?_; clear z4; intro h2 h3 h4 h5 h6 hs)
 (refine x2_2 (st.abs.inst h2) ?_; intro es n I ww z)
 have c := clsOk_of h3
 (refine x0_1 (Bool.and_eq_true_iff.mp h4) ?_; intro m1 m2)
 obtain ⟨va, rfl⟩ : ∃ va, va = v := ⟨v, rfl⟩
 have e2 : va = .ref (W1.φ i) := vr.2
 subst e2
 refine method_fn st.abs.stat I c.g1 c.g2 (beq_iff_eq.mp m1) (beq_iff_eq.mp m2) (by show (lookIn x (dictOf es n)).map _ = _; rw [lookIn_dict, z.gone h6]; rfl) ?_
 exact wpAny_mono (args_then (first := [.ref (W1.φ i)]) (fas := [.r i]) R eo st.abs Fm1 (.cons vr .nil) h5 (hp env) hs) (fun ww ww z => VPost.go st p z) fun ww ww x => x
theorem EvW.cmeth {pl : Env → Sem Bool} {c : Str} {cp : Pos} {x : Str} {ap : Pos} {args : List Expr} {pos : Pos} {Q : AV → AH → Prop} {C f : Addr} {mc : Value} (hx : GlbW g sc c (.ref C))
  (he : ∀ env, eval (.Call (.Attribute (.Name c cp) x ap) args [] pos) env = (do
   let ov ← eval (.Name c cp) env
   standAt ap.atName
   let (f, first) ← holding [ov] (getMethod ov x (pl env))
   callWith pos f first (backTo pos (starEach args env)) (backToKw pos (keywordEach [] env)))) (hp : ∀ env, ((backTo pos (starEach args env)).any (·.1)) = false)
  (hg : specialIn (K g.w.params) (.ref C) "__getattribute__" = some (some (.builtin "type.__getattribute__"))) (hr : readsIn (K g.w.params) C mc = true) (hf : findCls (K g.w.params) (.ref C) mc x = some (.val (.ref f)))
  (hk : keepF (K g.w.params) (.ref f) = true)
  (h : SpW g k sc m σ args (fun as σ1 => CallW g k (.ref f) as σ1 Q)) : EvW g k sc m σ (.Call (.Attribute (.Name c cp) x ap) args [] pos) Q := by
 intro A env W s R eo X Fm
 refine methodCall_KW (hx A env s cp _ eo X.base' ?_) (he env)
 refine method_cls X.stat hg (cls_value X.stat hr hf rfl ?_)
 have := args_then (s := { s with toks := s.toks + 1 }) (first := []) (fas := []) R eo X Fm .nil hk (hp env) h
 exact wpAny_mono this (fun ww ww h => h.out fun W' σ' a st p r q => ⟨W', σ', a, ⟨st.abs, st.le, st.os, st.gens⟩, p, r, q⟩) fun ww ww x => x
theorem CodeW.new {C fI : Addr} {args : List AV} {Q : AV → AH → Prop} (hm : makesIn (K g.w.params) C = true) (hi : findIn (K g.w.params) (.ref C) "__init__" = some (some (.ref fI))) (hf : isFn (K g.w.params) (.ref fI) = true)
  (h : CodeW g k (.ref fI) (.r σ.next :: args) (σ.push (.inst C [])) (fun a σ' => a = .d .none ∧ Q (.r σ.next) σ')) : CodeW g (k + 1) (.ref C) args σ Q := by
 intro A W s vs R X V
 obtain ⟨hh, gg, d, t, os⟩ := s
 change Abs g W σ hh at X
 have X1 := X.grows ((Grows.push hh emptyDict).trans (Grows.push _ (instObj C hh.objs.size)))
 have n1 : hh.get? hh.objs.size = none := Heap.get?_none_of_le (Nat.le_refl _)
 have n2 : hh.get? (hh.objs.size + 1) = none := Heap.get?_none_of_le (Nat.le_succ _)
 have fr : ∀ a, hh.get? a = none → W.F a = none ∧ W.P a = none ∧ ∀ i, ¬ Owns W σ i a := by
  intro a ha
  refine ⟨?_, ?_, fun i q => ?_⟩
  ·cases e : W.F a with
   | none => rfl
   | some o => have := X.keepF _ _ e; rw [ha] at this; cases this
  ·cases e : W.P a with
   | none => rfl
   | some o => have := X.keepP _ _ e; rw [ha] at this; cases this
  ·(refine x1_0 (X.owned q) ?_; intro o e); rw [ha] at e; cases e
 have g1 : ((hh.push emptyDict).push (instObj C hh.objs.size)).get? (hh.objs.size + 1) = some (instObj C hh.objs.size) := by
  have := Heap.get?_push_size (hh.push emptyDict) (o := instObj C hh.objs.size) rfl
  rwa [Heap.size_push] at this
 have g2 : ((hh.push emptyDict).push (instObj C hh.objs.size)).get? hh.objs.size = some emptyDict := Heap.get?_push_of_some _ (Heap.get?_push_size _ rfl)
 have X2 := X1.addO (a := hh.objs.size + 1) (d := hh.objs.size) (o := .inst C []) (fr _ n2).1 (fr _ n2).2.1 (fr _ n2).2.2 (fr _ n1).1 (fr _ n1).2.1 (fr _ n1).2.2 (Nat.succ_ne_self _)
  (by
   refine ⟨?_, [], 0, ?_, .nil⟩ <;> rw [Wd.addO_δ]
   ·rw [Wd.addO_φ]; exact g1
   ·exact g2)
 have l2 := W.leO (hh.objs.size + 1) hh.objs.size
 have Ru : Room k (A.under (.builtin "type.__call__" ⟨.ref C :: vs, []⟩)) := by
  refine ⟨R.handled, ?_, ?_⟩
  ·have := R.depth; rw [depth_under_kw]; lia
  ·have := R.units
   have h1 : (A.under (.builtin "type.__call__" ⟨.ref C :: vs, []⟩)).units ≤ A.units + 4 := by
    show A.units + (1 + 3 * Code.frames _) ≤ _
    have : Code.frames (.builtin "type.__call__" ⟨.ref C :: vs, []⟩) = 0 := rfl
    lia
   lia
 refine make_core (makes_of X.stat hm) (looks_findIn X.stat hi) (fun self => bind_fn X.stat self (beq_iff_eq.mp hf)) (.inl rfl) ?_
 have rv : VR (W.addO (hh.objs.size + 1) hh.objs.size) (.ref (hh.objs.size + 1)) (.r σ.next) := by
  rw [← X.n]
  exact ⟨Nat.lt_succ_self _, by rw [Wd.addO_φ]⟩
 refine codeAny_mono (h _ _ ⟨(hh.push emptyDict).push (instObj C hh.objs.size), gg, d, t, os⟩ (.ref (hh.objs.size + 1) :: vs) Ru X2 (.cons rv (V.le l2))) fun r s' z => ?_
 cases r with
 | error e => exact z.elim
 | ok f =>
  cases f with
  | ret v =>
   (refine VPost.out z ?_; clear z; intro W3 σ3 a st p vr zq; refine x0_1 zq ?_; clear zq; intro z5 q; obtain rfl := z5)
   have : v = .none := by cases vr; rfl
   subst this
   exact ⟨rfl, W3, σ3, .r σ.next, ⟨st.abs, l2.trans st.le, st.os, st.gens⟩, p, rv.le st.le, q⟩
  | _ => exact z.elim
end
end
section
set_option tactic.hygienic false
section
variable {K : Params → Frag} {g : G K} {k : Nat} {sc : Scope} {m : Loc} {σ : AH}
theorem VRs.one {W : Wd} {vs : List Value} {a : AV} (h : VRs W vs [a]) : ∃ v, vs = [v] ∧ VR W v a := by
 cases h with | cons r h => cases h with | nil => exact ⟨_, rfl, r⟩
theorem VRs.two {W : Wd} {vs : List Value} {a b : AV} (h : VRs W vs [a, b]) : ∃ v w, vs = [v, w] ∧ VR W v a ∧ VR W w b := by
 cases h with | cons r h => (refine x1_1 h.one ?_; intro w z1 q; obtain rfl := z1); exact ⟨_, w, rfl, r, q⟩
theorem VRs.three {W : Wd} {vs : List Value} {a b c : AV} (h : VRs W vs [a, b, c]) : ∃ v w u, vs = [v, w, u] ∧ VR W v a ∧ VR W w b ∧ VR W u c := by
 cases h with | cons r h => (refine x2_1 h.two ?_; intro w u z2 z3; obtain rfl := z2; refine x0_1 z3 ?_; clear z3; intro q q'); exact ⟨_, w, u, rfl, r, q, q'⟩
theorem mapSeq_plain (f : Array Value → Array Value) (vs : Array Value) (n : Nat) : ∃ n', Obj.mapSeq f { cls := .type "list", data := .seq vs n } = { cls := .type "list", data := .seq (f vs) n' } := ⟨_, rfl⟩
theorem Abs.setList {W : Wd} {h : Heap} {i n : Nat} {xs ys : List PyData} {vs : Array Value} {f : Array Value → Array Value} (X : Abs g W σ h) (e : σ.get i = some (.list xs)) (ho : h.get? (W.φ i) = some { cls := .type "list", data := .seq vs n })
  (r : RdAll W.F (f vs).toList ys) : Abs g W (σ.set i (.list ys)) (h.update (W.φ i) (Obj.mapSeq f)) := by
 (refine x1_0 (mapSeq_plain f vs n) ?_; intro n' q)
 refine X.updO e trivial (fun b hb => Heap.get?_update_ne _ _ _ _ fun z => hb ⟨_, e, .inl z⟩) ⟨f vs, ⟨n', ?_⟩, r⟩
 rw [Heap.get?_update_self _ ho (by rw [q]; rfl), q]
theorem Abs.listAt {W : Wd} {h : Heap} {i : Nat} {xs : List PyData} (X : Abs g W σ h) (e : σ.get i = some (.list xs)) : ∃ vs n, h.get? (W.φ i) = some { cls := .type "list", data := .seq vs n } ∧ RdAll W.F vs.toList xs ∧ vs.size = xs.length := by
 (refine x1_1 (X.obj i _ e) ?_; intro vs z4 r; (refine x1_0 z4 ?_; clear z4; intro n ho))
 exact ⟨vs, n, ho, r, by rw [← Array.length_toList]; exact r.length⟩
theorem CallW.append {i : Nat} {xs : List PyData} {d : PyData} {Q : AV → AH → Prop} (e : σ.get i = some (.list xs)) (hl : xs.length ≤ 10000) (q : Q (.d .none) (σ.set i (.list (xs ++ [d])))) : CallW g k (.builtin "list.append") [.r i, .d d] σ Q := by
 intro A W s vs R X V
 (refine x2_1 V.two ?_; intro v v2 z5 z6; obtain rfl := z5; refine x0_1 z6 ?_; clear z6; intro r1 r2)
 (refine x2_2 (X.listAt e) ?_; intro ws n ho r hz)
 rw [r1.2]
 refine wpAny_call_entry slot_list_append (T := "list") ⟨_, ho, rfl⟩ entry_list_append ?_ (args_list_append _ _)
 show wpAny _ _ (updateSeq (W.φ i) (·.push v2) >>= fun ww => ret .none) _ _ s
 refine wpAny_bind ?_
 refine wpAny_updateSeq (hz := by rw [hz, sizeLine_eq]; lia) (_hz' := by rw [Array.size_push, hz, sizeLine_eq]; lia) ho rfl (wpAny_pure ⟨.none, rfl, ?_⟩)
 have X' := X.setList (f := (·.push v2)) (ys := xs ++ [d]) e ho (by simpa using r.append (.cons r2 .nil))
 exact ⟨W, _, .d .none, ⟨X', Le.refl W, rfl, rfl⟩, rfl, Rd.none, q⟩
theorem CallW.extend {i j : Nat} {xs ys : List PyData} {Q : AV → AH → Prop} (e : σ.get i = some (.list xs)) (e2 : σ.get j = some (.list ys)) (hl : xs.length + ys.length ≤ 10000) (q : Q (.d .none) (σ.set i (.list (xs ++ ys)))) : CallW g k (.builtin "list.extend") [.r i, .r j] σ Q := by
 intro A W s vs R X V
 (refine x2_1 V.two ?_; intro v v2 z7 z8; obtain rfl := z7; refine x0_1 z8 ?_; clear z8; intro r1 r2)
 (refine x2_2 (X.listAt e) ?_; intro ws n ho r hz)
 (refine x2_2 (X.listAt e2) ?_; intro us n2 ho2 r' hz2)
 rw [r1.2, r2.2]
 have tl := extend_door (a := ws) (b := us) (by rw [hz, hz2, sizeLine_eq]; lia)
 refine call_meets (T := "list") PySem.F.slot_list_extend ⟨_, ho, rfl⟩ PySem.F.entry_list_extend (PySem.F.args_list_extend_2 _ _) (PySem.AutoSeq1.list_extend_list_list_0 (W.φ i) ws n (W.φ j) us n2 tl (by rw [hz, sizeLine_eq]; lia) (by rw [hz, hz2, sizeLine_eq]; lia)) ⟨ho, ho2, ?_⟩
 have X' := X.setList (f := fun x => x ++ us) (ys := xs ++ ys) e ho (by simpa using r.append r')
 exact ⟨W, _, .d .none, ⟨X', Le.refl W, rfl, rfl⟩, rfl, Rd.none, q⟩
theorem eraseIdx_toList (ws : Array Value) (n : Nat) : (ws.eraseIdxIfInBounds n).toList = ws.toList.eraseIdx n := by
 unfold Array.eraseIdxIfInBounds
 split
 ·simp
 ·rename_i h
  rw [List.eraseIdx_of_length_le (by simpa using h)]
theorem RdAll.erase {F : FH} {vs : List Value} {ds : List PyData} (h : RdAll F vs ds) (n : Nat) : RdAll F (vs.eraseIdx n) (ds.eraseIdx n) := by
 induction n generalizing vs ds with
 | zero => cases h with
  | nil => exact .nil
  | cons a r => exact r
 | succ n ih => cases h with
  | nil => exact .nil
  | cons a r => exact .cons a (ih r)
theorem CallW.pop {i : Nat} {xs : List PyData} {d : PyData} {Q : AV → AH → Prop} (e : σ.get i = some (.list xs)) (hd : xs[xs.length - 1]? = some d) (hl : xs.length ≤ 10000) (q : Q (.d d) (σ.set i (.list (xs.eraseIdx (xs.length - 1))))) : CallW g k (.builtin "list.pop") [.r i] σ Q := by
 intro A W s vs R X V
 (refine x1_1 V.one ?_; intro v z9 r1; obtain rfl := z9)
 (refine x2_2 (X.listAt e) ?_; intro ws n ho r hz)
 (refine x1_1 (r.get hd) ?_; intro y hy ry)
 rw [r1.2]
 refine call_meets (T := "list") PySem.F.slot_list_pop ⟨_, ho, rfl⟩ PySem.F.entry_list_pop (PySem.F.args_list_pop_1 _) (PySem.MeetsSeq.list_pop_last (W.φ i) ws n y (by rw [hz]; simpa using hy) (by rw [hz, sizeLine_eq]; lia)) ⟨ho, ?_⟩
 have X' := X.setList (f := fun x => x.eraseIdxIfInBounds (ws.size - 1)) (ys := xs.eraseIdx (xs.length - 1)) e ho (by rw [eraseIdx_toList, hz]; exact r.erase _)
 exact ⟨W, _, .d d, ⟨X', Le.refl W, rfl, rfl⟩, rfl, ry, q⟩
theorem CallW.pop0 {i : Nat} {xs : List PyData} {d : PyData} {Q : AV → AH → Prop} (e : σ.get i = some (.list (d :: xs))) (hl : xs.length ≤ 10000) (q : Q (.d d) (σ.set i (.list xs))) : CallW g k (.builtin "list.pop") [.r i, .d (.int 0)] σ Q := by
 intro A W s vs R X V
 (refine x2_1 V.two ?_; intro v v2 z10 z11; obtain rfl := z10; refine x0_1 z11 ?_; clear z11; intro r1 r2)
 (refine x2_2 (X.listAt e) ?_; intro ws n ho r hz)
 (refine x1_1 (r.get (k := 0) (d := d) rfl) ?_; intro y hy ry)
 (refine x1_0 r2.int ?_; intro t z12; obtain rfl := z12)
 rw [r1.2]
 have hz' : ws.size = xs.length + 1 := by simpa using hz
 refine call_meets (T := "list") PySem.F.slot_list_pop ⟨_, ho, rfl⟩ PySem.F.entry_list_pop (PySem.F.args_list_pop_2 _ _) (PySem.MeetsSeq.list_pop_at (W.φ i) ws n 0 t 0 y (by decide) (by rw [hz']; unfold seqIndex?; simp) (by simpa using hy) (by rw [hz', sizeLine_eq]; lia)) ⟨ho, ?_⟩
 have X' := X.setList (f := fun x => x.eraseIdxIfInBounds 0) (ys := xs) e ho (by rw [eraseIdx_toList]; exact r.erase 0)
 exact ⟨W, _, .d d, ⟨X', Le.refl W, rfl, rfl⟩, rfl, ry, q⟩
theorem EvW.bmeth {T id : String} {o : Expr} {x : Str} {ap : Pos} {args : List Expr} {pos : Pos} {Q : AV → AH → Prop} (hb : ∀ env, attributeBase o x env (eval o env) = eval o env) (hline : (ap.endLine == pos.line) = true)
  (hform : ∀ env, ((backTo pos (starEach args env)).all (fun x => !x.1) && (backToKw pos (keywordEach [] env)).all (fun x => x.1.isSome) && decide (args.length + ([] : List Keyword).length + (if ([] : List Keyword).isEmpty then 0 else 1) < 30)) = true)
  (hp : ∀ env, ((backTo pos (starEach args env)).any (·.1)) = false) (pa : PlainAttrs T) (slot : Slot T x id) (hty : typeOf (.builtin id) = pure (.type "method_descriptor"))
  (h : EvW g k sc m σ o (fun a σ1 => (∀ (W : Wd) (s : Shared) (v : Value), Abs g W σ1 s.heap → VR W v a → s.TypeIs v T ∧ ∀ b, v = .ref b → ∃ ob, s.heap.get? b = some ob ∧ ob.dict = Option.none) ∧
   SpW g k sc m σ1 args (fun as σ2 => CallW g k (.builtin id) (a :: as) σ2 Q))) : EvW g k sc m σ (.Call (.Attribute o x ap) args [] pos) Q := by
 intro A env W s R eo X Fm
 refine wpAny_Call_method (hb env) (hform env) hline pa slot hty (h.then R eo X Fm fun v s1 W1 σ1 a st p Fm1 vr h1 => ?_)
 (refine x0_1 h1 ?_; clear h1; intro h2 h3)
 (refine x0_1 (h2 W1 s1 v st.abs vr) ?_; intro t1 t2)
 exact ⟨t1, t2, wpAny_mono (args_then (first := [v]) (fas := [a]) R eo st.abs Fm1 (.cons vr .nil) rfl (hp env) h3) (fun ww ww z => VPost.go st p z) fun ww ww x => x⟩
theorem isListA {i : Nat} {xs : List PyData} (e : σ.get i = some (.list xs)) : ∀ (W : Wd) (s : Shared) (v : Value), Abs g W σ s.heap → VR W v (.r i) → s.TypeIs v "list" ∧ ∀ b, v = .ref b → ∃ ob, s.heap.get? b = some ob ∧ ob.dict = Option.none := by
 intro W s v X r
 (refine x2_1 (X.listAt e) ?_; intro ws n ho ww)
 obtain rfl : v = .ref (W.φ i) := r.2
 exact ⟨⟨_, ho, rfl⟩, fun b hb => by cases hb; exact ⟨_, ho, rfl⟩⟩
theorem isDictI {i : Nat} {es : List (Int × AV)} (e : σ.get i = some (.dictI es)) : ∀ (W : Wd) (s : Shared) (v : Value), Abs g W σ s.heap → VR W v (.r i) → s.TypeIs v "dict" ∧ ∀ b, v = .ref b → ∃ ob, s.heap.get? b = some ob ∧ ob.dict = Option.none := by
 intro W s v X r
 (refine x0_1 (X.obj i _ e) ?_; intro ww z13; refine x1_1 z13 ?_; clear z13; intro kvs hd ww)
 obtain rfl : v = .ref (W.φ i) := r.2
 exact ⟨hd.typeIs, hd.mapOf.noDict⟩
noncomputable def putD {κ : Type} [DecidableEq κ] (es : List (κ × AV)) (k : κ) (a : AV) : List (κ × AV) :=
 if es.any (fun p => p.1 = k) then es.map (fun p => if p.1 = k then (p.1, a) else p) else es ++ [(k, a)]
noncomputable def getD {κ : Type} [DecidableEq κ] (es : List (κ × AV)) (k : κ) : Option AV := (es.find? fun p => p.1 = k).map (·.2)
theorem find_rel {κ : Type} [DecidableEq κ] {W : Wd} : ∀ {kvs : List (κ × Value)} {es : List (κ × AV)}, kvs.map (·.1) = es.map (·.1) → VRs W (kvs.map (·.2)) (es.map (·.2)) → ∀ k : κ,
  (∃ v a, valueAt kvs k = some v ∧ getD es k = some a ∧ VR W v a) ∨ (valueAt kvs k = none ∧ getD es k = none)
 | [], [], _, _, k => .inr ⟨rfl, rfl⟩
 | [], _ :: _, h, _, _ => by cases h
 | _ :: _, [], h, _, _ => by cases h
 | (k1, v) :: kvs, (k2, a) :: es, h, r, k => by
  simp only [List.map_cons, List.cons.injEq] at h
  (refine x0_1 h ?_; clear h; intro z14 h; obtain rfl := z14)
  simp only [List.map_cons] at r
  cases r with
  | cons rv r =>
  have ih := find_rel h r k
  unfold valueAt getD at ih ⊢
  rw [List.find?_cons, List.find?_cons]
  dsimp only
  by_cases hk : k1 = k
  ·rw [decide_eq_true hk]; exact .inl ⟨v, a, rfl, rfl, rv⟩
  ·rw [decide_eq_false hk]; exact ih
theorem any_rel {κ : Type} [DecidableEq κ] : ∀ {kvs : List (κ × Value)} {es : List (κ × AV)}, kvs.map (·.1) = es.map (·.1) → ∀ k : κ, kvs.any (fun p => p.1 = k) = es.any (fun p => p.1 = k)
 | [], [], _, _ => rfl
 | [], _ :: _, h, _ => by cases h
 | _ :: _, [], h, _ => by cases h
 | (k1, v) :: kvs, (k2, a) :: es, h, k => by
  simp only [List.map_cons, List.cons.injEq] at h
  (refine x0_1 h ?_; clear h; intro z15 h; obtain rfl := z15)
  simp only [List.any_cons, any_rel h k]
theorem map_rel {κ : Type} [DecidableEq κ] {W : Wd} {v : Value} {a : AV} (ra : VR W v a) (k : κ) : ∀ {kvs : List (κ × Value)} {es : List (κ × AV)}, kvs.map (·.1) = es.map (·.1) → VRs W (kvs.map (·.2)) (es.map (·.2)) →
  (kvs.map (fun kv => if kv.1 = k then (kv.1, v) else kv)).map (·.1) = (es.map (fun p => if p.1 = k then (p.1, a) else p)).map (·.1) ∧
  VRs W ((kvs.map (fun kv => if kv.1 = k then (kv.1, v) else kv)).map (·.2)) ((es.map (fun p => if p.1 = k then (p.1, a) else p)).map (·.2))
 | [], [], _, _ => ⟨rfl, .nil⟩
 | [], _ :: _, h, _ => by cases h
 | _ :: _, [], h, _ => by cases h
 | (k1, u) :: kvs, (k2, b) :: es, h, r => by
  simp only [List.map_cons, List.cons.injEq] at h
  (refine x0_1 h ?_; clear h; intro z16 h; obtain rfl := z16)
  simp only [List.map_cons] at r
  cases r with
  | cons rv r =>
  (refine x0_1 (map_rel ra k h r) ?_; intro i1 i2)
  simp only [List.map_cons]
  by_cases hk : k1 = k
  ·simp only [hk, if_true]; exact ⟨by rw [i1], .cons ra i2⟩
  ·simp only [hk, if_false]; exact ⟨by rw [i1], .cons rv i2⟩
theorem stored_rel {κ : Type} [DecidableEq κ] {W : Wd} {v : Value} {a : AV} (ra : VR W v a) (k : κ) {kvs : List (κ × Value)} {es : List (κ × AV)} (h : kvs.map (·.1) = es.map (·.1)) (r : VRs W (kvs.map (·.2)) (es.map (·.2))) :
  (stored kvs k v).map (·.1) = (putD es k a).map (·.1) ∧ VRs W ((stored kvs k v).map (·.2)) ((putD es k a).map (·.2)) := by
 unfold stored putD
 rw [any_rel h k]
 split
 ·exact map_rel ra k h r
 ·rw [List.map_append, List.map_append, List.map_append, List.map_append, h]
  exact ⟨rfl, r.append (.cons ra .nil)⟩
theorem SubW.dictS {value slice : Expr} {i : Nat} {es : List (Str × AV)} {x : Str} {a : AV} {Q : AV → AH → Prop} (hs : ∀ o i, subscripted slice false o i = operate [o, i] (getItem o i)) (e : σ.get i = some (.dictS es)) (hx : getD es x = some a) (h : Q a σ) : SubW g k value slice (.r i) (.d (.str x)) σ Q := by
 intro A W s va vb R X ra rb
 (refine x0_1 (X.obj i _ e) ?_; intro ww z17; refine x1_2 z17 ?_; clear z17; intro kvs hd h1 h2)
 obtain ⟨t, rfl⟩ : ∃ t, vb = .str x t := Rd.inv rb
 obtain rfl : va = .ref (W.φ i) := ra.2
 rcases find_rel h1 h2 x with ⟨v, b, q1, q2, q3⟩ | ⟨_, q⟩
 ·rw [hx] at q2; cases q2
  exact tail_any hd.typeIs slot_dict_getitem.lookup (wpAny_getItem_of (strKind_is _ _ _ _) hd.mapOf q1 ⟨W, σ, a, ⟨X, Le.refl W, rfl, rfl⟩, rfl, q3, h⟩) (hs _ _)
 ·rw [hx] at q; cases q
theorem SubW.dictI {value slice : Expr} {i : Nat} {es : List (Int × AV)} {x : Int} {a : AV} {Q : AV → AH → Prop} (hs : ∀ o i, subscripted slice false o i = operate [o, i] (getItem o i)) (e : σ.get i = some (.dictI es)) (hx : getD es x = some a) (h : Q a σ) : SubW g k value slice (.r i) (.d (.int x)) σ Q := by
 intro A W s va vb R X ra rb
 (refine x0_1 (X.obj i _ e) ?_; intro ww z18; refine x1_2 z18 ?_; clear z18; intro kvs hd h1 h2)
 (refine x1_0 rb.int ?_; intro t z19; obtain rfl := z19)
 obtain rfl : va = .ref (W.φ i) := ra.2
 rcases find_rel h1 h2 x with ⟨v, b, q1, q2, q3⟩ | ⟨_, q⟩
 ·rw [hx] at q2; cases q2
  exact tail_any hd.typeIs slot_dict_getitem.lookup (wpAny_getItem_of (intKind_is _ _ _ _) hd.mapOf q1 ⟨W, σ, a, ⟨X, Le.refl W, rfl, rfl⟩, rfl, q3, h⟩) (hs _ _)
 ·rw [hx] at q; cases q
theorem CallW.dget {i : Nat} {es : List (Int × AV)} {x : Int} {dflt : AV} {Q : AV → AH → Prop} (e : σ.get i = some (.dictI es)) (h : Q ((getD es x).getD dflt) σ) : CallW g k (.builtin "dict.get") [.r i, .d (.int x), dflt] σ Q := by
 intro A W s vs R X V
 (refine x3_1 V.three ?_; intro v v2 v3 z20 z21; obtain rfl := z20; refine x0_2 z21 ?_; clear z21; intro r1 r2 r3)
 (refine x0_1 (X.obj i _ e) ?_; intro n1 z22; refine x1_2 z22 ?_; clear z22; intro kvs hd h1 h2)
 (refine x1_0 r2.int ?_; intro t z23; obtain rfl := z23)
 rw [r1.2]
 have hm := hd.mapOf
 refine call_meetsIn PySem.F.slot_dict_get hd.typeIs PySem.F.entry_dict_get (PySem.F.args_dict_get_3 _ _ _) (meets_dict_get_default (intKind _ _) (W.φ i) (intKind_is _ _ _ _) (by simpa [sysModules] using n1) v3) ⟨_, hm, ?_⟩
 rcases find_rel h1 h2 x with ⟨v, b, q1, q2, q3⟩ | ⟨q1, q⟩
 ·rw [q1]; rw [q2] at h
  exact ⟨W, σ, b, ⟨X, Le.refl W, rfl, rfl⟩, rfl, q3, h⟩
 ·rw [q1]; rw [q] at h
  exact ⟨W, σ, dflt, ⟨X, Le.refl W, rfl, rfl⟩, rfl, r3, h⟩
end
end
section
set_option tactic.hygienic false
section
variable {K : Params → Frag} {g : G K} {k : Nat} {sc : Scope} {m : Loc} {σ : AH}
theorem szle {n : Nat} (h : n ≤ 10000) : n ≤ sizeLine := by rw [sizeLine_eq]; lia
theorem Frm.grow {env : Env} {m : Loc} {W W' : Wd} (Fm : Frm env m W) (l : Le W W') (hp : ∀ a o, W.P a = some o → W'.P a = some o) : Frm env m W' := by
 obtain ⟨a, b, c, d, e⟩ := Fm
 refine ⟨?_, fun x v h1 h2 => ?_, fun x h1 => ?_, d, e⟩
 ·(refine x3_3 a ?_; clear a; intro o es ep h1 h2 h3 h4)
  refine ⟨o, es, ep, hp _ _ h1, h2, h3, fun x v p q => ?_⟩
  (refine x1_1 (h4 x v p q) ?_; intro v' y z)
  exact ⟨v', y, z.le l⟩
 ·(refine x2_2 (b x v h1 h2) ?_; intro cc v' p z1 r; (refine x1_1 z1 ?_; clear z1; intro o q1 q2))
  exact ⟨cc, v', p, ⟨o, hp _ _ q1, q2⟩, r.le l⟩
 ·(refine x2_2 (c x h1) ?_; intro cc cv p z2 r; (refine x1_1 z2 ?_; clear z2; intro o q1 q2))
  exact ⟨cc, cv, p, ⟨o, hp _ _ q1, q2⟩, fun v hv => x1_1 (r v hv) fun v' y z => ⟨v', y, z.le l⟩⟩
noncomputable def loose : AV → Bool
 | .d .none => true
 | .d (.bool _) => true
 | .d (.int _) => true
 | .d (.str _) => true
 | _ => false
theorem StW.expr {e : Expr} {pos : Pos} {Q : Fl → Loc → AH → Prop} (hs : ∀ env, swapsWith e Option.none pos.line env = pure false)
  (h : EvW g k sc m σ e (fun a σ1 => loose a = true ∧ Q .next m σ1)) : StW g k sc m σ (.Expr e pos) Q := by
 intro A env W s R eo X Fm
 refine wpAny_Expr (h.then R eo X Fm fun v s1 W1 σ1 a st p Fm1 vr h1 => ?_) (by unfold interactive; rw [eo.scope, eo.kind]; rfl) (hs env)
 (refine x0_1 h1 ?_; clear h1; intro hl q)
 have fin : SPost g env W s Q Flow.next s1 := ⟨W1, σ1, m, .next, st, FrP.of p, Fm1, trivial, q⟩
 cases a with
 | r i => cases hl
 | d x =>
  cases vr with
  | none => exact fin
  | bool b => exact fin
  | int i t => exact fin
  | str x t => exact fin
  | list => cases hl
  | tuple => cases hl
theorem setItem_list {A : Around} {E : Value → Shared → Prop} {s : Shared} {l : Addr} {items : Array Value} {n : Nat} {kk : Int} {t : Tok} {v : Value} {R : Unit → Shared → Prop} (ho : s.heap.get? l = some { cls := .type "list", data := .seq items n })
  (h0 : 0 ≤ kk) (hj : kk < items.size) (hz : items.size ≤ 10000) (h : R () { s with heap := s.heap.update l (Obj.mapSeq (·.setIfInBounds kk.toNat v)) }) : wpAny (model g.prog g.w) A (setItem (.ref l) (.int kk t) v) R E s := by
 have hT : s.TypeIs (.ref l) "list" := ⟨_, ho, rfl⟩
 unfold setItem
 try with_reducible refine wpAny_holding ?_
 first | refine wpAny_bind (wpAny_pure ?_) | skip
 refine wpAny_bind (wpAny_sequenceKey hT (by decide) ?_)
 refine wpAny_bind (wpAny_callSpecial?_slot (name := Str.ofString "__setitem__") hT PySem.slot_list_setitem
  (wpAny_call_entry PySem.slot_list_setitem hT PySem.entry_list_setitem ?_ (args_list_setitem _ _ _)))
 show wpAny _ _ (Builtin.List.listSubscript? (.int kk t) >>= _) _ _ s
 refine wpAny_bind (wpAny_listSubscript_int (fitsIndex_of h0 (by lia)) ?_)
 (refine x1_0 (Int.eq_ofNat_of_zero_le h0) ?_; intro j z3; obtain rfl := z3)
 have hj : j < items.size := by lia
 have hx' : items[j]? = some items[j] := Array.getElem?_eq_getElem hj
 show wpAny _ _ ((seqItemAt l j >>= fun r => pure (r.map (j, ·))) >>= _) _ _ s
 refine wpAny_bind (wpAny_bind (wpAny_seqItemAt ho rfl (wpAny_pure ?_)))
 rw [hx']
 show wpAny _ _ (setSeqItemAt l j v >>= _) _ _ s
 refine wpAny_bind (wpAny_setSeqItemAt ho rfl ?_)
 first
  | exact wpAny_bind (wpAny_pure (wpAny_pure ⟨.none, rfl, wpAny_pure h⟩))
  | exact wpAny_pure ⟨.none, rfl, wpAny_pure h⟩
theorem RdAll.set {F : FH} {vs : List Value} {ds : List PyData} {v : Value} {d : PyData} (h : RdAll F vs ds) (rv : Rd F v d) (n : Nat) : RdAll F (vs.set n v) (ds.set n d) := by
 induction n generalizing vs ds with
 | zero => cases h with
  | nil => exact .nil
  | cons a r => exact .cons rv r
 | succ n ih => cases h with
  | nil => exact .nil
  | cons a r => exact .cons a (ih r)
inductive SetIt (σ : AH) : AV → AV → AV → AH → Prop
 | list {i : Nat} {xs : List PyData} {j : Nat} {d : PyData} : σ.get i = some (.list xs) → j < xs.length → xs.length ≤ 10000 → SetIt σ (.r i) (.d (.int (j : Nat))) (.d d) (σ.set i (.list (xs.set j d)))
 | dictI {i : Nat} {es : List (Int × AV)} {x : Int} {a : AV} : σ.get i = some (.dictI es) → es.length ≤ 10000 → SetIt σ (.r i) (.d (.int x)) a (σ.set i (.dictI (putD es x a)))
 | dictS {i : Nat} {es : List (Str × AV)} {x : Str} {a : AV} : σ.get i = some (.dictS es) → es.length ≤ 10000 → SetIt σ (.r i) (.d (.str x)) a (σ.set i (.dictS (putD es x a)))
theorem StW.setitem {o i : Expr} {sp : Pos} {e : Expr} {pos : Pos} {Q : Fl → Loc → AH → Prop} (hs : ∀ env, swapsWith e (some (.Subscript o i sp)) pos.line env = pure false)
  (h : EvW g k sc m σ e (fun a σ1 => EvW g k sc m σ1 o (fun b σ2 => EvW g k sc m σ2 i (fun c σ3 => ∃ σ4, SetIt σ3 b c a σ4 ∧ Q .next m σ4)))) :
  StW g k sc m σ (.Assign [.Subscript o i sp] e pos) Q := by
 intro A env W s R eo X Fm
 refine wpAny_Assign_Subscript (h.then R eo X Fm fun v s1 W1 σ1 a st p Fm1 vr h1 => h1.then R eo st.abs Fm1 fun v2 s2 W2 σ2 b st2 p2 Fm2 vr2 h2 => h2.then R eo st2.abs Fm2 fun v3 s3 W3 σ3 c st3 p3 Fm3 vr3 h3 => ?_) (hs env)
 (refine x1_1 h3 ?_; clear h3; intro σ4 hset q)
 have stp : Stp g W s W3 σ3 s3 := (st.trans st2).trans st3
 have fp : FrP env W W3 := FrP.of (p3.trans (p2.trans p))
 have ra := (vr.le st2.le).le st3.le
 have rb := vr2.le st3.le
 have fin : ∀ h' t, Abs g W3 σ4 h' → SPost g env W s Q Flow.next { s3 with heap := h', toks := t } := fun h' t X' => ⟨W3, σ4, m, .next, ⟨X', stp.le, stp.os, stp.gens⟩, fp, Fm3, trivial, q⟩
 cases hset with
 | @list i xs j d e hj hl =>
  (refine x2_2 (stp.abs.listAt e) ?_; intro ws n ho r hz)
  (refine x1_0 vr3.int ?_; intro t z4; obtain rfl := z4)
  rw [rb.2]
  refine setItem_list ho (by lia) (by lia) (by lia) (fin _ s3.toks (stp.abs.setList (f := (·.setIfInBounds j v)) e ho ?_))
  rw [Array.toList_setIfInBounds]
  exact r.set ra j
 | @dictI i es x a e hl =>
  (refine x0_1 (stp.abs.obj i _ e) ?_; intro n1 z5; refine x1_2 z5 ?_; clear z5; intro kvs hd h1 h2)
  (refine x1_0 vr3.int ?_; intro t z6; obtain rfl := z6)
  rw [rb.2]
  have hlen : kvs.length = es.length := by simpa using congrArg List.length h1
  refine wpAny_setItem_pairs (intKind_is _ _ _ _) hd (fun h' hd' hs' => fin h' _ ?_) (by rw [hlen, sizeLine_eq]; lia)
  (refine x0_1 (stored_rel (v := v) ra x h1 h2) ?_; intro z1 z2)
  exact stp.abs.updO e trivial (fun b hb => (hs'.2 b fun z => hb ⟨_, e, .inl z⟩)) ⟨n1, _, hd', z1, z2⟩
 | @dictS i es x a e hl =>
  (refine x0_1 (stp.abs.obj i _ e) ?_; intro n1 z7; refine x1_2 z7 ?_; clear z7; intro kvs hd h1 h2)
  obtain ⟨t, rfl⟩ : ∃ t, v3 = .str x t := Rd.inv vr3
  rw [rb.2]
  have hlen : kvs.length = es.length := by simpa using congrArg List.length h1
  refine wpAny_setItem_pairs (strKind_is _ _ _ _) hd (fun h' hd' hs' => fin h' _ ?_) (by rw [hlen, sizeLine_eq]; lia)
  (refine x0_1 (stored_rel (v := v) ra x h1 h2) ?_; intro z1 z2)
  exact stp.abs.updO e trivial (fun b hb => (hs'.2 b fun z => hb ⟨_, e, .inl z⟩)) ⟨n1, _, hd', z1, z2⟩
theorem rdInts {F : FH} : ∀ {vs : List Value} {ns : List Int}, RdAll F vs (ns.map .int) → IntsAre vs ns
 | [], [], _ => .nil
 | [], _ :: _, h => by cases h
 | _ :: _, [], h => by cases h
 | v :: vs, n :: ns, h => by
  (refine x0_1 h.inv ?_; clear h; intro r h; refine x1_0 r.inv ?_; clear r; intro t e; subst e); exact .cons _ _ (rdInts h)
theorem intsRd {F : FH} {vs : List Value} {ns : List Int} (h : IntsAre vs ns) : RdAll F vs (ns.map .int) := by
 induction h with
 | nil => exact .nil
 | cons _ _ _ ih => exact .cons (.int _ _) ih
theorem CallW.lenL {a : AV} {xs : List PyData} {Q : AV → AH → Prop} (e : AsD σ a (.list xs)) (hl : xs.length ≤ 100000) (q : Q (.d (.int xs.length)) σ) : CallW g k (.builtin "len") [a] σ Q := by
 intro A W s vs R X V
 (refine x1_1 V.one ?_; intro v z8 r1; obtain rfl := z8)
 (refine x2_1 (X.lstA r1 e) ?_; intro b ws z9 z10; obtain rfl := z9; refine x0_1 z10 ?_; clear z10; intro hL r)
 have hz : ws.size = xs.length := by rw [← Array.length_toList]; exact r.length
 refine PySem.Calls.call_len_list hL (by rw [hz]; lia) ?_
 rw [hz]
 exact ⟨W, σ, .d (.int _), ⟨X, Le.refl W, rfl, rfl⟩, rfl, Rd.int _ _, q⟩
theorem CallW.lenT {xs : List PyData} {Q : AV → AH → Prop} (hl : xs.length ≤ 100000) (q : Q (.d (.int xs.length)) σ) : CallW g k (.builtin "len") [.d (.tuple xs)] σ Q := by
 intro A W s vs R X V
 (refine x1_1 V.one ?_; intro v z11 r1; obtain rfl := z11)
 (refine x2_1 (X.tup r1) ?_; intro b ws z12 z13; obtain rfl := z12; refine x0_1 z13 ?_; clear z13; intro hL r)
 have hz : ws.size = xs.length := by rw [← Array.length_toList]; exact r.length
 refine PyProof.Rows.len_tuple hL (by rw [hz]; lia) ?_
 rw [hz]
 exact ⟨W, σ, .d (.int _), ⟨X, Le.refl W, rfl, rfl⟩, rfl, Rd.int _ _, q⟩
theorem CallW.max2 {a b : Int} {Q : AV → AH → Prop} (q : Q (.d (.int (max a b))) σ) : CallW g k (.builtin "max") [.d (.int a), .d (.int b)] σ Q := by
 intro A W s vs R X V
 (refine x2_1 V.two ?_; intro v w z14 z15; obtain rfl := z14; refine x0_1 z15 ?_; clear z15; intro r1 r2)
 (refine x1_0 r1.int ?_; intro t z16; obtain rfl := z16)
 (refine x1_0 r2.int ?_; intro u z17; obtain rfl := z17)
 refine max_two_ints R.handled fun h' tk hk => ?_
 refine ⟨W, σ, _, ⟨X.grows hk, Le.refl W, rfl, rfl⟩, rfl, ?_, q⟩
 by_cases h : b > a
 ·rw [if_pos h, show max a b = b by lia]; exact Rd.int _ _
 ·rw [if_neg h, show max a b = a by lia]; exact Rd.int _ _
theorem CallW.min2 {a b : Int} {Q : AV → AH → Prop} (q : Q (.d (.int (min a b))) σ) : CallW g k (.builtin "min") [.d (.int a), .d (.int b)] σ Q := by
 intro A W s vs R X V
 (refine x2_1 V.two ?_; intro v w z18 z19; obtain rfl := z18; refine x0_1 z19 ?_; clear z19; intro r1 r2)
 (refine x1_0 r1.int ?_; intro t z20; obtain rfl := z20)
 (refine x1_0 r2.int ?_; intro u z21; obtain rfl := z21)
 refine min_two_ints R.handled fun h' tk hk => ?_
 refine ⟨W, σ, _, ⟨X.grows hk, Le.refl W, rfl, rfl⟩, rfl, ?_, q⟩
 by_cases h : b < a
 ·rw [if_pos h, show min a b = b by lia]; exact Rd.int _ _
 ·rw [if_neg h, show min a b = a by lia]; exact Rd.int _ _
theorem CallW.maxL {a : AV} {ns : List Int} {Q : AV → AH → Prop} (e : AsD σ a (.list (ns.map .int))) (hne : ns ≠ []) (q : ∀ M, M ∈ ns → (∀ x ∈ ns, x ≤ M) → Q (.d (.int M)) σ) : CallW g k (.builtin "max") [a] σ Q := by
 intro A W s vs R X V
 (refine x1_1 V.one ?_; intro v z22 r1; obtain rfl := z22)
 (refine x2_1 (X.lstA r1 e) ?_; intro b ws z23 z24; obtain rfl := z23; refine x0_1 z24 ?_; clear z24; intro hL r)
 have hi := rdInts r
 (refine x1_0 (AllInts.items (vs := ws) hi.allInts) ?_; intro xs z25; obtain rfl := z25)
 have hx : ns = xs.toList.map (·.1) := by rw [← nums_intItems, hi.numsOf]
 have hsz : 0 < xs.size := by
  rcases Nat.eq_zero_or_pos xs.size with z | z
  ·exact absurd (by rw [hx]; simpa using z) hne
  ·exact z
 refine max_intList R.handled hL hsz fun v h' tk hv hk => ?_
 (refine x1_0 (intItems_at hv) ?_; intro t z26; obtain rfl := z26)
 (refine x0_1 (argBest_gt (numAt xs) (xs.size - 1)) ?_; intro h1 h2)
 refine ⟨W, σ, .d (.int _), ⟨X.grows hk, Le.refl W, rfl, rfl⟩, rfl, Rd.int _ _, q _ ?_ fun a ha => ?_⟩
 ·rw [hx, numAt_eq]; exact getD_mem (by rw [List.length_map, Array.length_toList]; lia)
 ·rw [hx] at ha
  (refine x1_1 (mem_getD ha) ?_; intro j hj z27; obtain rfl := z27)
  rw [List.length_map, Array.length_toList] at hj
  rw [← numAt_eq]; exact h2 j (by lia)
theorem CallW.minL {a : AV} {ns : List Int} {Q : AV → AH → Prop} (e : AsD σ a (.list (ns.map .int))) (hne : ns ≠ []) (q : ∀ M, M ∈ ns → (∀ x ∈ ns, M ≤ x) → Q (.d (.int M)) σ) : CallW g k (.builtin "min") [a] σ Q := by
 intro A W s vs R X V
 (refine x1_1 V.one ?_; intro v z28 r1; obtain rfl := z28)
 (refine x2_1 (X.lstA r1 e) ?_; intro b ws z29 z30; obtain rfl := z29; refine x0_1 z30 ?_; clear z30; intro hL r)
 have hi := rdInts r
 (refine x1_0 (AllInts.items (vs := ws) hi.allInts) ?_; intro xs z31; obtain rfl := z31)
 have hx : ns = xs.toList.map (·.1) := by rw [← nums_intItems, hi.numsOf]
 have hsz : 0 < xs.size := by
  rcases Nat.eq_zero_or_pos xs.size with z | z
  ·exact absurd (by rw [hx]; simpa using z) hne
  ·exact z
 refine min_intList R.handled hL hsz fun v h' tk hv hk => ?_
 (refine x1_0 (intItems_at hv) ?_; intro t z32; obtain rfl := z32)
 (refine x0_1 (argBest_lt (numAt xs) (xs.size - 1)) ?_; intro h1 h2)
 refine ⟨W, σ, .d (.int _), ⟨X.grows hk, Le.refl W, rfl, rfl⟩, rfl, Rd.int _ _, q _ ?_ fun a ha => ?_⟩
 ·rw [hx, numAt_eq]; exact getD_mem (by rw [List.length_map, Array.length_toList]; lia)
 ·rw [hx] at ha
  (refine x1_1 (mem_getD ha) ?_; intro j hj z33; obtain rfl := z33)
  rw [List.length_map, Array.length_toList] at hj
  rw [← numAt_eq]; exact h2 j (by lia)
theorem CallW.sumL {a : AV} {ns : List Int} {Q : AV → AH → Prop} (e : AsD σ a (.list (ns.map .int))) (q : Q (.d (.int ns.sum)) σ) : CallW g k (.builtin "sum") [a] σ Q := by
 intro A W s vs R X V
 (refine x1_1 V.one ?_; intro v z34 r1; obtain rfl := z34)
 (refine x2_1 (X.lstA r1 e) ?_; intro b ws z35 z36; obtain rfl := z35; refine x0_1 z36 ?_; clear z36; intro hL r)
 have hi := rdInts r
 (refine x1_0 (AllInts.items (vs := ws) hi.allInts) ?_; intro xs z37; obtain rfl := z37)
 have hx : ns = xs.toList.map (·.1) := by rw [← nums_intItems, hi.numsOf]
 refine sum_intListG R.handled hL fun h' tk t' hk => ?_
 rw [preSum_eq, List.take_of_length_le (by simp), ← hx]
 exact ⟨W, σ, .d (.int _), ⟨X.grows hk, Le.refl W, rfl, rfl⟩, rfl, Rd.int _ _, q⟩
theorem cL {a : AV} {xs : List PyData} {Q : AV → AH → Prop} (e : AsD σ a (.list xs)) (hl : xs.length ≤ 10000) (q : Q (.d (.tuple xs)) σ) : CallW g k (.type "tuple") [a] σ Q := by
 intro A W s vs R X V
 (refine x1_1 V.one ?_; intro v z38 r1; obtain rfl := z38)
 (refine x2_1 (X.lstA r1 e) ?_; intro b ws z39 z40; obtain rfl := z39; refine x0_1 z40 ?_; clear z40; intro hL r)
 have hz : ws.size = xs.length := by rw [← Array.length_toList]; exact r.length
 refine call_tuple_list hL (fun h' hk => ?_) (szle (by rw [hz]; exact hl))
 (refine x0_1 ((X.grows hk).allocF (o := { cls := .type "tuple", data := .seq ws }) rfl) ?_; intro X' l)
 exact ⟨_, σ, .d (.tuple xs), ⟨X', l, rfl, rfl⟩, rfl, Rd.tuple (W.addF_at _ _) rfl rfl (RdAll.mono l.F r), q⟩
theorem CallW.tupleT {xs : List PyData} {Q : AV → AH → Prop} (q : Q (.d (.tuple xs)) σ) : CallW g k (.type "tuple") [.d (.tuple xs)] σ Q := by
 intro A W s vs R X V
 (refine x1_1 V.one ?_; intro v z41 r1; obtain rfl := z41)
 have r1' := r1
 (refine x2_1 (X.tup r1) ?_; intro b ws z42 z43; obtain rfl := z42; refine x0_1 z43 ?_; clear z43; intro hL r)
 exact call_tuple_tup hL ⟨W, σ, _, ⟨X, Le.refl W, rfl, rfl⟩, rfl, r1', q⟩
theorem CallW.listL {a : AV} {xs : List PyData} {Q : AV → AH → Prop} (e : AsD σ a (.list xs)) (hl : xs.length ≤ 10000) (q : Q (.r σ.next) (σ.push (.list xs))) : CallW g k (.type "list") [a] σ Q := by
 intro A W s vs R X V
 (refine x1_1 V.one ?_; intro v z44 r1; obtain rfl := z44)
 (refine x2_1 (X.lstA r1 e) ?_; intro b ws z45 z46; obtain rfl := z45; refine x0_1 z46 ?_; clear z46; intro z47 r; (refine x1_2 z47 ?_; clear z47; intro o ho hc z1; refine x1_0 z1 ?_; clear z1; intro n hd))
 have hz : ws.size = xs.length := by rw [← Array.length_toList]; exact r.length
 refine call_list_seq b (.inl rfl) ho hc hd (fun h' c' hk hn => ?_) (szle (by rw [hz]; exact hl))
 have n1 : s.heap.get? s.heap.objs.size = none := Heap.get?_none_of_le (Nat.le_refl _)
 have big : ∀ {o}, s.heap.get? (h'.objs.size + s.heap.objs.size + 1) ≠ some o := fun e => absurd (Heap.lt_size (hk _ _ e)) (Nat.not_lt.mpr (Nat.le_trans (Nat.le_add_right _ _) (Nat.le_succ _)))
 have X1 := X.grows hk
 have X' := X1.addO (a := s.heap.objs.size) (d := h'.objs.size + s.heap.objs.size + 1) (o := .list xs) X.fNew X.pNew (fun i q => X.oNew q)
  (by
   cases e : W.F (h'.objs.size + s.heap.objs.size + 1) with
   | none => rfl
   | some o => exact (big (X.keepF _ _ e)).elim)
  (by
   cases e : W.P (h'.objs.size + s.heap.objs.size + 1) with
   | none => rfl
   | some o => exact (big (X.keepP _ _ e)).elim) (fun i q => by (refine x1_0 (X.owned q) ?_; intro o e); exact big e) (Nat.ne_of_lt (Nat.lt_succ_of_le (Nat.le_add_left _ _)))
  ⟨ws, ⟨c', by rw [Wd.addO_φ]; exact hn⟩, r⟩
 refine ⟨_, _, .r σ.next, ⟨X', W.leO _ _, rfl, rfl⟩, rfl, ?_, q⟩
 rw [← X.n]
 exact ⟨Nat.lt_succ_self _, by rw [Wd.addO_φ]⟩
end
end
section
set_option tactic.hygienic false
section
variable {K : Params → Frag} (g : G K)
noncomputable def Iter (A : Around) (ip : Addr → Prop) (T : Expr) (it : Value) : List PyData → Wd → Prop
 | [], W => ∀ (W' : Wd) (σ : AH) (s : Shared), Le W W' → (∀ a, ip a → W'.P a = W.P a) → Abs g W' σ s.heap →
   wpAny (model g.prog g.w) A (pyNext it) (fun r s' => r = none ∧ ∃ W'', Stp g W' s W'' σ s' ∧ ∀ a, ¬ ip a → W''.P a = W'.P a) NoE s
 | d :: xs, W => ∀ (W' : Wd) (σ : AH) (s : Shared), Le W W' → (∀ a, ip a → W'.P a = W.P a) → Abs g W' σ s.heap →
   wpAny (model g.prog g.w) A (pyNext it) (fun r s' => ∃ v, r = some v ∧ wpAny (model g.prog g.w) A (letOwnedTupleGo T it v) (fun ww s'' => ∃ W'', Stp g W' s W'' σ s'' ∧ (∀ a, ¬ ip a → W''.P a = W'.P a) ∧ Rd W''.F v d ∧ Iter A ip T it xs W'') NoE s') NoE s
noncomputable def SelfIt (A : Around) (ip : Addr → Prop) (it : Value) (W : Wd) : Prop := ∀ (W' : Wd) (σ : AH) (s : Shared) (Q : Value → Shared → Prop), Le W W' → (∀ a, ip a → W'.P a = W.P a) → Abs g W' σ s.heap → Q it s → wpAny (model g.prog g.w) A (pyIter it) Q NoE s
noncomputable def SrcW (k : Nat) (sc : Scope) (m : Loc) (σ : AH) (e : Expr) (T : Expr) (Q : List PyData → AH → Prop) : Prop :=
 ∀ (A : Around) (env : Env) (W : Wd) (s : Shared), Room k A → EnvOk env sc → Abs g W σ s.heap → Frm env m W →
  wpAny (model g.prog g.w) A (eval e env) (fun x s1 => wpAny (model g.prog g.w) A (pyIter x) (fun it s2 => ∃ W' σ' xs ip, Stp g W s W' σ' s2 ∧ (∀ a, ¬ ip a → W'.P a = W.P a) ∧ (∀ a, ip a → W.P a = none ∧ ∃ o, W'.P a = some o) ∧ Iter g A ip T it xs W' ∧ SelfIt g A ip it W' ∧ Q xs σ') NoE s1) NoE s
noncomputable def ForL (k : Nat) (sc : Scope) (T : Expr) (body : List Stmt) (Q : Fl → Loc → AH → Prop) : List PyData → Loc → AH → Prop
 | [], m, σ => Q .next m σ
 | d :: xs, m, σ => AsgW g k sc m σ T (.d d) (fun m1 σ1 => ExW g k sc m1 σ1 body (fun f m2 σ2 => match f with | .next => ForL k sc T body Q xs m2 σ2 | .ret v => Q (.ret v) m2 σ2))
end
section
variable {K : Params → Frag} {g : G K} {k : Nat} {sc : Scope} {m : Loc} {σ : AH}
theorem Abs.turnP {W : Wd} {h h' : Heap} (X : Abs g W σ h) {wr : List Addr} (hw : ∀ b ∈ wr, ∃ o, W.P b = some o) (hk : ∀ b o, b ∉ wr → h.get? b = some o → h'.get? b = some o) :
  Abs g { W with P := fun b => if b ∈ wr then h'.get? b else W.P b } σ h' := by
 have l : Le W { W with P := fun b => if b ∈ wr then h'.get? b else W.P b } := ⟨fun ww ww e => e, Nat.le_refl _, fun ww ww => rfl, fun ww ww => rfl⟩
 have nF : ∀ a o, W.F a = some o → a ∉ wr := fun a o e q => by (refine x1_0 (hw a q) ?_; intro o' e'); have := X.fp a o' e'; rw [e] at this; cases this
 have nO : ∀ i a, Owns W σ i a → a ∉ wr := fun i a e q => by (refine x1_0 (hw a q) ?_; intro o' e'); have := (X.free i a e).2; rw [e'] at this; cases this
 refine ⟨X.base, fun a o e => hk a o (nF a o e) (X.keepF a o e), fun a o e => ?_, fun a o e => ?_, X.n, fun i o e => ?_, X.lt, X.sep, X.two, fun i a q => ⟨(X.free i a q).1, ?_⟩⟩
 ·change (if a ∈ wr then h'.get? a else W.P a) = some o at e
  split at e
  ·exact e
  ·rename_i q; exact hk a o q (X.keepP a o e)
 ·change (if a ∈ wr then h'.get? a else W.P a) = some o at e
  split at e
  ·rename_i q
   (refine x1_0 (hw a q) ?_; intro o' e')
   exact X.fp a o' e'
  ·exact X.fp a o e
 ·refine (X.obj i o e).le l (X.wlt e) ?_ fun C fs z => ?_
  ·have ow : Owns W σ i (W.φ i) := ⟨o, e, .inl rfl⟩
   (refine x1_0 (X.owned ow) ?_; intro x q)
   rw [q, hk _ _ (nO i _ ow) q]
  ·have ow : Owns W σ i (W.δ i) := ⟨o, e, .inr ⟨C, fs, z, rfl⟩⟩
   (refine x1_0 (X.owned ow) ?_; intro x q)
   rw [q, hk _ _ (nO i _ ow) q]
 ·show (if a ∈ wr then h'.get? a else W.P a) = none
  rw [if_neg (nO i a q)]
  exact (X.free i a q).2
theorem Iter.ofWalks {A : Around} {T : Expr} {I : Addr} {fp wr : List Addr} {n : Nat} {P : Nat → Value → Prop} {St : Nat → Heap → Prop} (Wk : Walks g.prog g.w A I fp wr n P St)
  (hgo : ∀ i (s : Shared) v (Q : Unit → Shared → Prop), St i s.heap → Q () s → wpAny (model g.prog g.w) A (letOwnedTupleGo T (.ref I) v) Q NoE s)
  (hex : ∀ i h, St i h → ∀ b ∈ wr, ∃ o, h.get? b = some o) : ∀ (xs : List PyData) (W : Wd) (i : Nat) (σ : AH) (h : Heap), Abs g W σ h → St i h → n = i + xs.length →
   (∀ b ∈ wr, ∃ o, W.P b = some o) → (∀ b ∈ fp, b ∈ wr ∨ ∃ o, W.F b = some o) → (∀ j v, i ≤ j → j < n → P j v → ∃ d, xs[j - i]? = some d ∧ Rd W.F v d) → Iter g A (· ∈ wr) T (.ref I) xs W := by
 intro xs
 have still : ∀ {W W' : Wd} {σ σ' : AH} {h : Heap} {s : Shared} {i : Nat}, Abs g W σ h → Abs g W' σ' s.heap → Le W W' → (∀ a, a ∈ wr → W'.P a = W.P a) → St i h → (∀ b ∈ wr, ∃ o, W.P b = some o) → (∀ b ∈ fp, b ∈ wr ∨ ∃ o, W.F b = some o) →
   St i s.heap ∧ (∀ b ∈ wr, ∃ o, W'.P b = some o) := by
  intro W W' σ σ' h s i X X' l hp st hw hf
  refine ⟨Wk.frame i h s.heap st fun b hb o e => ?_, fun b hb => by rw [hp b hb]; exact hw b hb⟩
  rcases hf b hb with hb | ⟨o', e'⟩
  ·(refine x1_0 (hw b hb) ?_; intro o' e')
   have := X.keepP _ _ e'
   rw [e] at this; cases this
   exact X'.keepP _ _ (by rw [hp b hb]; exact e')
  ·have := X.keepF _ _ e'
   rw [e] at this; cases this
   exact X'.keepF _ _ (l.F _ _ e')
 induction xs with
 | nil =>
  intro W i σ h X st hn hw hf hi W' σ' s l hp X'
  (refine x0_1 (still X X' l hp st hw hf) ?_; intro st' hw')
  rw [List.length_nil, Nat.add_zero] at hn
  subst hn
  refine Wk.done s _ _ st' fun h' tk hk => ⟨rfl, _, ⟨X'.turnP hw' hk, ⟨fun ww ww e => e, Nat.le_refl _, fun ww ww => rfl, fun ww ww => rfl⟩, rfl, rfl⟩, fun a ha => ?_⟩
  show (if a ∈ wr then h'.get? a else W'.P a) = W'.P a
  rw [if_neg ha]
 | cons d xs ih =>
  intro W i σ h X st hn hw hf hi W' σ' s l hp X'
  (refine x0_1 (still X X' l hp st hw hf) ?_; intro st' hw')
  rw [List.length_cons] at hn
  refine Wk.item i s _ _ (by lia) st' fun v h' tk hP st2 hk => ⟨v, rfl, ?_⟩
  refine hgo (i + 1) _ v _ st2 ?_
  have X2 := X'.turnP hw' hk
  have l2 : Le W' { W' with P := fun b => if b ∈ wr then h'.get? b else W'.P b } := ⟨fun ww ww e => e, Nat.le_refl _, fun ww ww => rfl, fun ww ww => rfl⟩
  have l3 := l.trans l2
  (refine x1_1 (hi i v (Nat.le_refl _) (by lia) hP) ?_; intro d' hd rd)
  rw [Nat.sub_self] at hd
  cases hd
  refine ⟨_, ⟨X2, l2, rfl, rfl⟩, fun a ha => ?_, Rd.mono l3.F rd, ?_⟩
  ·show (if a ∈ wr then h'.get? a else W'.P a) = W'.P a
   rw [if_neg ha]
  ·refine ih _ (i + 1) σ' h' X2 st2 (by lia) (fun b hb => ?_) (fun b hb => ?_) fun j w h1 h2 hj => ?_
   ·(refine x1_0 (hex _ _ st2 b hb) ?_; intro o e)
    exact ⟨o, by show (if b ∈ wr then h'.get? b else W'.P b) = _; rw [if_pos hb]; exact e⟩
   ·rcases hf b hb with q | ⟨o, e⟩
    ·exact .inl q
    ·exact .inr ⟨o, l3.F _ _ e⟩
   ·(refine x1_1 (hi j w (by lia) h2 hj) ?_; intro d' e r)
    refine ⟨d', ?_, Rd.mono l3.F r⟩
    rw [show j - i = (j - (i + 1)) + 1 by lia] at e
    exact e
theorem Iter.le {A : Around} {ip : Addr → Prop} {T : Expr} {it : Value} : ∀ {xs : List PyData} {W W1 : Wd}, Iter g A ip T it xs W → Le W W1 → (∀ a, ip a → W1.P a = W.P a) → Iter g A ip T it xs W1
 | [], _, _, h, l, p => fun W' σ s l' p' X => h W' σ s (l.trans l') (fun a ha => (p' a ha).trans (p a ha)) X
 | _ :: _, _, _, h, l, p => fun W' σ s l' p' X => h W' σ s (l.trans l') (fun a ha => (p' a ha).trans (p a ha)) X
theorem StW.for {T iter : Expr} {body : List Stmt} {pos : Pos} {Q : Fl → Loc → AH → Prop} (hfree : ∀ x, sc.names.lookup x ≠ some .free) (hs : ∀ env x, foldedSetIterable iter env x = pure x)
  (h : SrcW g k sc m σ iter T (fun xs σ1 => ForL g k sc T body Q xs m σ1)) : StW g k sc m σ (.For T iter body [] pos) Q := by
 intro A env W s R eo X Fm
 refine wpAny_For (wpAny_mono (h A env W s R eo X Fm) (fun x s1 h1 => wpAny_mono h1 (fun it s2 z => ?_) fun ww ww x => x.elim) fun ww ww x => x.elim) (hs env)
 (refine x4_5 z ?_; clear z; intro W1 σ1 xs ip st hP hipp hI ww hL)
 have hip : ∀ a, ip a → W.P a = none := fun a ha => (hipp a ha).1
 have nL : ¬ ip env.locals := fun q => by
  (refine x3_1 Fm.loc ?_; intro o es ep h1 ww)
  have := hip _ q; rw [h1] at this; cases this
 have nC : ∀ x c, env.scope.names.lookup x = some .cell → env.cells.lookup x = some c → ¬ ip c := fun x c h1 h2 q => by
  (refine x2_2 (Fm.cell x h1) ?_; intro c' cv e z1 ww; (refine x1_1 z1 ?_; clear z1; intro o e' _))
  rw [h2] at e; cases e
  have := hip _ q; rw [e'] at this; cases this
 have past : ∀ {m' : Loc} {W' W'' : Wd}, Frm env m' W' → Le W' W'' → (∀ a, ¬ ip a → W''.P a = W'.P a) → Frm env m' W'' := by
  intro m' W' W'' F l hp
  obtain ⟨a, b, c, d, e⟩ := F
  refine ⟨?_, fun x v h1 h2 => (hfree x (by rw [← eo.scope]; exact h1)).elim, fun x h1 => ?_, d, e⟩
  ·(refine x3_3 a ?_; clear a; intro o es ep h1 h2 h3 h4)
   refine ⟨o, es, ep, by rw [hp _ nL]; exact h1, h2, h3, fun x v p q => ?_⟩
   (refine x1_1 (h4 x v p q) ?_; intro v' y z)
   exact ⟨v', y, z.le l⟩
  ·(refine x2_2 (c x h1) ?_; intro cc cv p z2 r; (refine x1_1 z2 ?_; clear z2; intro o q1 q2))
   exact ⟨cc, cv, p, ⟨o, by rw [hp _ (nC x cc h1 p)]; exact q1, q2⟩, fun v hv => x1_1 (r v hv) fun v' y z => ⟨v', y, z.le l⟩⟩
 classical
 have fin : ∀ {W4 : Wd} {σ4 : AH} {s4 : Shared} {m4 : Loc} {fl : Flow} {f : Fl}, Stp g W s W4 σ4 s4 → (∀ a, ¬ ip a → a ≠ env.locals → (∀ x c, env.scope.names.lookup x = some .cell → env.cells.lookup x = some c → a ≠ c) → W4.P a = W.P a) → Frm env m4 W4 → FlR W4 fl f → Q f m4 σ4 →
   SPost g env W s Q fl s4 := by
  intro W4 σ4 s4 m4 fl f st4 hp4 F4 fr4 q4
  have l : Le W4 { W4 with P := fun a => if ip a then none else W4.P a } := ⟨fun ww ww e => e, Nat.le_refl _, fun ww ww => rfl, fun ww ww => rfl⟩
  refine ⟨{ W4 with P := fun a => if ip a then none else W4.P a }, σ4, m4, f, ⟨st4.abs.lessP fun a o e => ?_, st4.le.trans l, st4.os, st4.gens⟩, fun a h1 h2 => ?_, past F4 l fun a ha => if_neg ha, ?_, q4⟩
  ·split at e
   ·cases e
   ·exact e
  ·show (if ip a then none else W4.P a) = W.P a
   by_cases ha : ip a
   ·rw [if_pos ha, hip a ha]
   ·rw [if_neg ha]; exact hp4 a ha h1 h2
  ·cases fl <;> cases f <;> first | exact fr4 | (rename_i a; cases a <;> exact fr4)
 refine codeAny_forLoop_any (fun n s' => ∃ W' σ' m' xs', n = xs'.length ∧ Stp g W s W' σ' s' ∧ (∀ a, ¬ ip a → a ≠ env.locals → (∀ x c, env.scope.names.lookup x = some .cell → env.cells.lookup x = some c → a ≠ c) → W'.P a = W.P a) ∧
  Frm env m' W' ∧ Iter g A ip T it xs' W' ∧ ForL g k sc T body Q xs' m' σ') ?_ xs.length ⟨W1, σ1, m, xs, rfl, st, fun a h1 ww ww => hP a h1, past Fm st.le hP, hI, hL⟩
 (intro n; intro s'; intro z2r; (refine x4_1 z2r ?_; clear z2r; intro W' σ' m' xs' z3 z4; obtain rfl := z3; refine x0_4 z4 ?_; clear z4; intro st' hp' Fm' hI' hL'))
 cases xs' with
 | nil =>
  refine wpAny_mono (hI' W' σ' s' (Le.refl W') (fun ww ww => rfl) st'.abs) (fun r s'' z => ?_) fun ww ww x => x.elim
  (refine x0_1 z ?_; clear z; intro z5 z6; obtain rfl := z5; refine x1_1 z6 ?_; clear z6; intro W'' st2 hp2)
  exact wpAny_execs_nil (fin (st'.trans st2) (fun a h1 h2 h3 => (hp2 a h1).trans (hp' a h1 h2 h3)) (past Fm' st2.le hp2) (fl := .next) (f := .next) trivial hL')
 | cons d xs' =>
  refine wpAny_mono (hI' W' σ' s' (Le.refl W') (fun ww ww => rfl) st'.abs) (fun r s'' z => ?_) fun ww ww x => x.elim
  (refine x1_1 z ?_; clear z; intro v z7 z; obtain rfl := z7)
  refine wpAny_mono z (fun ww s3 z => ?_) fun ww ww x => x.elim
  (refine x1_3 z ?_; clear z; intro W3 st3 hp3 rd3 hI3)
  refine wpAny_mono (hL' A env W3 s3 v R eo st3.abs (past Fm' st3.le hp3) rd3) (fun ww s4 z => ?_) fun ww ww x => x.elim
  (refine APost.out z ?_; clear z; intro W4 σ4 m4 st4 fp4 Fm4 hB)
  refine wpAny_mono (hB A env W4 s4 R eo st4.abs Fm4) (fun fl s5 z => ?_) fun ww ww x => x.elim
  (refine SPost.out z ?_; clear z; intro W5 σ5 m5 f st5 fp5 Fm5 fr5 q5)
  have stp : Stp g W s W5 σ5 s5 := ((st'.trans st3).trans st4).trans st5
  have hp5 : ∀ a, ¬ ip a → a ≠ env.locals → (∀ x c, env.scope.names.lookup x = some .cell → env.cells.lookup x = some c → a ≠ c) → W5.P a = W.P a := fun a h1 h2 h3 =>
   (fp5 a h2 h3).trans ((fp4 a h2 h3).trans ((hp3 a h1).trans (hp' a h1 h2 h3)))
  have hip5 : ∀ a, ip a → W5.P a = W3.P a := fun a ha => by
   have n1 : a ≠ env.locals := fun z => nL (z ▸ ha)
   have n2 : ∀ x c, env.scope.names.lookup x = some .cell → env.cells.lookup x = some c → a ≠ c := fun x c h1 h2 z => nC x c h1 h2 (z ▸ ha)
   exact (fp5 a n1 n2).trans (fp4 a n1 n2)
  cases fl with
  | next =>
   cases f with
   | next => exact ⟨xs'.length, Nat.lt_succ_self _, W5, σ5, m5, xs', rfl, stp, hp5, Fm5, hI3.le (st4.le.trans st5.le) hip5, q5⟩
   | ret v => exact fr5.elim
  | ret v =>
   cases f with
   | next => exact fr5.elim
   | ret a => exact fin stp hp5 Fm5 fr5 q5
  | brk => exact fr5.elim
  | cont => exact fr5.elim
theorem lgo_list {A : Around} {T : Expr} {I : Addr} {s : Shared} {v : Value} {Q : Unit → Shared → Prop} {n : String} {o : Obj} (ho : s.heap.get? I = some o) (hc : o.cls = .type n)
  (hn : ["enumerate", "zip", "dict_itemiterator", "dict_reverseitemiterator", "odict_iterator", "itertools.zip_longest", "itertools.pairwise"].contains n = false) (h : Q () s) :
  wpAny (model g.prog g.w) A (letOwnedTupleGo T (.ref I) v) Q NoE s := by
 unfold letOwnedTupleGo
 have main : wpAny (model g.prog g.w) A (do
   let (.ref r, .ref a) := (Value.ref I, v) | return
   let o ← load r
   match o.cls, o.data with
   | .type n, .fields vs =>
    if ["enumerate", "zip", "dict_itemiterator", "dict_reverseitemiterator", "odict_iterator", "itertools.zip_longest", "itertools.pairwise"].contains n && vs[0]? == some (rawInt a) then
     rule "for.unpacks-the-owned-tuple"
     updateField r 0 .none
   | _, _ => pure ()) Q NoE s := by
  cases v with
  | ref a =>
   refine wpAny_bind (wpAny_load ho ?_)
   rw [hc]
   cases o.data <;> try exact wpAny_pure h
   dsimp only
   rw [hn, Bool.false_and]
   exact wpAny_pure h
  | _ => exact wpAny_pure h
 cases T <;> first | exact main | exact wpAny_pure h
end
end
section
set_option tactic.hygienic false
section
variable {K : Params → Frag} {g : G K} {k : Nat} {sc : Scope} {m : Loc} {σ : AH}
theorem iter_of {A : Around} {T : Expr} {W : Wd} {s : Shared} {oI : Obj} {fp : List Addr} {n : Nat} {P : Nat → Value → Prop} {St : Nat → Heap → Prop} {xs : List PyData} {tn : String} (X : Abs g W σ s.heap) (hf : oI.isFreed = false)
  (Wk : Walks g.prog g.w A s.heap.objs.size fp [s.heap.objs.size] n P St) (st : St 0 (s.heap.push oI)) (hn : n = xs.length)
  (hcl : ∀ i h, St i h → ∃ o, h.get? s.heap.objs.size = some o ∧ o.cls = .type tn)
  (htn : ["enumerate", "zip", "dict_itemiterator", "dict_reverseitemiterator", "odict_iterator", "itertools.zip_longest", "itertools.pairwise"].contains tn = false)
  (hfp : ∀ b ∈ fp, b = s.heap.objs.size ∨ ∃ o, W.F b = some o) (hi : ∀ j v, j < n → P j v → ∃ d, xs[j]? = some d ∧ Rd W.F v d) :
  ∃ W', Abs g W' σ (s.heap.push oI) ∧ Le W W' ∧ (∀ a, ¬ (a ∈ [s.heap.objs.size]) → W'.P a = W.P a) ∧ (∀ a, a ∈ [s.heap.objs.size] → W.P a = none ∧ ∃ o, W'.P a = some o) ∧ Iter g A (· ∈ [s.heap.objs.size]) T (.ref s.heap.objs.size) xs W' ∧ SelfIt g A (· ∈ [s.heap.objs.size]) (.ref s.heap.objs.size) W' := by
 have X' := X.allocP (o := oI) hf
 have P1 : ∀ b ∈ [s.heap.objs.size], ∃ o, (W.setP s.heap.objs.size (some oI)).P b = some o := fun b hb => ⟨oI, by
  rw [List.mem_singleton.mp hb]
  show (if _ = _ then _ else _) = _
  rw [if_pos rfl]⟩
 have F1 : ∀ b ∈ fp, b ∈ [s.heap.objs.size] ∨ ∃ o, (W.setP s.heap.objs.size (some oI)).F b = some o := fun b hb => (hfp b hb).imp (fun e => by rw [e]; simp) id
 refine ⟨_, X', W.leP _ _, fun a ha => ?_, fun a ha => ?_, ?_, ?_⟩
 ·show (if a = _ then _ else _) = _
  rw [if_neg (by simpa using ha)]
 ·refine ⟨by rw [List.mem_singleton.mp ha]; exact X.pNew, P1 a ha⟩
 ·refine Iter.ofWalks Wk (fun i s' v Q st' h => ?_) (fun i h st' b hb => ?_) xs _ 0 σ _ X' st (by lia) P1 F1 fun j v ww hj hp => hi j v hj hp
  ·(refine x1_1 (hcl _ _ st') ?_; intro o e1 e2)
   exact lgo_list e1 e2 htn h
  ·rw [List.mem_singleton.mp hb]
   (refine x1_1 (hcl _ _ st') ?_; intro o e1 ww)
   exact ⟨o, e1⟩
 ·intro W' σ' s' Q l hp X2 q
  refine Wk.self 0 s' Q NoE ?_ q
  refine Wk.frame 0 _ _ st fun b hb o e => ?_
  rcases F1 b hb with hb | ⟨o', e'⟩
  ·(refine x1_0 (P1 b hb) ?_; intro o' e')
   have := X'.keepP _ _ e'
   rw [e] at this; cases this
   exact X2.keepP _ _ (by rw [hp b hb]; exact e')
  ·have := X'.keepF _ _ e'
   rw [e] at this; cases this
   exact X2.keepF _ _ (l.F _ _ e')
theorem items_rd {F : FH} {vs : Array Value} {xs : List PyData} (r : RdAll F vs.toList xs) {j : Nat} {v : Value} (hj : vs[j]? = some v) : ∃ d, xs[j]? = some d ∧ Rd F v d := by
 have hl := r.length
 have hjl : j < xs.length := by
  have := (Array.getElem?_eq_some_iff.mp hj).1
  rw [← hl, Array.length_toList]; exact this
 obtain ⟨w, e, q⟩ := r.get (List.getElem?_eq_getElem hjl)
 have : v = w := by rw [← Array.getElem?_toList, e] at hj; exact (Option.some.inj hj).symm
 exact ⟨_, List.getElem?_eq_getElem hjl, this ▸ q⟩
theorem SrcW.data {e T : Expr} {Q : List PyData → AH → Prop} (h : EvW g k sc m σ e (fun a σ1 => ∃ xs, (a = .d (.list xs) ∨ a = .d (.tuple xs)) ∧ Q xs σ1)) : SrcW g k sc m σ e T Q := by
 intro A env W s R eo X Fm
 refine h.then R eo X Fm fun v s1 W1 σ1 a st p Fm1 vr h1 => ?_
 (refine x1_1 h1 ?_; clear h1; intro xs ha q)
 have X1 := st.abs
 rcases ha with rfl | rfl
 ·change Rd W1.F v (.list xs) at vr
  refine x4_4 vr.inv ?_
  clear vr
  intro ax o vs n zv e hc hd r
  subst zv
  have hl : s1.heap.IsList ax vs := ⟨o, X1.keepF _ _ e, hc, n, hd⟩
  have hne : ax ≠ s1.heap.objs.size := Nat.ne_of_lt (Heap.lt_size (X1.keepF _ _ e))
  refine wpAny_pyIter_list hl ?_
  obtain ⟨W', X', l, p1, p2, it, self⟩ := iter_of (T := T) (oI := { cls := .type "list_iterator", data := .fields #[.ref ax, .int 0 0] }) (tn := "list_iterator") X1 rfl
   (Walks.list (prog := g.prog) (w := g.w) (A := A) R.handled s1.heap.objs.size ax hne vs) ⟨⟨_, Heap.get?_push_size _ rfl, rfl, rfl⟩, hl.push _⟩ (by rw [← Array.length_toList]; exact r.length)
   (fun i h st' => x1_2 st'.1 fun o e1 e2 ww => ⟨o, e1, e2⟩) (by decide) (fun b hb => by
    rcases List.mem_cons.mp hb with rfl | hb
    ·exact .inl rfl
    ·rw [List.mem_singleton.mp hb]; exact .inr ⟨_, e⟩) fun j v ww hp => items_rd r hp
  exact ⟨W', σ1, xs, _, ⟨X', st.le.trans l, st.os, st.gens⟩, fun a ha => (p1 a ha).trans (by rw [p]), fun a ha => by rw [← p]; exact p2 a ha, it, self, q⟩
 ·change Rd W1.F v (.tuple xs) at vr
  refine x4_4 vr.inv ?_
  clear vr
  intro ax o vs n zv e hc hd r
  subst zv
  have hl : s1.heap.IsTuple ax vs := ⟨o, X1.keepF _ _ e, hc, n, hd⟩
  have hne : ax ≠ s1.heap.objs.size := Nat.ne_of_lt (Heap.lt_size (X1.keepF _ _ e))
  refine wpAny_pyIter_tuple hl ?_
  obtain ⟨W', X', l, p1, p2, it, self⟩ := iter_of (T := T) (oI := { cls := .type "tuple_iterator", data := .fields #[.ref ax, .int 0 0] }) (tn := "tuple_iterator") X1 rfl
   (Walks.tuple (prog := g.prog) (w := g.w) (A := A) R.handled s1.heap.objs.size ax hne vs) ⟨⟨_, Heap.get?_push_size _ rfl, rfl, rfl⟩, hl.push _⟩ (by rw [← Array.length_toList]; exact r.length)
   (fun i h st' => x1_2 st'.1 fun o e1 e2 ww => ⟨o, e1, e2⟩) (by decide) (fun b hb => by
    rcases List.mem_cons.mp hb with rfl | hb
    ·exact .inl rfl
    ·rw [List.mem_singleton.mp hb]; exact .inr ⟨_, e⟩) fun j v ww hp => items_rd r hp
  exact ⟨W', σ1, xs, _, ⟨X', st.le.trans l, st.os, st.gens⟩, fun a ha => (p1 a ha).trans (by rw [p]), fun a ha => by rw [← p]; exact p2 a ha, it, self, q⟩
noncomputable def rangeD (a b : Int) : List PyData := (List.range (b - a).toNat).map fun i => .int (a + (i : Nat))
theorem range_src {A : Around} {T : Expr} {W : Wd} {s : Shared} {r : Addr} {a b : Int} {t u v : Tok} (X : Abs g W σ s.heap) (R : Room k A) (hr : IsRange s.heap r a b 1 t u v) (h1 : -1000000 ≤ a) (h2 : a ≤ 1000000) (h3 : -1000000 ≤ b) (h4 : b ≤ 1000000)
  {Q : Value → Shared → Prop}
  (q : ∀ it s2 W' ip, Stp g W s W' σ s2 → (∀ c, ¬ ip c → W'.P c = W.P c) → (∀ c, ip c → W.P c = none ∧ ∃ o, W'.P c = some o) → Iter g A ip T it (rangeD a b) W' → SelfIt g A ip it W' → Q it s2) : wpAny (model g.prog g.w) A (pyIter (.ref r)) Q NoE s := by
 refine wpAny_pyIter_range hr (small_one (by lia) (by lia) (by lia) (by lia)) ?_
 rw [rangeSize_one]
 have hn : (if a < b then b - a else 0) = ((b - a).toNat : Int) := by split <;> lia
 rw [hn]
 obtain ⟨W', X', l, p1, p2, it, self⟩ := iter_of (T := T) (xs := rangeD a b) (oI := { cls := .type "range_iterator", data := .fields #[rawInt a, rawInt ((b - a).toNat : Int), rawInt 1] }) (tn := "range_iterator") X rfl
  (Walks.range (prog := g.prog) (w := g.w) (A := A) R.handled s.heap.objs.size a 1 (b - a).toNat) (by show IsRangeIter _ _ _ _ _; simpa using Heap.get?_push_size _ rfl) (by simp [rangeD])
  (fun i h st' => ⟨_, st', rfl⟩) (by decide) (fun b hb => .inl (List.mem_singleton.mp hb)) (fun j v hj hp => by
   (refine x1_0 hp ?_; clear hp; intro t z1; obtain rfl := z1)
   refine ⟨.int (a + (j : Int)), ?_, by rw [Int.mul_one]; exact Rd.int _ _⟩
   unfold rangeD
   rw [List.getElem?_map, List.getElem?_range hj]; rfl)
 exact q _ _ W' _ ⟨X', l, rfl, rfl⟩ p1 p2 it self
theorem SrcW.range1 {p : Pos} {e : Expr} {pos : Pos} {T : Expr} {Q : List PyData → AH → Prop} (hx : GlbW g sc "range" (.type "range")) (he : ∀ env, backTo pos (starEach [e] env) = [(false, eval e env)])
  (h : EvW g k sc m σ e (fun a σ1 => ∃ n, a = .d (.int n) ∧ -1000000 ≤ n ∧ n ≤ 1000000 ∧ Q (rangeD 0 n) σ1)) : SrcW g k sc m σ (.Call (.Name "range" p) [e] [] pos) T Q := by
 intro A env W s R eo X Fm
 refine Call_Name (he env) (hx A env s p _ eo X.base' ?_)
 refine PyProof.Rows.callWith_type rfl (evalArgs_plain (spliced_cons (h.then R eo X Fm fun v s1 W1 σ1 a st pp Fm1 vr h1 => spliced_nil ?_)))
 (refine x1_1 h1 ?_; clear h1; intro n z2 z3; obtain rfl := z2; refine x0_2 z3 ?_; clear z3; intro n1 n2 q)
 (refine x1_0 vr.int ?_; intro t z4; obtain rfl := z4)
 refine call_range_1 ?_
 have X1 := st.abs.grows (Grows.push s1.heap { cls := .type "range", data := .fields #[.int 0 s1.toks, .int n t, .int 1 (s1.toks + 1)] })
 refine range_src (s := { s1 with heap := s1.heap.push { cls := .type "range", data := .fields #[.int 0 s1.toks, .int n t, .int 1 (s1.toks + 1)] }, toks := s1.toks + 1 + 1 }) (T := T) X1 R (IsRange.new s1.heap 0 n 1 _ _ _) (by lia) (by lia) n1 n2 fun it s2 W' ip st2 p1 p2 it' self => ?_
 exact ⟨W', σ1, _, ip, ⟨st2.abs, st.le.trans st2.le, st2.os.trans st.os, st2.gens.trans st.gens⟩, fun c hc => (p1 c hc).trans (by rw [pp]), fun c hc => by rw [← pp]; exact p2 c hc, it', self, q⟩
theorem SrcW.range2 {p : Pos} {e f : Expr} {pos : Pos} {T : Expr} {Q : List PyData → AH → Prop} (hx : GlbW g sc "range" (.type "range")) (he : ∀ env, backTo pos (starEach [e, f] env) = [(false, eval e env), (false, eval f env)])
  (h : EvW g k sc m σ e (fun a σ1 => EvW g k sc m σ1 f (fun b σ2 => ∃ n n', a = .d (.int n) ∧ b = .d (.int n') ∧ -1000000 ≤ n ∧ n ≤ 1000000 ∧ -1000000 ≤ n' ∧ n' ≤ 1000000 ∧ Q (rangeD n n') σ2))) : SrcW g k sc m σ (.Call (.Name "range" p) [e, f] [] pos) T Q := by
 intro A env W s R eo X Fm
 refine Call_Name (he env) (hx A env s p _ eo X.base' ?_)
 refine PyProof.Rows.callWith_type rfl (evalArgs_plain (spliced_cons (h.then R eo X Fm fun v s0 W0 σ0 a st0 pp0 Fm0 vr0 h0 => spliced_cons (h0.then R eo st0.abs Fm0 fun w s1 W1 σ1 b st pp Fm1 vr h1 => spliced_nil ?_))))
 (refine x2_1 h1 ?_; clear h1; intro n n' z5 z6; obtain rfl := z5; refine x0_1 z6 ?_; clear z6; intro z7 z8; obtain rfl := z7; refine x0_4 z8 ?_; clear z8; intro n1 n2 n3 n4 q)
 (refine x1_0 vr0.int ?_; intro t z9; obtain rfl := z9)
 (refine x1_0 vr.int ?_; intro u z10; obtain rfl := z10)
 refine call_range_2 ?_
 have X1 := st.abs.grows (Grows.push s1.heap { cls := .type "range", data := .fields #[.int n t, .int n' u, .int 1 s1.toks] })
 refine range_src (s := { s1 with heap := s1.heap.push { cls := .type "range", data := .fields #[.int n t, .int n' u, .int 1 s1.toks] }, toks := s1.toks + 1 }) (T := T) X1 R (IsRange.new s1.heap n n' 1 _ _ _) n1 n2 n3 n4 fun it s2 W' ip st2 p1 p2 it' self => ?_
 exact ⟨W', σ1, _, ip, ⟨st2.abs, (st0.le.trans st.le).trans st2.le, st2.os.trans (st.os.trans st0.os), st2.gens.trans (st.gens.trans st0.gens)⟩, fun c hc => (p1 c hc).trans (by rw [pp, pp0]), fun c hc => by rw [← pp0, ← pp]; exact p2 c hc, it', self, q⟩
end
end
section
set_option tactic.hygienic false
section
variable {K : Params → Frag} (g : G K)
noncomputable def AsgC (k : Nat) (sc : Scope) (m : Loc) (σ : AH) (t : Expr) (a : AV) (Q : Loc → AH → Prop) : Prop :=
 ∀ (A : Around) (env : Env) (W : Wd) (s : Shared) (v : Value), Room k A → EnvOk env sc → Abs g W σ s.heap → Frm env m W → VR W v a →
  wpAny (model g.prog g.w) A (assign t env v) (fun ww s' => ∃ W' σ' m', Stp g W s W' σ' s' ∧ (∀ a, a ≠ env.locals → W'.P a = W.P a) ∧ Frm env m' W' ∧ Q m' σ') NoE s
noncomputable def IfsW (k : Nat) (sc : Scope) (m : Loc) (σ : AH) : List Expr → (Bool → AH → Prop) → Prop
 | [], Q => Q true σ
 | [c], Q => TsW g k sc m σ c Q
 | _, _ => False
noncomputable def AccIs (W : Wd) (D : Addr) (ys : List PyData) : Prop := ∃ vs n, W.P D = some { cls := .type "list", data := .seq vs n } ∧ RdAll W.F vs.toList ys
noncomputable abbrev Em := Loc → AH → List PyData → (Loc → AH → List PyData → Prop) → Prop
noncomputable def CompL (k : Nat) (sc : Scope) (T : Expr) (ifs : List Expr) (EM : Em) (Q : Loc → AH → List PyData → Prop) : List PyData → Loc → AH → List PyData → Prop
 | [], m, σ, ys => Q m σ ys
 | d :: xs, m, σ, ys => AsgC g k sc m σ T (.d d) (fun m1 σ1 => IfsW g k sc m1 σ1 ifs (fun ok σ2 => if ok = true then EM m1 σ2 ys (fun m2 σ3 ys' => CompL k sc T ifs EM Q xs m2 σ3 ys') else CompL k sc T ifs EM Q xs m1 σ2 ys))
noncomputable def Em.elt (k : Nat) (sc : Scope) (elt : Expr) : Em := fun m σ ys Q => EvW g k sc m σ elt (fun a σ' => ∃ y, a = .d y ∧ ys.length ≤ 10000 ∧ Q m σ' (ys ++ [y]))
noncomputable def Em.gen (k : Nat) (sc : Scope) (T iter : Expr) (ifs : List Expr) (EM : Em) : Em := fun m σ ys Q => SrcW g k sc m σ iter T (fun xs σ1 => CompL g k sc T ifs EM Q xs m σ1 ys)
noncomputable def NotCell (env : Env) (D : Addr) : Prop := ∀ x c, env.scope.names.lookup x = some .cell → env.cells.lookup x = some c → D ≠ c
noncomputable def EmOk (k : Nat) (sc : Scope) (emit : Value → Env → Sem Unit) (EM : Em) : Prop :=
 ∀ (m : Loc) (σ : AH) (ys : List PyData) (Q : Loc → AH → List PyData → Prop), EM m σ ys Q → ∀ (A : Around) (env : Env) (W : Wd) (s : Shared) (D : Addr), Room k A → EnvOk env sc → Abs g W σ s.heap → Frm env m W → AccIs W D ys → D ≠ env.locals → NotCell env D →
  wpAny (model g.prog g.w) A (emit (.ref D) env) (fun ww s' => ∃ W' σ' m' ys', Stp g W s W' σ' s' ∧ (∀ a, a ≠ D → a ≠ env.locals → W'.P a = W.P a) ∧ Frm env m' W' ∧ AccIs W' D ys' ∧ Q m' σ' ys') NoE s
end
section
variable {K : Params → Frag} {g : G K} {k : Nat} {sc : Scope} {m : Loc} {σ : AH}
theorem Frm.past {env : Env} {m' : Loc} {W' W'' : Wd} {ip : Addr → Prop} (hfree : ∀ x, env.scope.names.lookup x ≠ some .free) (nL : ¬ ip env.locals) (nC : ∀ x c, env.scope.names.lookup x = some .cell → env.cells.lookup x = some c → ¬ ip c)
  (F : Frm env m' W') (l : Le W' W'') (hp : ∀ a, ¬ ip a → W''.P a = W'.P a) : Frm env m' W'' := by
 obtain ⟨a, b, c, d, e⟩ := F
 refine ⟨?_, fun x v h1 h2 => (hfree x h1).elim, fun x h1 => ?_, d, e⟩
 ·(refine x3_3 a ?_; clear a; intro o es ep h1 h2 h3 h4)
  refine ⟨o, es, ep, by rw [hp _ nL]; exact h1, h2, h3, fun x v p q => ?_⟩
  (refine x1_1 (h4 x v p q) ?_; intro v' y z)
  exact ⟨v', y, z.le l⟩
 ·(refine x2_2 (c x h1) ?_; intro cc cv p z1 r; (refine x1_1 z1 ?_; clear z1; intro o q1 q2))
  exact ⟨cc, cv, p, ⟨o, by rw [hp _ (nC x cc h1 p)]; exact q1, q2⟩, fun v hv => x1_1 (r v hv) fun v' y z => ⟨v', y, z.le l⟩⟩
theorem store_local {x : Str} {A : Around} {env : Env} {W : Wd} {s : Shared} {v : Value} {a : AV} {R : Unit → Shared → Prop} (hx : sc.names.lookup x = some .local) (eo : EnvOk env sc) (X : Abs g W σ s.heap) (Fm : Frm env m W) (r : VR W v a)
  (q : ∀ W' s', Stp g W s W' σ s' → (∀ a, a ≠ env.locals → W'.P a = W.P a) → Frm env (upd m x a) W' → R () s') : wpAny (model g.prog g.w) A (storeName env x v) R NoE s := by
 (refine x3_3 Fm.loc ?_; intro o es ep h1 h2 h3 h4)
 refine wpAny_storeName_local (by unfold Env.kindOf; rw [eo.scope]; exact hx) (m := nsFind es) ⟨o, es, ep, X.keepP _ _ h1, h2, h3, fun ww => rfl⟩ (fun h' hn hs => ?_) (by rw [eo.scope, eo.kind]; rfl)
 (refine x3_3 hn ?_; clear hn; intro o' es' ep' e1 e2 e3 e4)
 have X' := X.updP h1 hs.2 e1
 refine q (W.setP env.locals (some o')) _ ⟨X', W.leP _ _, rfl, rfl⟩ (fun b hb => by show (if b = env.locals then _ else _) = _; rw [if_neg hb]) ⟨⟨o', es', ep', by show (if env.locals = env.locals then _ else _) = _; rw [if_pos rfl], e2, e3, fun y w hy hm => ?_⟩, fun y w hy hm => ?_, fun y hy => ?_, Fm.inj, Fm.apart⟩
 ·rw [e4]
  show ∃ v', (if y = x then some v else nsFind es y) = some v' ∧ VR W v' w
  unfold upd at hm
  by_cases hyx : y = x
  ·subst hyx
   rw [if_pos rfl] at hm ⊢
   cases hm
   exact ⟨v, rfl, r⟩
  ·rw [if_neg hyx] at hm ⊢
   exact h4 y w hy hm
 ·have hyx : y ≠ x := by rintro rfl; rw [eo.scope, hx] at hy; cases hy
  unfold upd at hm
  rw [if_neg hyx] at hm
  (refine x2_2 (Fm.free y w hy hm) ?_; intro c v' p1 p2 p3)
  exact ⟨c, v', p1, p2.setP (Fm.apart y c p1), p3⟩
 ·have hyx : y ≠ x := by rintro rfl; rw [eo.scope, hx] at hy; cases hy
  (refine x2_2 (Fm.cell y hy) ?_; intro c cv p1 p2 p3)
  refine ⟨c, cv, p1, p2.setP (Fm.apart y c p1), fun w hm => ?_⟩
  unfold upd at hm
  rw [if_neg hyx] at hm
  exact p3 w hm
theorem aN {x : Str} {pos : Pos} {a : AV} {Q : Loc → AH → Prop} (hx : sc.names.lookup x = some .local) (h : Q (upd m x a) σ) : AsgC g k sc m σ (.Name x pos) a Q := by
 intro A env W s v R eo X Fm r
 exact assign_Name (store_local hx eo X Fm r fun W' s' st fp Fm' => ⟨W', σ, _, st, fp, Fm', h⟩)
theorem assign_locals {A : Around} {env : Env} {R : Unit → Shared → Prop} (eo : EnvOk env sc) : ∀ (ns : List (Str × Pos)) (vs : List Value) (as : List AV) (m : Loc) (W : Wd) (s : Shared), (∀ p ∈ ns, sc.names.lookup p.1 = some .local) → ns.length = as.length → Abs g W σ s.heap → Frm env m W → VRs W vs as →
  (∀ W' s', Stp g W s W' σ s' → (∀ a, a ≠ env.locals → W'.P a = W.P a) → Frm env (uA m (ns.map (·.1)) as) W' → R () s') → wpAny (model g.prog g.w) A (assignInOrder ((assignEach (nameEs ns) env).map (·.2)) vs) R NoE s
 | [], vs, as, m, W, s, _, _, X, Fm, r, q => assignInOrder_nil (q W s (Stp.refl X) (fun ww ww => rfl) Fm)
 | (x, p) :: ns, vs0, as0, m, W, s, hv, hl, X, Fm, r0, q => by
  cases r0 with
  | nil => cases hl
  | @cons v vs a as rv r =>
  have e : (assignEach (nameEs ((x, p) :: ns)) env).map (·.2) = assign (.Name x p) env :: (assignEach (nameEs ns) env).map (·.2) := rfl
  rw [e]
  refine assignInOrder_cons (assign_Name (store_local (hv _ (.head _)) eo X Fm rv fun W' s' st fp Fm' => ?_))
  exact assign_locals eo ns vs as (upd m x a) W' s' (fun p hp => hv p (.tail _ hp)) (Nat.succ.inj hl) st.abs Fm' (r.le st.le) fun W'' s'' st' fp' Fm'' => q W'' s'' (st.trans st') (fun a ha => (fp' a ha).trans (fp a ha)) Fm''
theorem AsgC.tuple {es : List Expr} {n : Nat} {pos : Pos} {ds : List PyData} {ns : List (Str × Pos)} {Q : Loc → AH → Prop} (he : es = nameEs ns) (hv : ∀ p ∈ ns, sc.names.lookup p.1 = some .local) (hl : ns.length = ds.length)
  (h : Q (uA m (ns.map (·.1)) (ds.map .d)) σ) : AsgC g k sc m σ (.Tuple es n pos) (.d (.tuple ds)) Q := by
 intro A env W s v R eo X Fm r
 (refine x2_1 (X.tup r) ?_; intro t vs z2 z3; obtain rfl := z2; refine x0_1 z3 ?_; clear z3; intro ht r)
 subst he
 have hz : vs.size = ds.length := by rw [← Array.length_toList]; exact r.length
 refine assign_Tuple_tuple R.handled ht (by rw [nameEs_len, hl, hz]) (nameEs_star env ns) fun h' hx => ?_
 have gr : Grows s.heap h' := fun b o e => hx b o (Nat.ne_of_lt (Heap.lt_size e)) e
 have X' := X.grows gr
 exact assign_locals eo ns _ (ds.map .d) m W { s with heap := h' } hv (by simpa using hl) X' Fm (VRs.ofRd r) fun W' s' st fp Fm' => ⟨W', σ, _, ⟨st.abs, st.le, st.os, st.gens⟩, fp, Fm', h⟩
theorem ifs_then {A : Around} {env : Env} {W : Wd} {s : Shared} {ifs : List Expr} {Q : Bool → AH → Prop} (h : IfsW g k sc m σ ifs Q) (R : Room k A) (eo : EnvOk env sc) (X : Abs g W σ s.heap) (Fm : Frm env m W) :
  wpAny (model g.prog g.w) A (forIn ifs true fun c r => if r = true then do let ok ← isTrue c env (eval c env); pure (ForInStep.yield ok) else pure (ForInStep.yield r)) (BPost g W s Q) NoE s := by
 match ifs, h with
 | [], h => rw [List.forIn_nil]; exact wpAny_pure (BPost.now X h)
 | [c], h =>
  rw [List.forIn_cons]
  refine wpAny_bind ?_
  simp only [if_true]
  refine wpAny_bind (wpAny_mono (h A env W s R eo X Fm) (fun b s' z => wpAny_pure ?_) fun ww ww x => x)
  dsimp only
  rw [List.forIn_nil]
  exact wpAny_pure z
theorem comp_loop {elt : Expr} {gens : List Comprehension} {cscope : Scope} {cpos : Pos} {depth : Nat} {T iter : Expr} {ifs : List Expr} {emit : Value → Env → Sem Unit} {EM : Em} {Q : Loc → AH → List PyData → Prop}
  (heq : ∀ it acc env, compTurn (.ListComp elt gens cscope cpos) depth it acc env = (do
   standAt iter.pos
   match ← pyNext it with
   | none => pure (.done .next)
   | some v =>
    letOwnedTupleGo T it v
    assign T env v
    let ok ← forIn ifs true fun c r => if r = true then do let ok ← isTrue c env (eval c env); pure (ForInStep.yield ok) else pure (ForInStep.yield r)
    if ok then emit acc env
    again (.compLoop (.ListComp elt gens cscope cpos) depth it acc env))) (hem : EmOk g k sc emit EM) (hfree : ∀ x, sc.names.lookup x ≠ some .free)
  {A : Around} {env : Env} {W : Wd} {s : Shared} {D : Addr} {it : Value} {ip : Addr → Prop} {xs ys : List PyData} (R : Room k A) (eo : EnvOk env sc) (X : Abs g W σ s.heap) (Fm : Frm env m W) (ac : AccIs W D ys) (nD : D ≠ env.locals) (nDc : NotCell env D)
  (ipL : ¬ ip env.locals) (ipC : ∀ x c, env.scope.names.lookup x = some .cell → env.cells.lookup x = some c → ¬ ip c) (ipD : ¬ ip D) (hI : Iter g A ip T it xs W) (hC : CompL g k sc T ifs EM Q xs m σ ys) :
  codeAny (model g.prog g.w) A (.compLoop (.ListComp elt gens cscope cpos) depth it (.ref D) env) (fun r s' => match r with | .ok _ => ∃ W' σ' m' ys', Stp g W s W' σ' s' ∧ (∀ a, ¬ ip a → a ≠ D → a ≠ env.locals → W'.P a = W.P a) ∧ Frm env m' W' ∧ AccIs W' D ys' ∧ Q m' σ' ys' | .error _ => False) s := by
 have hfree' : ∀ x, env.scope.names.lookup x ≠ some .free := fun x => by rw [eo.scope]; exact hfree x
 refine codeAny_loop rfl (fun n s' => ∃ W' σ' m' xs' ys', n = xs'.length ∧ Stp g W s W' σ' s' ∧ (∀ a, ¬ ip a → a ≠ D → a ≠ env.locals → W'.P a = W.P a) ∧ Frm env m' W' ∧ AccIs W' D ys' ∧ Iter g A ip T it xs' W' ∧ CompL g k sc T ifs EM Q xs' m' σ' ys') ?_ xs.length
  ⟨W, σ, m, xs, ys, rfl, Stp.refl X, fun ww ww ww ww => rfl, Fm, ac, hI, hC⟩
 (intro n; intro s'; intro z2r; (refine x5_1 z2r ?_; clear z2r; intro W' σ' m' xs' ys' z4 z5; obtain rfl := z4; refine x0_5 z5 ?_; clear z5; intro st' hp' Fm' ac' hI' hC'))
 show wpAny _ A ((compTurn (.ListComp elt gens cscope cpos) depth it (.ref D) env).onRaise (fun x => do noteFrame x env; theTreesLotGoes x)) _ _ s'
 refine wpAny_noted ?_
 rw [heq]
 refine wpAny_bind (wpAny_standAt ?_)
 cases xs' with
 | nil =>
  refine wpAny_bind (wpAny_mono (hI' W' σ' s' (Le.refl W') (fun ww ww => rfl) st'.abs) (fun r s'' z => ?_) fun ww ww x => x.elim)
  (refine x0_1 z ?_; clear z; intro z6 z7; obtain rfl := z6; refine x1_1 z7 ?_; clear z7; intro W'' st2 hp2)
  have ac2 : AccIs W'' D ys' := by
   (refine x2_1 ac' ?_; clear ac'; intro vs n e r)
   exact ⟨vs, n, by rw [hp2 D ipD]; exact e, RdAll.mono st2.le.F r⟩
  exact wpAny_pure ⟨W'', σ', m', ys', st'.trans st2, fun a h1 h2 h3 => (hp2 a h1).trans (hp' a h1 h2 h3), Fm'.past hfree' ipL ipC st2.le hp2, ac2, hC'⟩
 | cons d xs' =>
  refine wpAny_bind (wpAny_mono (hI' W' σ' s' (Le.refl W') (fun ww ww => rfl) st'.abs) (fun r s'' z => ?_) fun ww ww x => x.elim)
  (refine x1_1 z ?_; clear z; intro v z8 z; obtain rfl := z8)
  refine wpAny_bind (wpAny_mono z (fun ww s3 z => ?_) fun ww ww x => x.elim)
  (refine x1_3 z ?_; clear z; intro W3 st3 hp3 rd3 hI3)
  have ac3 : AccIs W3 D ys' := by
   (refine x2_1 ac' ?_; clear ac'; intro vs n e r)
   exact ⟨vs, n, by rw [hp3 D ipD]; exact e, RdAll.mono st3.le.F r⟩
  refine wpAny_bind (wpAny_mono (hC' A env W3 s3 v R eo st3.abs (Fm'.past hfree' ipL ipC st3.le hp3) rd3) (fun ww s4 z => ?_) fun ww ww x => x.elim)
  (refine x3_3 z ?_; clear z; intro W4 σ4 m4 st4 hp4 Fm4 hF)
  have ac4 : AccIs W4 D ys' := by
   (refine x2_1 ac3 ?_; clear ac3; intro vs n e r)
   exact ⟨vs, n, by rw [hp4 D nD]; exact e, RdAll.mono st4.le.F r⟩
  refine wpAny_bind (wpAny_mono (ifs_then hF R eo st4.abs Fm4) (fun ok s5 z => ?_) fun ww ww x => x.elim)
  (refine BPost.out z ?_; clear z; intro W5 σ5 st5 hp5 hQ)
  have Fm5 := Fm4.le st5.le hp5
  have ac5 : AccIs W5 D ys' := by
   (refine x2_1 ac4 ?_; clear ac4; intro vs n e r)
   exact ⟨vs, n, by rw [hp5]; exact e, RdAll.mono st5.le.F r⟩
  have stp : Stp g W s W5 σ5 s5 := ((st'.trans st3).trans st4).trans st5
  have hpp : ∀ a, ¬ ip a → a ≠ D → a ≠ env.locals → W5.P a = W.P a := fun a h1 h2 h3 => by
   rw [hp5]; exact (hp4 a h3).trans ((hp3 a h1).trans (hp' a h1 h2 h3))
  have hip : ∀ a, ip a → W5.P a = W3.P a := fun a ha => by rw [hp5]; exact hp4 a fun z => ipL (z ▸ ha)
  cases ok with
  | false =>
   show wpAny _ A (again (.compLoop (.ListComp elt gens cscope cpos) depth it (.ref D) env)) _ _ s5
   exact wpAny_pure ⟨rfl, xs'.length, Nat.lt_succ_self _, W5, σ5, m4, xs', ys', rfl, stp, hpp, Fm5, ac5, hI3.le (st4.le.trans st5.le) hip, hQ⟩
  | true =>
   refine wpAny_bind (wpAny_mono (hem m4 σ5 ys' _ hQ A env W5 s5 D R eo st5.abs Fm5 ac5 nD nDc) (fun ww s6 z => ?_) fun ww ww x => x.elim)
   (refine x4_4 z ?_; clear z; intro W6 σ6 m6 ys6 st6 hp6 Fm6 ac6 hC6)
   refine wpAny_pure ⟨rfl, xs'.length, Nat.lt_succ_self _, W6, σ6, m6, xs', ys6, rfl, stp.trans st6, fun a h1 h2 h3 => (hp6 a h2 h3).trans (hpp a h1 h2 h3), Fm6, ac6, hI3.le ((st4.le.trans st5.le).trans st6.le) fun a ha => ?_, hC6⟩
   exact (hp6 a (fun z => ipD (z ▸ ha)) fun z => ipL (z ▸ ha)).trans (hip a ha)
end
end
section
set_option tactic.hygienic false
section
variable {K : Params → Frag} {g : G K} {k : Nat} {sc : Scope} {m : Loc} {σ : AH}
noncomputable def emitElt (elt : Expr) : Value → Env → Sem Unit := fun acc env => do let _ ← call (.builtin "list.append") [acc, ← eval elt env]
theorem EmOk.elt {elt : Expr} (hfree : ∀ x, sc.names.lookup x ≠ some .free) : EmOk g k sc (emitElt elt) (Em.elt g k sc elt) := by
 intro m σ ys Q h A env W s D R eo X Fm ac nD nDc
 refine wpAny_bind (EvW.then h R eo X Fm fun v s1 W1 σ1 a st p Fm1 vr h1 => ?_)
 (refine x1_1 h1 ?_; clear h1; intro y z1 z2; obtain rfl := z1; refine x0_1 z2 ?_; clear z2; intro hl q)
 (refine x2_1 ac ?_; clear ac; intro vs n e r)
 have eP : W1.P D = some { cls := .type "list", data := .seq vs n } := by rw [p]; exact e
 have hz : vs.size = ys.length := by rw [← Array.length_toList]; exact r.length
 refine wpAny_bind (wpAny_list_append_plain ⟨n, st.abs.keepP _ _ eP⟩ (fun h' hp hs => wpAny_pure ?_) (szle (by rw [hz]; exact hl)))
 (refine x1_0 hp ?_; clear hp; intro n' hp)
 have X' := st.abs.updP eP hs.2 hp
 have l := W1.leP D (some { cls := .type "list", data := .seq (vs.push v) n' })
 refine ⟨_, σ1, m, ys ++ [y], ⟨X', st.le.trans l, st.os, st.gens⟩, fun a h1 h2 => ?_, ?_, ⟨vs.push v, n', ?_, ?_⟩, q⟩
 ·show (if a = D then _ else W1.P a) = _
  rw [if_neg h1, p]
 ·refine Fm1.past (ip := fun a => a = D) (fun x => by rw [eo.scope]; exact hfree x) (fun z => nD z.symm) (fun x c h1 h2 z => nDc x c h1 h2 z.symm) l fun a ha => ?_
  show (if a = D then _ else W1.P a) = _
  rw [if_neg ha]
 ·show (if D = D then _ else _) = _
  rw [if_pos rfl]
 ·show RdAll W1.F (vs.push v).toList _
  simpa using (RdAll.mono st.le.F r).append (.cons vr .nil)
theorem comp_start {elt : Expr} {gens : List Comprehension} {cscope : Scope} {cpos : Pos} {depth : Nat} {T iter : Expr} {ifs : List Expr} {A : Around} {env : Env} {s : Shared} {it acc : Value} {R : Result → Shared → Prop} (hg : gens[depth]? = some ⟨T, iter, ifs, 0⟩)
  (h0 : codeAny (model g.prog g.w) A (.compLoop (.ListComp elt gens cscope cpos) depth it acc env) R s) (h1 : ∀ (Q : Value → Shared → Prop), Q it s → wpAny (model g.prog g.w) A (pyIter it) Q NoE s) : codeAny (model g.prog g.w) A (.compStart (.ListComp elt gens cscope cpos) depth it acc env) R s := by
 refine codeAny_of_tree ?_
 show wpAny _ _ ((compStart (.ListComp elt gens cscope cpos) depth it acc env).onRaise (fun x => do noteFrame x env; standAt theWindowsPlace)) _ _ s
 refine wpAny_notedAt ?_
 unfold compStart
 have hc : (clausesOf (.ListComp elt gens cscope cpos))[depth]? = some ⟨T, iter, ifs, 0⟩ := hg
 rw [hc]
 show wpAny _ _ (ask >>= _) _ _ s
 refine wpAny_bind (wpAny_askSetting (wpAny_ite ?_))
 split
 ·first
   | exact wpAny_bind (wpAny_pure (wpAny_pure (And.intro rfl h0)))
   | exact wpAny_pure (And.intro rfl h0)
 ·have h2 := wpAny_mono (h1 (fun v s' => v = it ∧ s' = s) ⟨rfl, rfl⟩) (fun ww ww z => z) (E' := notedBy (model g.prog g.w) A env fun x s' => R (.error x) s') fun ww ww x => x.elim
  refine wpAny_bind (wpAny_rule (wpAny_bind (wpAny_standAt (wpAny_bind (wpAny_mono h2 (fun it' s' z => ?_) fun ww ww x => x)))))
  (refine x0_1 z ?_; clear z; intro z3 z4; obtain rfl := z3; obtain rfl := z4)
  exact wpAny_pure (And.intro rfl h0)
noncomputable def emitGen (elt : Expr) (gens : List Comprehension) (cscope : Scope) (cpos : Pos) (depth : Nat) (iter : Expr) : Value → Env → Sem Unit := fun acc env => do
 let x ← eval iter env
 standAt iter.pos
 let x ← foldedSetIterable iter env x
 let _ ← runOwn (.compStart (.ListComp elt gens cscope cpos) depth (← holding [x] (pyIter x)) acc env) env
theorem EmOk.gen {elt : Expr} {gens : List Comprehension} {cscope : Scope} {cpos : Pos} {depth : Nat} {T iter : Expr} {ifs : List Expr} {emit : Value → Env → Sem Unit} {EM : Em} (hg : gens[depth]? = some ⟨T, iter, ifs, 0⟩)
  (heq : ∀ it acc env, compTurn (.ListComp elt gens cscope cpos) depth it acc env = (do
   standAt iter.pos
   match ← pyNext it with
   | none => pure (.done .next)
   | some v =>
    letOwnedTupleGo T it v
    assign T env v
    let ok ← forIn ifs true fun c r => if r = true then do let ok ← isTrue c env (eval c env); pure (ForInStep.yield ok) else pure (ForInStep.yield r)
    if ok then emit acc env
    again (.compLoop (.ListComp elt gens cscope cpos) depth it acc env))) (hem : EmOk g k sc emit EM) (hfree : ∀ x, sc.names.lookup x ≠ some .free) (hs : ∀ env x, foldedSetIterable iter env x = pure x) :
  EmOk g k sc (emitGen elt gens cscope cpos depth iter) (Em.gen g k sc T iter ifs EM) := by
 intro m σ ys Q h A env W s D R eo X Fm ac nD nDc
 have hfree' : ∀ x, env.scope.names.lookup x ≠ some .free := fun x => by rw [eo.scope]; exact hfree x
 refine wpAny_bind (wpAny_mono (h A env W s R eo X Fm) (fun x s1 h1 => ?_) fun ww ww x => x)
 refine wpAny_bind (wpAny_standAt (wpAny_bind (wpAny_of_eq (hs env x) (wpAny_bind (wpAny_holding (wpAny_mono h1 (fun it s2 z => ?_) fun ww ww x => x))))))
 (refine x4_5 z ?_; clear z; intro W1 σ1 xs ip st hP hipp hI hself hL)
 have hip : ∀ a, ip a → W.P a = none := fun a ha => (hipp a ha).1
 have nL : ¬ ip env.locals := fun q => by
  (refine x3_1 Fm.loc ?_; intro o es ep h1 ww)
  have := hip _ q; rw [h1] at this; cases this
 have nC : ∀ x c, env.scope.names.lookup x = some .cell → env.cells.lookup x = some c → ¬ ip c := fun x c h1 h2 q => by
  (refine x2_2 (Fm.cell x h1) ?_; intro c' cv e z5 ww; (refine x1_1 z5 ?_; clear z5; intro o e' _))
  rw [h2] at e; cases e
  have := hip _ q; rw [e'] at this; cases this
 have nDi : ¬ ip D := fun q => by
  (refine x2_1 ac ?_; clear ac; intro vs n e r)
  have := hip _ q; rw [e] at this; cases this
 have ac1 : AccIs W1 D ys := by
  (refine x2_1 ac ?_; clear ac; intro vs n e r)
  exact ⟨vs, n, by rw [hP D nDi]; exact e, RdAll.mono st.le.F r⟩
 refine wpAny_bind (wpAny_runOwn (h := none) ?_)
 refine comp_start hg (codeAny_mono (comp_loop heq hem hfree R eo st.abs (Fm.past hfree' nL nC st.le hP) ac1 nD nDc nL nC nDi hI hL) fun r s3 z => ?_) fun Q q => hself W1 σ1 s2 Q (Le.refl W1) (fun ww ww => rfl) st.abs q
 cases r with
 | error e => exact z.elim
 | ok f =>
  (refine x4_4 z ?_; clear z; intro W3 σ3 m3 ys3 st3 hp3 Fm3 ac3 q)
  classical
  have l : Le W3 { W3 with P := fun a => if ip a then none else W3.P a } := ⟨fun ww ww e => e, Nat.le_refl _, fun ww ww => rfl, fun ww ww => rfl⟩
  refine wpAny_pure ⟨{ W3 with P := fun a => if ip a then none else W3.P a }, σ3, m3, ys3, ⟨st3.abs.lessP fun a o e => ?_, (st.le.trans st3.le).trans l, st3.os.trans st.os, st3.gens.trans st.gens⟩, fun a h1 h2 => ?_, Fm3.past hfree' nL nC l fun a ha => if_neg ha, ?_, q⟩
  ·split at e
   ·cases e
   ·exact e
  ·show (if ip a then none else W3.P a) = W.P a
   by_cases ha : ip a
   ·rw [if_pos ha, hip a ha]
   ·rw [if_neg ha]; exact (hp3 a ha h1 h2).trans (hP a ha)
  ·(refine x2_1 ac3 ?_; clear ac3; intro vs n e r)
   exact ⟨vs, n, by show (if ip D then none else W3.P D) = _; rw [if_neg nDi]; exact e, r⟩
noncomputable def relab (scope sc : Scope) : Scope := { scope with names := scope.names.map fun (n, k) => if (k == .free && sc.kind == .function && sc.names.lookup n == some .cell) then (n, .cell) else (n, k) }
noncomputable def compLoc (scope : Scope) (m : Loc) : Loc := fun x => if scope.names.lookup x = some .free then m x else none
theorem closure_of {env : Env} {good : Str → Prop} {f : Str × NameKind → List (Str × Addr) → Sem (ForInStep (List (Str × Addr)))} (hf : ∀ x r, f x r = if (x.2 == .free) = true then do let c ← cellOf env x.1; pure (ForInStep.yield ((x.1, c) :: r)) else pure (ForInStep.yield r)) :
  ∀ (names : List (Str × NameKind)) (cs : List (Str × Addr)), (∀ x c, cs.lookup x = some c → env.cells.lookup x = some c ∧ good x) → (∀ x, (x, NameKind.free) ∈ names → good x ∧ ∃ c, env.cells.lookup x = some c) →
  ∃ cl, forIn names cs f = pure cl ∧ (∀ x c, cl.lookup x = some c → env.cells.lookup x = some c ∧ good x) ∧ (∀ x, ((x, NameKind.free) ∈ names ∨ cs.lookup x ≠ none) → cl.lookup x ≠ none)
 | [], cs, hi, _ => ⟨cs, rfl, hi, fun x h => h.elim (fun h => nomatch h) id⟩
 | (y, kd) :: r, cs, hi, h => by
  rw [List.forIn_cons, hf]
  by_cases hk : kd = .free
  ·subst hk
   (refine x0_1 (h y (.head _)) ?_; intro gy z6; refine x1_0 z6 ?_; clear z6; intro c hc)
   have e : (cellOf env y : Sem Addr) = pure c := by unfold cellOf; rw [hc]
   obtain ⟨cl, h1, h2, h3⟩ := closure_of hf r ((y, c) :: cs) (fun x c' hx => by
    rw [List.lookup_cons] at hx
    by_cases hy : x = y
    ·subst hy; rw [beq_self_eq_true] at hx; cases hx; exact ⟨hc, gy⟩
    ·have hb : (x == y) = false := by simpa using hy
     rw [hb] at hx; exact hi x c' hx) fun x hx => h x (.tail _ hx)
   refine ⟨cl, ?_, h2, fun x hx => h3 x ?_⟩
   ·simp only [beq_self_eq_true, if_true, e, pure_bind]
    exact h1
   ·rcases hx with hx | hx
    ·rcases List.mem_cons.mp hx with q | q
     ·cases q; right; rw [List.lookup_cons, beq_self_eq_true]; simp
     ·exact .inl q
    ·right
     rw [List.lookup_cons]
     by_cases hy : x = y
     ·subst hy; rw [beq_self_eq_true]; simp
     ·have hb : (x == y) = false := by simpa using hy
      rw [hb]; exact hx
  ·have hb : (kd == NameKind.free) = false := by simpa using hk
   (refine x1_2 (closure_of hf r cs hi fun x hx => h x (.tail _ hx)) ?_; intro cl h1 h2 h3)
   refine ⟨cl, ?_, h2, fun x hx => h3 x ?_⟩
   ·simp only [hb, Bool.false_eq_true, if_false, pure_bind]
    exact h1
   ·rcases hx with hx | hx
    ·rcases List.mem_cons.mp hx with q | q
     ·cases q; exact (hk rfl).elim
     ·exact .inl q
    ·exact .inr hx
theorem closureFor_of {env : Env} {good : Str → Prop} {scope : Scope} (h : ∀ x, (x, NameKind.free) ∈ scope.names → good x ∧ ∃ c, env.cells.lookup x = some c) :
  ∃ cl, (closureFor scope env : Sem _) = pure cl ∧ (∀ x c, cl.lookup x = some c → env.cells.lookup x = some c ∧ good x) ∧ (∀ x, (x, NameKind.free) ∈ scope.names → cl.lookup x ≠ none) := by
 (refine x1_2 (closure_of (env := env) (good := good) (f := fun x r => if (x.2 == .free) = true then do let c ← cellOf env x.1; pure (ForInStep.yield ((x.1, c) :: r)) else pure (ForInStep.yield r)) (fun ww ww => rfl) scope.names [] (fun x c e => nomatch e) h) ?_; intro cl h1 h2 h3)
 refine ⟨cl, ?_, h2, fun x hx => h3 x (.inl hx)⟩
 rw [← h1]
 simp only [closureFor]
 rw [bind_pure]
theorem relab_lookup (scope sc : Scope) (x : Str) : (relab scope sc).names.lookup x = match scope.names.lookup x with
  | some k => some (if (k == .free && sc.kind == .function && sc.names.lookup x == some .cell) = true then .cell else k)
  | none => none := by
 unfold relab
 dsimp only
 induction scope.names with
 | nil => rfl
 | cons p r ih =>
  obtain ⟨n, k⟩ := p
  rw [List.map_cons]
  dsimp only
  by_cases hx : x = n
  ·subst hx
   rw [show List.lookup x ((x, k) :: r) = some k by rw [List.lookup_cons, beq_self_eq_true]]
   dsimp only
   split
   ·rw [List.lookup_cons, beq_self_eq_true]
   ·rw [List.lookup_cons, beq_self_eq_true]
  ·have hb : (x == n) = false := by simpa using hx
   rw [show List.lookup x ((n, k) :: r) = List.lookup x r by rw [List.lookup_cons, hb]]
   split <;> (rw [List.lookup_cons, hb]; exact ih)
theorem Abs.elsewhere {W : Wd} {h h' : Heap} (X : Abs g W σ h) {a : Addr} (hF : W.F a = none) (hP : W.P a = none) (hO : ∀ i, ¬ Owns W σ i a) (hs : ∀ b, b ≠ a → h'.get? b = h.get? b) : Abs g W σ h' := by
 refine ⟨X.base, fun b o e => ?_, fun b o e => ?_, X.fp, X.n, fun i o e => ?_, X.lt, X.sep, X.two, X.free⟩
 ·rw [hs b fun z => by rw [z, hF] at e; cases e]; exact X.keepF b o e
 ·rw [hs b fun z => by rw [z, hP] at e; cases e]; exact X.keepP b o e
 ·refine (X.obj i o e).le (Le.refl W) (X.wlt e) (hs _ fun z => hO i (z ▸ ⟨o, e, .inl rfl⟩)) fun C fs z => hs _ fun z' => hO i (z' ▸ ⟨o, e, .inr ⟨C, fs, z, rfl⟩⟩)
end
end
section
set_option tactic.hygienic false
noncomputable def compOk (cscope sc : Scope) : Bool :=
 cscope.kind == .function && cscope.names.all (fun x => x.2 != .cell) && cscope.names.all (fun x => x.2 != .local || cscope.names.lookup x.1 == some .local) && cscope.names.all (fun x => x.2 != .free || sc.names.lookup x.1 == some .cell) && sc.kind == .function
structure CompOk (cscope sc : Scope) : Prop where
 kind : cscope.kind = .function
 nocell : ∀ x ∈ cscope.names, x.2 ≠ .cell
 loc : ∀ x ∈ cscope.names, x.2 = .local → cscope.names.lookup x.1 = some .local
 free : ∀ x, (x, NameKind.free) ∈ cscope.names → sc.names.lookup x = some .cell
 skind : sc.kind = .function
theorem compOk_of {cscope sc : Scope} (h : compOk cscope sc = true) : CompOk cscope sc := by
 unfold compOk at h
 simp only [Bool.and_eq_true, beq_iff_eq, List.all_eq_true, Bool.or_eq_true, bne_iff_ne] at h
 (refine x0_1 h ?_; clear h; intro z1 e; (refine x0_1 z1 ?_; clear z1; intro z1 d; obtain ⟨⟨a, b⟩, c⟩ := z1))
 exact ⟨a, b, fun x hx h => (c x hx).resolve_left fun z => z h, fun x hx => (d _ hx).resolve_left fun z => z rfl, e⟩
section
variable {K : Params → Frag} {g : G K} {k : Nat} {sc : Scope} {m : Loc} {σ : AH}
theorem relab_free {cscope : Scope} (O : CompOk cscope sc) (x : Str) : (relab cscope sc).names.lookup x ≠ some .free := by
 rw [relab_lookup]
 cases e : cscope.names.lookup x with
 | none => exact fun h => nomatch h
 | some kd =>
  dsimp only
  by_cases hk : kd = .free
  ·subst hk
   have := O.free x (mem_of_lookup e)
   rw [this, O.skind]
   simp
  ·have hb : (kd == NameKind.free) = false := by simpa using hk
   rw [hb]
   simp only [Bool.false_and, Bool.false_eq_true, if_false]
   exact fun h => hk (Option.some.inj h)
theorem relab_cell {cscope : Scope} (O : CompOk cscope sc) {x : Str} (h : (relab cscope sc).names.lookup x = some .cell) : (x, NameKind.free) ∈ cscope.names ∧ sc.names.lookup x = some .cell := by
 rw [relab_lookup] at h
 cases e : cscope.names.lookup x with
 | none => rw [e] at h; cases h
 | some kd =>
  rw [e] at h
  dsimp only at h
  by_cases hk : kd = .free
  ·subst hk
   exact ⟨mem_of_lookup e, O.free x (mem_of_lookup e)⟩
  ·have hb : (kd == NameKind.free) = false := by simpa using hk
   rw [hb] at h
   simp only [Bool.false_and, Bool.false_eq_true, if_false] at h
   cases h
   exact (O.nocell _ (mem_of_lookup e) rfl).elim
theorem relab_local {cscope : Scope} (O : CompOk cscope sc) {x : Str} (h : (relab cscope sc).names.lookup x = some .local) : cscope.names.lookup x = some .local := by
 rw [relab_lookup] at h
 cases e : cscope.names.lookup x with
 | none => rw [e] at h; cases h
 | some kd =>
  rw [e] at h
  dsimp only at h
  split at h
  ·cases h
  ·exact h
theorem comp_core {elt : Expr} {rest : List Comprehension} {cscope : Scope} {cpos fpos : Pos} {T iter : Expr} {ifs : List Expr} {emit : Value → Env → Sem Unit} {EM : Em} {Q : AH → List PyData → Prop} {use : Option (Value → Sem Unit)} {Rp : Value → Shared → Prop}
  (heq : ∀ it acc env, compTurn (.ListComp elt (⟨T, iter, ifs, 0⟩ :: rest) cscope cpos) 0 it acc env = (do
   standAt iter.pos
   match ← pyNext it with
   | none => pure (.done .next)
   | some v =>
    letOwnedTupleGo T it v
    assign T env v
    let ok ← forIn ifs true fun c r => if r = true then do let ok ← isTrue c env (eval c env); pure (ForInStep.yield ok) else pure (ForInStep.yield r)
    if ok then emit acc env
    again (.compLoop (.ListComp elt (⟨T, iter, ifs, 0⟩ :: rest) cscope cpos) 0 it acc env))) (hem : EmOk g k (relab cscope sc) emit EM) (hO : compOk cscope sc = true) (hs : ∀ env x, foldedSetIterable iter env x = pure x)
  {A : Around} {env : Env} {W : Wd} {s : Shared} (R : Room k A) (eo : EnvOk env sc) (X : Abs g W σ s.heap) (Fm : Frm env m W)
  (h : SrcW g k sc m σ iter T (fun xs σ1 => CompL g k (relab cscope sc) T ifs EM (fun ww σ' ys' => Q σ' ys') xs (compLoc cscope m) σ1 []))
  (fin : ∀ W7 σ7 s7 C D ys, Stp g W s W7 σ7 s7 → (∀ a, a ≠ C → W7.P a = W.P a) → W.P C = none → (∃ o es ep, W7.P C = some o ∧ o.data = .dict es ep ∧ StrKeys es) → Frm env m W7 → Rd W7.F (.ref D) (.list ys) → Q σ7 ys →
   compPost (model g.prog g.w) A NoE use Rp (.ref D) C (.ok .next) s7) :
  wpAny (model g.prog g.w) A (comprehension (.ListComp elt (⟨T, iter, ifs, 0⟩ :: rest) cscope cpos) cscope env fpos (newList []) false (eval iter env) use) Rp NoE s := by
 have O := compOk_of hO
 have hsc := eo.scope
 subst hsc
 have hcell : ∀ x, (x, NameKind.free) ∈ cscope.names → env.scope.names.lookup x = some .cell ∧ ∃ c, env.cells.lookup x = some c := fun x hx => by
  refine ⟨O.free x hx, ?_⟩
  (refine x2_1 (Fm.cell x (O.free x hx)) ?_; intro c ww e ww)
  exact ⟨c, e⟩
 (refine x1_2 (closureFor_of (good := fun x => env.scope.names.lookup x = some .cell) hcell) ?_; intro cl hcl hcl1 hcl2)
 refine wpAny_comprehension_free (g := ⟨T, iter, ifs, 0⟩) (gs := rest) rfl (hs env) hcl O.kind O.loc ?_
 refine wpAny_mono (h A env W s R eo X Fm) (fun x s1 h1 => wpAny_mono h1 (fun it s2 z => ?_) fun ww ww x => x) fun ww ww x => x
 (refine x4_5 z ?_; clear z; intro W1 σ1 xs ip st hP hipp hI hself hL)
 have X1 := st.abs
 refine wpAny_newList ?_ (Nat.zero_le _)
 have X2 := X1.allocP (o := { cls := .type "list", data := .seq ([] : List Value).toArray }) rfl
 refine wpAny_newFunctionEnv O.nocell (by intro y hy; simp at hy) (fun h' hns hsb => ?_) O.kind
 dsimp only at hns hsb ⊢
 (refine x3_3 hns ?_; clear hns; intro o es ep e1 e2 e3 e4)
 generalize hD : s2.heap.objs.size = D at X2 e1 hsb ⊢
 have hDn : W1.P D = none := by rw [← hD]; exact X1.pNew
 have hCsz : (s2.heap.push { cls := .type "list", data := .seq ([] : List Value).toArray }).objs.size = D + 1 := by rw [Heap.size_push, hD]
 have nF2 : (W1.setP D (some { cls := .type "list", data := .seq ([] : List Value).toArray })).F (D + 1) = none := by rw [← hCsz]; exact X2.fNew
 have nP2 : (W1.setP D (some { cls := .type "list", data := .seq ([] : List Value).toArray })).P (D + 1) = none := by rw [← hCsz]; exact X2.pNew
 have nO2 : ∀ i, ¬ Owns (W1.setP D (some { cls := .type "list", data := .seq ([] : List Value).toArray })) σ1 i (D + 1) := by rw [← hCsz]; exact fun i q => X2.oNew q
 rw [hCsz] at e1 hsb ⊢
 have X3 := (X2.grows (Grows.push _ { cls := .type "dict", data := .dict #[] })).elsewhere nF2 nP2 nO2 hsb.2
 have X4 := X3.setP (a := D + 1) (o := some o) (fun x e => by cases e; exact e1) nF2 nO2
 generalize hW4 : (W1.setP D (some { cls := .type "list", data := .seq ([] : List Value).toArray })).setP (D + 1) (some o) = W4 at X4
 have P4 : ∀ a, a ≠ D → a ≠ D + 1 → W4.P a = W1.P a := fun a h1 h2 => by
  rw [← hW4]
  show (if a = D + 1 then _ else if a = D then _ else W1.P a) = _
  rw [if_neg h2, if_neg h1]
 have P4D : W4.P D = some { cls := .type "list", data := .seq ([] : List Value).toArray } := by
  rw [← hW4]
  show (if D = D + 1 then _ else if D = D then _ else W1.P D) = _
  rw [if_neg (Nat.ne_of_lt (Nat.lt_succ_self _)), if_pos rfl]
 have P4C : W4.P (D + 1) = some o := by
  rw [← hW4]
  show (if D + 1 = D + 1 then _ else _) = _
  rw [if_pos rfl]
 have hCn : W1.P (D + 1) = none := by
  have := nP2
  change (if D + 1 = D then _ else W1.P (D + 1)) = none at this
  rwa [if_neg (Nat.ne_of_gt (Nat.lt_succ_self _))] at this
 have l14 : Le W1 W4 := by rw [← hW4]; exact (W1.leP _ _).trans (Wd.leP _ _ _)
 have ipD : ¬ ip D := fun q => by (refine x1_0 ((hipp D q).2) ?_; intro o e); rw [hDn] at e; cases e
 have ipC : ¬ ip (D + 1) := fun q => by (refine x1_0 ((hipp _ q).2) ?_; intro o e); rw [hCn] at e; cases e
 have hWC : W.P (D + 1) = none := by rw [← hP _ ipC]; exact hCn
 have hWD : W.P D = none := by rw [← hP _ ipD]; exact hDn
 have cellsOld : ∀ x c, cl.lookup x = some c → (∃ o, W.P c = some o) ∧ ¬ ip c := fun x c e => by
  (refine x0_1 (hcl1 x c e) ?_; intro e' hx)
  (refine x2_2 (Fm.cell x hx) ?_; intro c' cv q z2 ww; (refine x1_1 z2 ?_; clear z2; intro o q' _))
  rw [e'] at q; cases q
  exact ⟨⟨o, q'⟩, fun z => by rw [(hipp c z).1] at q'; cases q'⟩
 have cellNe : ∀ x c, cl.lookup x = some c → c ≠ D ∧ c ≠ D + 1 := fun x c e => by
  (refine x0_1 (cellsOld x c e) ?_; intro z3 ww; (refine x1_0 z3 ?_; clear z3; intro o q))
  exact ⟨fun z => by (rw [z, hWD] at q; cases q), fun z => by (rw [z, hWC] at q; cases q)⟩
 have hrel : relabel cscope env = relab cscope env.scope := rfl
 rw [hrel]
 let cenv : Env := { scope := relab cscope env.scope, locals := D + 1, globals := env.globals, cells := cl, qual := env.qual, func := none, code := env.code, frame := env.frame, builtins := env.builtins }
 have ceo : EnvOk cenv (relab cscope env.scope) := ⟨rfl, eo.globals, eo.builtins, O.kind⟩
 have cFm : Frm cenv (compLoc cscope m) W4 := by
  refine ⟨⟨o, es, ep, P4C, e2, e3, fun x v h1 h2 => ?_⟩, fun x v h1 h2 => (relab_free O x h1).elim, fun x h1 => ?_, fun x y c h1 h2 h3 => ?_, fun x c h1 => (cellNe x c h1).2⟩
  ·have := relab_local O h1
   unfold compLoc at h2
   rw [this] at h2
   simp at h2
  ·(refine x0_1 (relab_cell O h1) ?_; intro q1 q2)
   (refine x1_0 (Option.ne_none_iff_exists'.mp (hcl2 x q1)) ?_; intro c hc)
   (refine x0_1 (hcl1 x c hc) ?_; intro e' ww)
   (refine x2_2 (Fm.cell x q2) ?_; intro c' cv p1 z4 p4; (refine x1_1 z4 ?_; clear z4; intro oc p2 p3))
   rw [e'] at p1; cases p1
   (refine x0_1 (cellNe x c hc) ?_; intro n1 n2)
   refine ⟨c, cv, hc, ⟨oc, by rw [P4 c n1 n2, hP c (cellsOld x c hc).2]; exact p2, p3⟩, fun v hv => ?_⟩
   unfold compLoc at hv
   split at hv
   ·(refine x1_1 (p4 v hv) ?_; intro v' z1 z2)
    exact ⟨v', z1, z2.le (st.le.trans l14)⟩
   ·cases hv
  ·(refine x0_1 (relab_cell O h1) ?_; intro q1 q2)
   exact Fm.inj x y c q2 (hcl1 x c h2).1 (hcl1 y c h3).1
 have hip4 : ∀ a, ip a → W4.P a = W1.P a := fun a ha => P4 a (fun z => ipD (z ▸ ha)) fun z => ipC (z ▸ ha)
 show codeAny (model g.prog g.w) A (.compStart (.ListComp elt (⟨T, iter, ifs, 0⟩ :: rest) cscope cpos) 0 it (.ref D) cenv) _ _
 refine comp_start (T := T) (iter := iter) (ifs := ifs) rfl (codeAny_mono (comp_loop (ip := ip) (xs := xs) (ys := []) heq hem (relab_free O) R ceo X4 cFm ⟨_, _, P4D, .nil⟩ (Nat.ne_of_lt (Nat.lt_succ_self D)) (fun x c ww h2 => (cellNe x c h2).1.symm) ipC (fun x c ww h2 => (cellsOld x c h2).2) ipD (hI.le l14 hip4) hL) fun r s6 z => ?_)
  fun Q q => hself W4 σ1 _ Q l14 hip4 X4 q
 cases r with
 | error e => exact z.elim
 | ok f =>
  (refine x4_4 z ?_; clear z; intro W6 σ6 m6 ys st6 hp6 Fm6 z5 q; (refine x2_1 z5 ?_; clear z5; intro vs n eD rD))
  classical
  have X6 := st6.abs
  have l7 : Le W6 { W6 with P := fun a => if ip a ∨ a = D then none else W6.P a } := ⟨fun ww ww e => e, Nat.le_refl _, fun ww ww => rfl, fun ww ww => rfl⟩
  have X7 : Abs g { W6 with P := fun a => if ip a ∨ a = D then none else W6.P a } σ6 s6.heap := X6.lessP fun a o e => by
   split at e
   ·cases e
   ·exact e
  have nF : W6.F D = none := X6.fp D _ eD
  have nO : ∀ i, ¬ Owns { W6 with P := fun a => if ip a ∨ a = D then none else W6.P a } σ6 i D := fun i q => by
   have := (X6.free i D q).2
   rw [eD] at this; cases this
  have X8 := X7.addF (a := D) (X6.keepP _ _ eD) nF (by show (if ip D ∨ D = D then none else _) = none; rw [if_pos (.inr rfl)]) nO
  have l8 := X7.leF (a := D) nF { cls := .type "list", data := .seq vs n }
  have le8 := ((st.le.trans l14).trans (st6.le.trans l7)).trans l8
  have Peq : ∀ a, a ≠ D + 1 → (if ip a ∨ a = D then none else W6.P a) = W.P a := fun a ha => by
   by_cases h1 : ip a ∨ a = D
   ·rw [if_pos h1]
    rcases h1 with h1 | h1
    ·rw [(hipp a h1).1]
    ·rw [h1, hWD]
   ·rw [if_neg h1]
    have a1 : ¬ ip a := fun z => h1 (.inl z)
    have a2 : a ≠ D := fun z => h1 (.inr z)
    exact (hp6 a a1 a2 ha).trans ((P4 a a2 ha).trans (hP a a1))
  have hpost : compPost (model g.prog g.w) A NoE use Rp (Value.ref D) (D + 1) (.ok .next) s6 → compPost (model g.prog g.w) A NoE use Rp (Value.ref D) (D + 1) (.ok f) s6 := by cases use <;> exact id
  refine hpost (fin _ σ6 s6 (D + 1) D ys ⟨X8, le8, st6.os.trans st.os, st6.gens.trans st.gens⟩ Peq hWC ?_ ?_ (.list (Wd.addF_at _ _ _) rfl rfl (RdAll.mono (l7.trans l8).F rD)) q)
  ·(refine x3_3 Fm6.loc ?_; intro o' es' ep' q1 q2 q3 ww)
   refine ⟨o', es', ep', ?_, q2, q3⟩
   show (if ip (D + 1) ∨ D + 1 = D then none else W6.P (D + 1)) = _
   rw [if_neg (fun z => z.elim ipC (Nat.ne_of_gt (Nat.lt_succ_self _)))]
   exact q1
  ·refine Fm.grow le8 fun a o' e => ?_
   have ha : a ≠ D + 1 := fun z => by rw [z, hWC] at e; cases e
   show (if ip a ∨ a = D then none else W6.P a) = _
   rw [Peq a ha]; exact e
theorem EvW.comp {elt : Expr} {rest : List Comprehension} {cscope : Scope} {cpos : Pos} {T iter : Expr} {ifs : List Expr} {emit : Value → Env → Sem Unit} {EM : Em} {Q : AV → AH → Prop}
  (heq : ∀ it acc env, compTurn (.ListComp elt (⟨T, iter, ifs, 0⟩ :: rest) cscope cpos) 0 it acc env = (do
   standAt iter.pos
   match ← pyNext it with
   | Option.none => pure (.done .next)
   | some v =>
    letOwnedTupleGo T it v
    assign T env v
    let ok ← forIn ifs true fun c r => if r = true then do let ok ← isTrue c env (eval c env); pure (ForInStep.yield ok) else pure (ForInStep.yield r)
    if ok then emit acc env
    again (.compLoop (.ListComp elt (⟨T, iter, ifs, 0⟩ :: rest) cscope cpos) 0 it acc env))) (hem : EmOk g k (relab cscope sc) emit EM) (hO : compOk cscope sc = true) (hs : ∀ env x, foldedSetIterable iter env x = pure x)
  (h : SrcW g k sc m σ iter T (fun xs σ1 => CompL g k (relab cscope sc) T ifs EM (fun ww σ' ys' => Q (.d (.list ys')) σ') xs (compLoc cscope m) σ1 [])) : EvW g k sc m σ (.ListComp elt (⟨T, iter, ifs, 0⟩ :: rest) cscope cpos) Q := by
 intro A env W s R eo X Fm
 refine comp_core (use := Option.none) (Q := fun σ' ys => Q (.d (.list ys)) σ') heq hem hO hs R eo X Fm h fun W7 σ7 s7 C D ys st hp hC hd Fm7 rd q => ?_
 (refine x3_2 hd ?_; clear hd; intro o es ep q1 q2 q3)
 have X7 := st.abs
 refine ⟨_, ⟨o, es, ep, X7.keepP _ _ q1, q2, q3, fun ww => rfl⟩, fun h' hs' => ?_⟩
 have nF := X7.fp _ _ q1
 have nO : ∀ i, ¬ Owns W7 σ7 i C := fun i z => by have := (X7.free i C z).2; rw [q1] at this; cases this
 have X8 : Abs g { W7 with P := W.P } σ7 s7.heap := X7.lessP fun a o e => by
  have : a ≠ C := fun z => by rw [z, hC] at e; cases e
  rw [hp a this]; exact e
 have X9 := X8.elsewhere nF hC nO hs'.2
 exact ⟨{ W7 with P := W.P }, σ7, .d (.list ys), ⟨X9, ⟨st.le.F, st.le.n, st.le.φ, st.le.δ⟩, st.os, st.gens⟩, rfl, rd, q⟩
theorem StW.assignComp {x : Str} {p : Pos} {pos : Pos} {elt : Expr} {rest : List Comprehension} {cscope : Scope} {cpos : Pos} {T iter : Expr} {ifs : List Expr} {emit : Value → Env → Sem Unit} {EM : Em} {Q : Fl → Loc → AH → Prop}
  (hsw : ∀ env, env.scope = sc → swapsWith (.ListComp elt (⟨T, iter, ifs, 0⟩ :: rest) cscope cpos) (some (.Name x p)) pos.line env = pure true) (hx : sc.names.lookup x = some .local) (hfree : ∀ x, sc.names.lookup x ≠ some .free)
  (heq : ∀ it acc env, compTurn (.ListComp elt (⟨T, iter, ifs, 0⟩ :: rest) cscope cpos) 0 it acc env = (do
   standAt iter.pos
   match ← pyNext it with
   | Option.none => pure (.done .next)
   | some v =>
    letOwnedTupleGo T it v
    PySem.assign T env v
    let ok ← forIn ifs true fun c r => if r = true then do let ok ← isTrue c env (eval c env); pure (ForInStep.yield ok) else pure (ForInStep.yield r)
    if ok then emit acc env
    again (.compLoop (.ListComp elt (⟨T, iter, ifs, 0⟩ :: rest) cscope cpos) 0 it acc env))) (hem : EmOk g k (relab cscope sc) emit EM) (hO : compOk cscope sc = true) (hs : ∀ env x, foldedSetIterable iter env x = pure x)
  (h : SrcW g k sc m σ iter T (fun xs σ1 => CompL g k (relab cscope sc) T ifs EM (fun ww σ' ys' => Q .next (upd m x (.d (.list ys'))) σ') xs (compLoc cscope m) σ1 [])) : StW g k sc m σ (.Assign [.Name x p] (.ListComp elt (⟨T, iter, ifs, 0⟩ :: rest) cscope cpos) pos) Q := by
 intro A env W s R eo X Fm
 rw [exec_Assign_Name_used x p _ pos (hsw env eo.scope)]
 refine wpAny_bind (wpAny_standAt (wpAny_bind ?_))
 show wpAny _ _ (comprehension (.ListComp elt (⟨T, iter, ifs, 0⟩ :: rest) cscope cpos) cscope env (firstIterPos (⟨T, iter, ifs, 0⟩ :: rest) cpos) (newList []) false (eval iter env) (some (PySem.assign (.Name x p) env)) >>= fun ww => pure ()) _ _ s
 refine wpAny_bind ?_
 refine comp_core (use := some (PySem.assign (.Name x p) env)) (Q := fun σ' ys => Q .next (upd m x (.d (.list ys))) σ') heq hem hO hs R eo X Fm h fun W7 σ7 s7 C D ys st hp hC hd Fm7 rd q => ?_
 (refine x3_2 hd ?_; clear hd; intro o es ep q1 q2 q3)
 show wpAny _ _ (PySem.assign (.Name x p) env (.ref D)) _ _ s7
 have nLC : C ≠ env.locals := fun z => by
  (refine x3_1 Fm.loc ?_; intro o es ep h1 ww)
  rw [← z, hC] at h1; cases h1
 refine assign_Name (store_local (a := .d (.list ys)) hx eo st.abs Fm7 rd fun W9 s9 st9 hp9 Fm9 => ?_)
 have X9 := st9.abs
 have q9 : W9.P C = some o := by rw [hp9 C nLC]; exact q1
 refine ⟨_, ⟨o, es, ep, X9.keepP _ _ q9, q2, q3, fun ww => rfl⟩, fun h' hs' => ?_⟩
 have nF := X9.fp _ _ q9
 have nO : ∀ i, ¬ Owns W9 σ7 i C := fun i z => by have := (X9.free i C z).2; rw [q9] at this; cases this
 have X10 : Abs g (W9.setP C none) σ7 s9.heap := X9.dropP C
 have X11 := X10.elsewhere (a := C) nF (by show (if C = C then none else _) = none; rw [if_pos rfl]) nO hs'.2
 have nCC : ∀ y c, env.scope.names.lookup y = some .cell → env.cells.lookup y = some c → ¬ c = C := fun y c h1 h2 z => by
  (refine x2_2 (Fm.cell y h1) ?_; intro c' cv e z6 ww; (refine x1_1 z6 ?_; clear z6; intro o' e' _))
  rw [h2] at e; cases e
  rw [z, hC] at e'; cases e'
 refine wpAny_pure (wpAny_pure ⟨W9.setP C none, σ7, _, .next, ⟨X11, (st.le.trans st9.le).trans (W9.leP _ _), st9.os.trans st.os, st9.gens.trans st.gens⟩, fun a h1 h2 => ?_, ?_, trivial, q⟩)
 ·show (if a = C then none else W9.P a) = W.P a
  by_cases ha : a = C
  ·rw [if_pos ha, ha, hC]
  ·rw [if_neg ha, hp9 a h1, hp a ha]
 ·refine Fm9.past (ip := fun a => a = C) (fun y => by rw [eo.scope]; exact hfree y) (fun z => nLC z.symm) nCC (W9.leP _ _) fun a ha => ?_
  show (if a = C then none else W9.P a) = _
  rw [if_neg ha]
end
end
section
set_option tactic.hygienic false
section
variable {K : Params → Frag} {g : G K} {k : Nat} {sc : Scope} {m : Loc} {σ : AH}
theorem StW.while {test : Expr} {body : List Stmt} {pos : Pos} {Q : Fl → Loc → AH → Prop} (I : Nat → Loc → AH → Prop)
  (turn : ∀ n m σ, I n m σ → TsW g k sc m σ test (fun c σ1 => if c = true then ExW g k sc m σ1 body (fun f m2 σ2 => match f with | .next => ∃ n', n' < n ∧ I n' m2 σ2 | .ret v => Q (.ret v) m2 σ2) else Q .next m σ1))
  (n : Nat) (h : I n m σ) : StW g k sc m σ (.While test body [] pos) Q := by
 intro A env W s R eo X Fm
 refine wpAny_While (codeAny_whileLoop (fun n s' => ∃ W' σ' m', Stp g W s W' σ' s' ∧ FrP env W W' ∧ Frm env m' W' ∧ I n m' σ') ?_ n ⟨W, σ, m, Stp.refl X, FrP.refl env W, Fm, h⟩)
 (intro n; intro s'; intro z2r; (refine x3_3 z2r ?_; clear z2r; intro W' σ' m' st fp Fm' hI))
 refine wpAny_mono (turn n m' σ' hI A env W' s' R eo st.abs Fm') (fun b s2 z => ?_) fun ww ww x => x.elim
 (refine BPost.out z ?_; clear z; intro W2 σ2 st2 hp2 q)
 cases b with
 | false => exact wpAny_execs_nil ⟨W2, σ2, m', .next, st.trans st2, fp.trans (FrP.of hp2), Fm'.le st2.le hp2, trivial, q⟩
 | true =>
  refine wpAny_mono (q A env W2 s2 R eo st2.abs (Fm'.le st2.le hp2)) (fun fl s3 z => ?_) fun ww ww x => x.elim
  (refine SPost.out z ?_; clear z; intro W3 σ3 m3 f st3 fp3 Fm3 fr q3)
  cases fl with
  | next =>
   cases f with
   | next => (refine x1_1 q3 ?_; clear q3; intro n' hn hI'); exact ⟨n', hn, W3, σ3, m3, (st.trans st2).trans st3, (fp.trans (FrP.of hp2)).trans fp3, Fm3, hI'⟩
   | ret v => exact fr.elim
  | ret v =>
   cases f with
   | next => exact fr.elim
   | ret a => exact ⟨W3, σ3, m3, .ret a, (st.trans st2).trans st3, (fp.trans (FrP.of hp2)).trans fp3, Fm3, fr, q3⟩
  | brk => exact fr.elim
  | cont => exact fr.elim
theorem EvW.lstO {es : List Expr} {pos : Pos} {Q : AV → AH → Prop} (h : SpW g k sc m σ es (fun as σ1 => ∃ ds σ2, FrzAll σ1 as ds σ2 ∧ ds.length ≤ 1000 ∧ Q (.r σ2.next) (σ2.push (.list ds)))) : EvW g k sc m σ (.List es pos) Q := by
 intro A env W s R eo X Fm
 refine List_ (wpAny_mono (h A env W s pos R eo X Fm) (fun vs s1 z => ?_) fun ww ww x => x)
 (refine LPost.out z ?_; clear z; intro W1 σ1 as st p vr z1; refine x2_2 z1 ?_; clear z1; intro ds σ2 f hl q)
 (refine x1_3 (st.abs.freezeAll f vr) ?_; intro W2 X2 l2 p2 r)
 exact wpAny_mono (newLstO X2 r (by lia) q) (fun ww ww z => VPost.go ⟨X2, st.le.trans l2, st.os, st.gens⟩ (p2.trans p) z) fun ww ww x => x
theorem Abs.one {W : Wd} {h : Heap} (X : Abs g W σ h) {a : Addr} (hF : W.F a = none) (hP : W.P a = none) (hO : ∀ i, ¬ Owns W σ i a) {o : AO}
  (r : ∀ d, ORep g.prog g.w (W.addO a d) h W.n o) : Abs g (W.addO a (h.objs.size + a + 1)) (σ.push o) h := by
 have big : ∀ {o}, h.get? (h.objs.size + a + 1) ≠ some o := fun e => absurd (Heap.lt_size e) (Nat.not_lt.mpr (Nat.le_trans (Nat.le_add_right _ _) (Nat.le_succ _)))
 refine X.addO hF hP hO ?_ ?_ (fun i q => by (refine x1_0 (X.owned q) ?_; intro o e); exact big e) (Nat.ne_of_lt (Nat.lt_succ_of_le (Nat.le_add_left _ _))) (r _)
 ·cases e : W.F (h.objs.size + a + 1) with
  | none => rfl
  | some o => exact (big (X.keepF _ _ e)).elim
 ·cases e : W.P (h.objs.size + a + 1) with
  | none => rfl
  | some o => exact (big (X.keepP _ _ e)).elim
theorem Abs.big {W : Wd} {h : Heap} (X : Abs g W σ h) : 3 < h.objs.size := by
 (refine x3_1 g.T.g ?_; intro o es ep e ww)
 have := Heap.lt_size (X.base' _ _ e)
 exact this
theorem EvW.dict0 {pos : Pos} {Q : AV → AH → Prop} (h : Q (.r σ.next) (σ.push (.dictI []))) : EvW g k sc m σ (.Dict [] [] pos) Q := by
 intro A env W s R eo X Fm
 refine wpAny_Dict_empty ?_
 have X1 := X.grows (Grows.push s.heap { cls := .type "dict", data := .dict #[] })
 have hb := X.big
 have X2 := X1.one (a := s.heap.objs.size) (o := .dictI []) X.fNew X.pNew (fun i q => X.oNew q) fun d => by
  refine ⟨?_, [], ?_, rfl, .nil⟩
  ·rw [Wd.addO_φ]; exact Nat.ne_of_gt (Nat.lt_trans (by decide) hb)
  ·rw [Wd.addO_φ]; exact Heap.DictOf.new _
 refine ⟨_, _, .r σ.next, ⟨X2, W.leO _ _, rfl, rfl⟩, rfl, ?_, h⟩
 rw [← X.n]
 exact ⟨Nat.lt_succ_self _, by rw [Wd.addO_φ]⟩
inductive PairsR (W : Wd) : List (Value × Value) → List (Str × AV) → Prop
 | nil : PairsR W [] []
 | cons {x t v a vs es} : VR W v a → PairsR W vs es → PairsR W ((.str x t, v) :: vs) ((x, a) :: es)
theorem PairsR.carries {W : Wd} {prog : Program} {w : World} {vs : List (Value × Value)} {es : List (Str × AV)} (h : PairsR W vs es) : ∃ kvs : List (Str × Value), Carries (strKind prog w) vs kvs ∧ kvs.map (·.1) = es.map (·.1) ∧ VRs W (kvs.map (·.2)) (es.map (·.2)) := by
 induction h with
 | nil => exact ⟨[], trivial, rfl, .nil⟩
 | @cons x t v a vs es r _ ih =>
  (refine x1_2 ih ?_; clear ih; intro kvs h1 h2 h3)
  exact ⟨(x, v) :: kvs, ⟨strKind_is _ _ _ _, rfl, h1⟩, by rw [List.map_cons, List.map_cons, h2], .cons r h3⟩
noncomputable def PrW (g : G K) (k : Nat) (sc : Scope) (m : Loc) (σ : AH) (keys : List (Option Expr)) (values : List Expr) (Q : List (Str × AV) → AH → Prop) : Prop :=
 ∀ (A : Around) (env : Env) (W : Wd) (s : Shared) (pos : Pos), Room k A → EnvOk env sc → Abs g W σ s.heap → Frm env m W →
  wpAny (model g.prog g.w) A (evalPairs (pairTrees keys values env pos)) (fun vs s' => ∃ W' σ' es, Stp g W s W' σ' s' ∧ W'.P = W.P ∧ PairsR W' vs es ∧ Q es σ') NoE s
theorem PrW.nil {Q : List (Str × AV) → AH → Prop} (h : Q [] σ) : PrW g k sc m σ [] [] Q := fun A env W s pos R eo X Fm => pairTrees_nil_walk ⟨W, σ, [], Stp.refl X, rfl, .nil, h⟩
theorem PrW.cons {e v : Expr} {keys : List (Option Expr)} {values : List Expr} {Q : List (Str × AV) → AH → Prop}
  (h : EvW g k sc m σ e (fun a σ1 => EvW g k sc m σ1 v (fun b σ2 => PrW g k sc m σ2 keys values (fun es σ3 => ∃ x, a = .d (.str x) ∧ Q ((x, b) :: es) σ3)))) : PrW g k sc m σ (some e :: keys) (v :: values) Q := by
 intro A env W s pos R eo X Fm
 refine pairTrees_cons_walk (h.then R eo X Fm fun va s1 W1 σ1 a st p Fm1 vr h1 => h1.then R eo st.abs Fm1 fun vb s2 W2 σ2 b st2 p2 Fm2 vr2 h2 => wpAny_mono (h2 A env W2 s2 pos R eo st2.abs Fm2) (fun vs s3 z => ?_) fun ww ww x => x)
 (refine x3_3 z ?_; clear z; intro W3 σ3 es st3 p3 pr z2; refine x1_1 z2 ?_; clear z2; intro x z3 q; obtain rfl := z3)
 obtain ⟨t, rfl⟩ : ∃ t, va = .str x t := Rd.inv vr
 exact ⟨W3, σ3, (x, b) :: es, (st.trans st2).trans st3, p3.trans (p2.trans p), .cons (vr2.le st3.le) pr, q⟩
theorem EvW.dictS {keys : List (Option Expr)} {values : List Expr} {pos : Pos} {Q : AV → AH → Prop} (hall : keys.all (·.isSome) = true) (hl : keys.length = values.length) (h0 : keys ≠ []) (hlen : keys.length ≤ 15)
  (h : PrW g k sc m σ keys values (fun es σ1 => (es.map (·.1)).Nodup ∧ Q (.r σ1.next) (σ1.push (.dictS es)))) : EvW g k sc m σ (.Dict keys values pos) Q := by
 intro A env W s R eo X Fm
 refine wpAny_Dict_walk (knd := strKind g.prog g.w) hall hl h0 hlen ?_
 have X1 := X.allocP (o := { cls := .type "dict", data := .dict #[] }) rfl
 have hb := X.big
 have F1 : Frm env m (W.setP s.heap.objs.size (some { cls := .type "dict", data := .dict #[] })) := Fm.grow (W.leP _ _) fun a o e => by
  have : a ≠ s.heap.objs.size := fun z => by (have := X.pNew; rw [← z, e] at this; cases this)
  show (if a = _ then _ else W.P a) = _
  rw [if_neg this]; exact e
 refine wpAny_mono (h A env _ { s with heap := s.heap.push { cls := .type "dict", data := .dict #[] } } pos R eo X1 F1) (fun vs s2 z => ?_) fun ww ww x => x
 (refine x3_4 z ?_; clear z; intro W2 σ2 es st p pr hn q)
 (refine x1_2 (pr.carries (prog := g.prog) (w := g.w)) ?_; intro kvs c1 c2 c3)
 have eP : W2.P s.heap.objs.size = some { cls := .type "dict", data := .dict #[] } := by
  rw [p]
  show (if _ = _ then _ else _) = _
  rw [if_pos rfl]
 have X2 := st.abs
 refine ⟨kvs, c1, ⟨_, #[], 0, X2.keepP _ _ eP, ⟨rfl, rfl, rfl⟩, rfl, fun ww he => by simp at he, Pairs.nil, List.nodup_nil⟩, fun h' hd hs => ?_⟩
 rw [merged_nil_of_nodup kvs (by rw [c2]; exact hn)] at hd
 have nF := X2.fp _ _ eP
 have nO : ∀ i, ¬ Owns W2 σ2 i s.heap.objs.size := fun i z => by (have := (X2.free i _ z).2; rw [eP] at this; cases this)
 have X3 : Abs g { W2 with P := W.P } σ2 s2.heap := X2.lessP fun a o e => by
  rw [p]
  have : a ≠ s.heap.objs.size := fun z => by (have := X.pNew; rw [← z, e] at this; cases this)
  show (if a = _ then _ else W.P a) = _
  rw [if_neg this]; exact e
 have X4 := X3.elsewhere (a := s.heap.objs.size) nF X.pNew nO hs.2
 have X5 := X4.one (a := s.heap.objs.size) (o := .dictS es) nF X.pNew nO fun d => by
  refine ⟨?_, kvs, ?_, c2, ?_⟩
  ·show (Wd.addO { W2 with P := W.P } _ _).φ W2.n ≠ 1
   rw [show W2.n = ({ W2 with P := W.P } : Wd).n from rfl, Wd.addO_φ]; exact Nat.ne_of_gt (Nat.lt_trans (by decide) hb)
  ·show h'.DictOf _ ((Wd.addO { W2 with P := W.P } _ _).φ W2.n) kvs
   rw [show W2.n = ({ W2 with P := W.P } : Wd).n from rfl, Wd.addO_φ]; exact hd
  ·exact VRs.le (W := { W2 with P := W.P }) (by
    have l : Le W2 { W2 with P := W.P } := ⟨fun ww ww e => e, Nat.le_refl _, fun ww ww => rfl, fun ww ww => rfl⟩
    exact c3.le l) (Wd.leO _ _ _)
 have l1 : Le W { W2 with P := W.P } := ⟨fun a o e => st.le.F a o e, st.le.n, st.le.φ, st.le.δ⟩
 refine ⟨_, _, .r σ2.next, ⟨X5, l1.trans (Wd.leO _ _ _), st.os, st.gens⟩, rfl, ?_, q⟩
 have hn2 : σ2.next = W2.n := X2.n.symm
 rw [hn2]
 exact ⟨Nat.lt_succ_self _, by show _ = Value.ref ((Wd.addO { W2 with P := W.P } _ _).φ W2.n); rw [show W2.n = ({ W2 with P := W.P } : Wd).n from rfl, Wd.addO_φ]⟩
theorem CallW.sortedL {a : AV} {ns : List Int} {Q : AV → AH → Prop} (e : AsD σ a (.list (ns.map .int))) (hl : ns.length < 64) (q : ∀ ns' : List Int, ns'.Perm ns → ns'.Pairwise (· ≤ ·) → Q (.d (.list (ns'.map .int))) σ) : CallW g k (.builtin "sorted") [a] σ Q := by
 intro A W s vs R X V
 (refine x1_1 V.one ?_; intro v z4 r1; obtain rfl := z4)
 (refine x2_1 (X.lstA r1 e) ?_; intro b ws z5 z6; obtain rfl := z5; refine x0_1 z6 ?_; clear z6; intro hL r)
 have hz : ws.size = ns.length := by rw [← Array.length_toList, r.length, List.length_map]
 refine sorted_ints (vs := ws.toList) (by simpa using hL) (rdInts r) (by rw [Array.length_toList, hz]; exact hl) fun out ns' h1 h2 h3 => ?_
 (refine x1_0 (sortedAll_at s.heap ws.toList out) ?_; intro ep hat)
 have gr : Grows s.heap (sortedAll s.heap ws.toList out) := fun ww ww e => sortedAll_old e
 have X1 := X.grows gr
 have n1 : s.heap.get? (s.heap.objs.size + 1) = none := Heap.get?_none_of_le (Nat.le_succ _)
 have nF : W.F (s.heap.objs.size + 1) = none := by
  cases e : W.F (s.heap.objs.size + 1) with
  | none => rfl
  | some o => have := X.keepF _ _ e; rw [n1] at this; cases this
 have nP : W.P (s.heap.objs.size + 1) = none := by
  cases e : W.P (s.heap.objs.size + 1) with
  | none => rfl
  | some o => have := X.keepP _ _ e; rw [n1] at this; cases this
 have nO : ∀ i, ¬ Owns W σ i (s.heap.objs.size + 1) := fun i q => by ((refine x1_0 (X.owned q) ?_; intro o e); rw [n1] at e; cases e)
 have X2 := X1.addF hat nF nP nO
 exact ⟨_, σ, .d (.list (ns'.map .int)), ⟨X2, X1.leF nF _, rfl, rfl⟩, rfl, Rd.list (Wd.addF_at _ _ _) rfl rfl (intsRd h1), q ns' h2 h3⟩
theorem ints_count {vs : List Value} {ns : List Int} (h : IntsAre vs ns) (x : Int) : vs.countP (isInt x) = ns.countP (· == x) := by
 induction h with
 | nil => rfl
 | cons n t _ ih => rw [List.countP_cons, List.countP_cons, ih]; rfl
theorem EvW.countL {es : List Expr} {lp ap pos : Pos} {e : Expr} {Q : AV → AH → Prop} (hb : ∀ env, attributeBase (.List es lp) "count" env (eval (.List es lp) env) = eval (.List es lp) env) (hline : (ap.endLine == pos.line) = true)
  (hform : ∀ env, ((backTo pos (starEach [e] env)).all (fun x => !x.1) && (backToKw pos (keywordEach [] env)).all (fun x => x.1.isSome) && decide (([e] : List Expr).length + ([] : List Keyword).length + (if ([] : List Keyword).isEmpty then 0 else 1) < 30)) = true)
  (he : ∀ env, backTo pos (starEach [e] env) = [(false, eval e env)])
  (h : SpW g k sc m σ es (fun as σ1 => ∃ ns : List Int, as = ns.map (fun n => .d (.int n)) ∧ ns.length ≤ 1000 ∧ EvW g k sc m σ1 e (fun b σ2 => ∃ x, b = .d (.int x) ∧ Q (.d (.int (ns.countP (· == x)))) σ2))) : EvW g k sc m σ (.Call (.Attribute (.List es lp) "count" ap) [e] [] pos) Q := by
 intro A env W s R eo X Fm
 refine wpAny_Call_method (T := "list") (id := "list.count") (hb env) (hform env) hline PySem.F.plainAttrs_list PySem.F.slot_list_count PySem.F.type_list_count (List_ (wpAny_mono (h A env W s lp R eo X Fm) (fun vs s1 z => ?_) fun ww ww x => x))
 (refine LPost.out z ?_; clear z; intro W1 σ1 as st p vr z7; refine x1_1 z7 ?_; clear z7; intro ns z8 z9; obtain rfl := z8; refine x0_1 z9 ?_; clear z9; intro hl hq)
 have r : RdAll W1.F vs (ns.map .int) := by
  have := VRs.toRd (W := W1) (vs := vs) (ds := ns.map .int) (by rw [List.map_map]; exact vr)
  exact this
 have hlen := r.length
 rw [List.length_map] at hlen
 refine wpAny_newList ?_ (by rw [hlen]; exact szle (by lia))
 (refine x0_1 (st.abs.allocF (o := { cls := .type "list", data := .seq vs.toArray }) rfl) ?_; intro X2 l2)
 refine ⟨⟨_, Heap.get?_push_size _ rfl, rfl⟩, fun a ha => by cases ha; exact ⟨_, Heap.get?_push_size _ rfl, rfl⟩, ?_⟩
 rw [he env]
 refine callWith_builtin rfl (evalArgs_plain (spliced_cons (hq.then (s := { s1 with heap := s1.heap.push { cls := .type "list", data := .seq vs.toArray } }) R eo X2 (Fm.le (st.le.trans l2) p) fun v s3 W3 σ3 b st3 p3 Fm3 vr3 h3 => spliced_nil ?_)))
 (refine x1_1 h3 ?_; clear h3; intro x z10 q; obtain rfl := z10)
 (refine x1_0 vr3.int ?_; intro t z11; obtain rfl := z11)
 have ho := st3.abs.keepF _ _ (st3.le.F _ _ (W1.addF_at s1.heap.objs.size { cls := .type "list", data := .seq vs.toArray }))
 have hi := rdInts r
 refine call_meets (T := "list") PySem.F.slot_list_count ⟨_, ho, rfl⟩ PySem.F.entry_list_count (PySem.F.args_list_count_2 _ _) (PySem.SeqAt.list_countAt _ vs.toArray 0 Option.none #[] (.int x t) (isInt x)) ⟨ho, fun y hy => (eq_isInt x t hi y (by simpa using hy)).at _ _, ?_⟩
 have e2 : vs.toArray.toList.countP (isInt x) = ns.countP (· == x) := ints_count hi x
 rw [e2]
 exact ⟨W3, σ3, .d (.int _), ⟨st3.abs, (st.le.trans l2).trans st3.le, st3.os.trans st.os, st3.gens.trans st.gens⟩, p3.trans p, Rd.int _ _, q⟩
theorem EvW.countT {es : List Expr} {n : Nat} {lp ap pos : Pos} {e : Expr} {Q : AV → AH → Prop} (hb : ∀ env, attributeBase (.Tuple es n lp) "count" env (eval (.Tuple es n lp) env) = eval (.Tuple es n lp) env) (hline : (ap.endLine == pos.line) = true)
  (hform : ∀ env, ((backTo pos (starEach [e] env)).all (fun x => !x.1) && (backToKw pos (keywordEach [] env)).all (fun x => x.1.isSome) && decide (([e] : List Expr).length + ([] : List Keyword).length + (if ([] : List Keyword).isEmpty then 0 else 1) < 30)) = true)
  (he : ∀ env, backTo pos (starEach [e] env) = [(false, eval e env)])
  (h : SpW g k sc m σ es (fun as σ1 => ∃ ns : List Int, as = ns.map (fun n => .d (.int n)) ∧ ns.length ≤ 1000 ∧ EvW g k sc m σ1 e (fun b σ2 => ∃ x, b = .d (.int x) ∧ Q (.d (.int (ns.countP (· == x)))) σ2))) : EvW g k sc m σ (.Call (.Attribute (.Tuple es n lp) "count" ap) [e] [] pos) Q := by
 intro A env W s R eo X Fm
 refine wpAny_Call_method (T := "tuple") (id := "tuple.count") (hb env) (hform env) hline PySem.F.plainAttrs_tuple PySem.F.slot_tuple_count PySem.F.type_tuple_count (Tuple_ (wpAny_mono (h A env W s lp R eo X Fm) (fun vs s1 z => ?_) fun ww ww x => x))
 (refine LPost.out z ?_; clear z; intro W1 σ1 as st p vr z12; refine x1_1 z12 ?_; clear z12; intro ns z13 z14; obtain rfl := z13; refine x0_1 z14 ?_; clear z14; intro hl hq)
 have r : RdAll W1.F vs (ns.map .int) := by
  have := VRs.toRd (W := W1) (vs := vs) (ds := ns.map .int) (by rw [List.map_map]; exact vr)
  exact this
 have hlen := r.length
 rw [List.length_map] at hlen
 refine wpAny_newTuple ?_ (by rw [hlen]; exact szle (by lia))
 (refine x0_1 (st.abs.allocF (o := { cls := .type "tuple", data := .seq vs.toArray }) rfl) ?_; intro X2 l2)
 refine ⟨⟨_, Heap.get?_push_size _ rfl, rfl⟩, fun a ha => by cases ha; exact ⟨_, Heap.get?_push_size _ rfl, rfl⟩, ?_⟩
 rw [he env]
 refine callWith_builtin rfl (evalArgs_plain (spliced_cons (hq.then (s := { s1 with heap := s1.heap.push { cls := .type "tuple", data := .seq vs.toArray } }) R eo X2 (Fm.le (st.le.trans l2) p) fun v s3 W3 σ3 b st3 p3 Fm3 vr3 h3 => spliced_nil ?_)))
 (refine x1_1 h3 ?_; clear h3; intro x z15 q; obtain rfl := z15)
 (refine x1_0 vr3.int ?_; intro t z16; obtain rfl := z16)
 have ho := st3.abs.keepF _ _ (st3.le.F _ _ (W1.addF_at s1.heap.objs.size { cls := .type "tuple", data := .seq vs.toArray }))
 have hi := rdInts r
 refine call_meets (T := "tuple") PySem.F.slot_tuple_count ⟨_, ho, rfl⟩ PySem.F.entry_tuple_count (PySem.F.args_tuple_count_2 _ _) (PySem.SeqAt.tuple_countAt _ vs.toArray 0 Option.none #[] (.int x t) (isInt x)) ⟨ho, fun y hy => (eq_isInt x t hi y (by simpa using hy)).at _ _, ?_⟩
 have e2 : vs.toArray.toList.countP (isInt x) = ns.countP (· == x) := ints_count hi x
 rw [e2]
 exact ⟨W3, σ3, .d (.int _), ⟨st3.abs, (st.le.trans l2).trans st3.le, st3.os.trans st.os, st3.gens.trans st.gens⟩, p3.trans p, Rd.int _ _, q⟩
theorem Abs.settle {W : Wd} {h : Heap} (X : Abs g W σ h) {i j : Nat} {C : Addr} {fs fs' : List (Str × AV)} {x : Str} {xs : List PyData} (e : σ.get i = some (.inst C fs)) (e2 : σ.get j = some (.list xs))
  (hf : ∀ W' es, Ents W' es fs → Rd W'.F (.ref (W.φ j)) (.list xs) → W'.φ j = W.φ j → j < W'.n → Ents W' es fs') : ∃ W', Abs g W' ((σ.del j).set i (.inst C fs')) h ∧ Le W W' ∧ W'.P = W.P := by
 (refine x1_3 (X.freeze e2) ?_; intro W' X' l p rd)
 have ne : i ≠ j := fun z => by (subst z; rw [e] at e2; cases e2)
 have e' : (σ.del j).get i = some (.inst C fs) := by
  show (if i = j then none else σ.get i) = _
  rw [if_neg ne]; exact e
 have hj : j < W.n := X.wlt e2
 (refine x0_1 (X'.obj i _ e') ?_; intro o1 z17; refine x2_1 z17 ?_; clear z17; intro es n o2 z)
 refine ⟨W', X'.updO e' trivial (fun b ww => rfl) ⟨o1, es, n, o2, hf W' es z rd (l.φ j hj) (Nat.lt_of_lt_of_le hj l.n)⟩, l, p⟩
end
end
section
set_option tactic.hygienic false
section
variable {K : Params → Frag} {g : G K} {k : Nat} {sc : Scope} {m : Loc} {σ : AH}
theorem TsW.mono {e : Expr} {Q Q' : Bool → AH → Prop} (h : TsW g k sc m σ e Q) (q : ∀ a σ', Q a σ' → Q' a σ') : TsW g k sc m σ e Q' := fun A env W s R eo X Fm =>
 wpAny_mono (h A env W s R eo X Fm) (fun ww ww hh => hh.out fun W' σ' x y z => ⟨W', σ', x, y, q _ _ z⟩) fun ww ww x => x
theorem AsgW.mono {t : Expr} {a : AV} {Q Q' : Loc → AH → Prop} (h : AsgW g k sc m σ t a Q) (q : ∀ m' σ', Q m' σ' → Q' m' σ') : AsgW g k sc m σ t a Q' := fun A env W s v R eo X Fm r =>
 wpAny_mono (h A env W s v R eo X Fm r) (fun ww ww hh => hh.out fun W' σ' m' x y z t => ⟨W', σ', m', x, y, z, q _ _ t⟩) fun ww ww x => x
theorem AsgC.mono {t : Expr} {a : AV} {Q Q' : Loc → AH → Prop} (h : AsgC g k sc m σ t a Q) (q : ∀ m' σ', Q m' σ' → Q' m' σ') : AsgC g k sc m σ t a Q' := fun A env W s v R eo X Fm r =>
 wpAny_mono (h A env W s v R eo X Fm r) (fun ww ww hh => x3_3 hh fun W' σ' m' x y z t => ⟨W', σ', m', x, y, z, q _ _ t⟩) fun ww ww x => x
theorem IfsW.mono {ifs : List Expr} {Q Q' : Bool → AH → Prop} (h : IfsW g k sc m σ ifs Q) (q : ∀ a σ', Q a σ' → Q' a σ') : IfsW g k sc m σ ifs Q' := by
 match ifs, h with
 | [], h => exact q _ _ h
 | [c], h => exact TsW.mono h q
theorem CompL.nil {T : Expr} {ifs : List Expr} {EM : Em} {Q : Loc → AH → List PyData → Prop} {ys : List PyData} (h : Q m σ ys) : CompL g k sc T ifs EM Q [] m σ ys := h
theorem CompL.cons {T : Expr} {ifs : List Expr} {EM : Em} {Q : Loc → AH → List PyData → Prop} {d : PyData} {xs ys : List PyData}
  (h : AsgC g k sc m σ T (.d d) (fun m1 σ1 => IfsW g k sc m1 σ1 ifs (fun ok σ2 => if ok = true then EM m1 σ2 ys (fun m2 σ3 ys' => CompL g k sc T ifs EM Q xs m2 σ3 ys') else CompL g k sc T ifs EM Q xs m1 σ2 ys))) : CompL g k sc T ifs EM Q (d :: xs) m σ ys := h
end
end
section
section
variable {K : Params → Frag} {g : G K} {k : Nat} {sc : Scope} {m : Loc} {σ : AH}
theorem EvW.compE {elt : Expr} {cscope : Scope} {cpos : Pos} {T iter : Expr} {ifs : List Expr} {Q : AV → AH → Prop} (hO : compOk cscope sc = true) (hs : ∀ env x, foldedSetIterable iter env x = pure x)
  (h : SrcW g k sc m σ iter T (fun xs σ1 => CompL g k (relab cscope sc) T ifs (Em.elt g k (relab cscope sc) elt) (fun _ σ' ys' => Q (.d (.list ys')) σ') xs (compLoc cscope m) σ1 [])) : EvW g k sc m σ (.ListComp elt [⟨T, iter, ifs, 0⟩] cscope cpos) Q :=
 EvW.comp (emit := emitElt elt) (fun it acc env => rfl) (EmOk.elt (relab_free (compOk_of hO))) hO hs h
theorem StW.compE {x : Str} {p : Pos} {pos : Pos} {elt : Expr} {cscope : Scope} {cpos : Pos} {T iter : Expr} {ifs : List Expr} {Q : Fl → Loc → AH → Prop}
  (hsw : ∀ env, env.scope = sc → swapsWith (.ListComp elt [⟨T, iter, ifs, 0⟩] cscope cpos) (some (.Name x p)) pos.line env = pure true) (hx : sc.names.lookup x = some .local) (hfree : ∀ x, sc.names.lookup x ≠ some .free)
  (hO : compOk cscope sc = true) (hs : ∀ env x, foldedSetIterable iter env x = pure x)
  (h : SrcW g k sc m σ iter T (fun xs σ1 => CompL g k (relab cscope sc) T ifs (Em.elt g k (relab cscope sc) elt) (fun _ σ' ys' => Q .next (upd m x (.d (.list ys'))) σ') xs (compLoc cscope m) σ1 [])) : StW g k sc m σ (.Assign [.Name x p] (.ListComp elt [⟨T, iter, ifs, 0⟩] cscope cpos) pos) Q :=
 StW.assignComp (emit := emitElt elt) hsw hx hfree (fun it acc env => rfl) (EmOk.elt (relab_free (compOk_of hO))) hO hs h
theorem Em.elt_i {elt : Expr} {ys : List PyData} {Q : Loc → AH → List PyData → Prop} (h : EvW g k sc m σ elt (fun a σ' => ∃ y, a = .d y ∧ ys.length ≤ 10000 ∧ Q m σ' (ys ++ [y]))) : Em.elt g k sc elt m σ ys Q := h
theorem IfsW.nil {Q : Bool → AH → Prop} (h : Q true σ) : IfsW g k sc m σ [] Q := h
theorem IfsW.one {c : Expr} {Q : Bool → AH → Prop} (h : TsW g k sc m σ c Q) : IfsW g k sc m σ [c] Q := h
noncomputable def namesOf : List Expr → List (Str × Pos)
 | .Name x p :: r => (x, p) :: namesOf r
 | _ => []
theorem AsgW.tup {es : List Expr} {n : Nat} {pos : Pos} {ds : List PyData} {Q : Loc → AH → Prop} (he : es = nameEs (namesOf es)) (hv : ∀ p ∈ namesOf es, isVar sc p.1) (hl : (namesOf es).length = ds.length)
  (h : Q (uA m ((namesOf es).map (·.1)) (ds.map .d)) σ) : AsgW g k sc m σ (.Tuple es n pos) (.d (.tuple ds)) Q := AsgW.tuple he hv hl h
theorem AsgC.tup {es : List Expr} {n : Nat} {pos : Pos} {ds : List PyData} {Q : Loc → AH → Prop} (he : es = nameEs (namesOf es)) (hv : ∀ p ∈ namesOf es, sc.names.lookup p.1 = some .local) (hl : (namesOf es).length = ds.length)
  (h : Q (uA m ((namesOf es).map (·.1)) (ds.map .d)) σ) : AsgC g k sc m σ (.Tuple es n pos) (.d (.tuple ds)) Q := AsgC.tuple he hv hl h
theorem StW.unp {es : List Expr} {n : Nat} {tpos : Pos} {e : Expr} {pos : Pos} {Q : Fl → Loc → AH → Prop} (he : es = nameEs (namesOf es)) (hv : ∀ p ∈ namesOf es, isVar sc p.1)
  (hs : ∀ env, swapsWithSole [.Tuple es n tpos] e pos.line env = pure false) (hw : ∀ env, env.scope = sc → swappedStores [.Tuple es n tpos] e env = pure Option.none)
  (h : TpW g k sc m σ e (fun as σ1 => (namesOf es).length = as.length ∧ Q .next (uA m ((namesOf es).map (·.1)) as) σ1)) : StW g k sc m σ (.Assign [.Tuple es n tpos] e pos) Q := StW.unpack he hv hs hw h
theorem lk_comp {scope : Scope} {x : Str} {a : AV} (h : scope.names.lookup x = some .free) (e : m x = some a) : compLoc scope m x = some a := by
 unfold compLoc; rw [if_pos h]; exact e
noncomputable def dsOf : List AV → Option (List PyData)
 | [] => some []
 | .d x :: r => match dsOf r with
  | some t => some (x :: t)
  | none => none
 | .r _ :: _ => none
theorem frz_of {σ : AH} : ∀ {as : List AV} {ds : List PyData}, dsOf as = some ds → FrzAll σ as ds σ
 | [], ds, h => by cases h; exact .nil
 | .d x :: r, ds, h => by
  unfold dsOf at h
  split at h
  ·rename_i t e
   cases h
   exact .d (frz_of e)
  ·cases h
 | .r _ :: _, ds, h => by cases h
end
end
section
set_option tactic.hygienic false
section
variable {K : Params → Frag} {g : G K} {k : Nat} {sc : Scope} {m : Loc} {σ : AH}
theorem SpW.mono {es : List Expr} {Q Q' : List AV → AH → Prop} (h : SpW g k sc m σ es Q) (q : ∀ a σ', Q a σ' → Q' a σ') : SpW g k sc m σ es Q' := fun A env W s pos R eo X Fm =>
 wpAny_mono (h A env W s pos R eo X Fm) (fun ww ww hh => hh.out fun W' σ' as x y z t => ⟨W', σ', as, x, y, z, q _ _ t⟩) fun ww ww x => x
structure MForm (o : Expr) (x : Str) (ap : Pos) (args : List Expr) (pos : Pos) : Prop where
 a : ∀ env, attributeBase o x env (eval o env) = eval o env
 b : (ap.endLine == pos.line) = true
 c : ∀ env, ((backTo pos (starEach args env)).all (fun x => !x.1) && (backToKw pos (keywordEach [] env)).all (fun x => x.1.isSome) && decide (args.length + ([] : List Keyword).length + (if ([] : List Keyword).isEmpty then 0 else 1) < 30)) = true
 d : ∀ env, ((backTo pos (starEach args env)).any (·.1)) = false
theorem EvW.append {o : Expr} {ap : Pos} {args : List Expr} {pos : Pos} {Q : AV → AH → Prop} (F : MForm o "append" ap args pos)
  (h : EvW g k sc m σ o (fun a σ1 => ∃ i xs, a = .r i ∧ σ1.get i = some (.list xs) ∧ SpW g k sc m σ1 args (fun as σ2 => ∃ d ys, as = [.d d] ∧ σ2.get i = some (.list ys) ∧ ys.length ≤ 10000 ∧ Q (.d .none) (σ2.set i (.list (ys ++ [d])))))) :
  EvW g k sc m σ (.Call (.Attribute o "append" ap) args [] pos) Q :=
 EvW.bmeth F.a F.b F.c F.d PySem.F.plainAttrs_list PySem.F.slot_list_append PySem.F.type_list_append (h.mono fun a σ1 hh => x2_2 hh fun i xs e h1 h2 => by
  subst e
  exact ⟨isListA h1, SpW.mono h2 fun as σ2 hh => x2_3 hh fun d ys e h3 h4 q => by subst e; exact CallW.append h3 h4 q⟩)
theorem EvW.extend {o : Expr} {ap : Pos} {args : List Expr} {pos : Pos} {Q : AV → AH → Prop} (F : MForm o "extend" ap args pos)
  (h : EvW g k sc m σ o (fun a σ1 => ∃ i xs, a = .r i ∧ σ1.get i = some (.list xs) ∧ SpW g k sc m σ1 args (fun as σ2 => ∃ j zs ys, as = [.r j] ∧ σ2.get i = some (.list ys) ∧ σ2.get j = some (.list zs) ∧ ys.length + zs.length ≤ 10000 ∧ Q (.d .none) (σ2.set i (.list (ys ++ zs)))))) :
  EvW g k sc m σ (.Call (.Attribute o "extend" ap) args [] pos) Q :=
 EvW.bmeth F.a F.b F.c F.d PySem.F.plainAttrs_list PySem.F.slot_list_extend PySem.F.type_list_extend (h.mono fun a σ1 hh => x2_2 hh fun i xs e h1 h2 => by
  subst e
  exact ⟨isListA h1, SpW.mono h2 fun as σ2 hh => x3_4 hh fun j zs ys e h3 h4 h5 q => by subst e; exact CallW.extend h3 h4 h5 q⟩)
theorem EvW.pop {o : Expr} {ap : Pos} {pos : Pos} {Q : AV → AH → Prop} (F : MForm o "pop" ap [] pos)
  (h : EvW g k sc m σ o (fun a σ1 => ∃ i xs d, a = .r i ∧ σ1.get i = some (.list xs) ∧ xs[xs.length - 1]? = some d ∧ xs.length ≤ 10000 ∧ Q (.d d) (σ1.set i (.list (xs.eraseIdx (xs.length - 1)))))) :
  EvW g k sc m σ (.Call (.Attribute o "pop" ap) [] [] pos) Q :=
 EvW.bmeth F.a F.b F.c F.d PySem.F.plainAttrs_list PySem.F.slot_list_pop PySem.F.type_list_pop (h.mono fun a σ1 hh => x3_4 hh fun i xs d e h1 h2 h3 q => by
  subst e
  exact ⟨isListA h1, sn (CallW.pop h1 h2 h3 q)⟩)
theorem EvW.pop0 {o : Expr} {ap : Pos} {args : List Expr} {pos : Pos} {Q : AV → AH → Prop} (F : MForm o "pop" ap args pos)
  (h : EvW g k sc m σ o (fun a σ1 => ∃ i d xs, a = .r i ∧ σ1.get i = some (.list (d :: xs)) ∧ xs.length ≤ 9999 ∧ SpW g k sc m σ1 args (fun as σ2 => as = [.d (.int 0)] ∧ σ2 = σ1 ∧ Q (.d d) (σ1.set i (.list xs))))) :
  EvW g k sc m σ (.Call (.Attribute o "pop" ap) args [] pos) Q :=
 EvW.bmeth F.a F.b F.c F.d PySem.F.plainAttrs_list PySem.F.slot_list_pop PySem.F.type_list_pop (h.mono fun a σ1 hh => x3_3 hh fun i d xs e h1 h2 q => by
  subst e
  exact ⟨isListA h1, SpW.mono q fun as σ2 hh => x0_2 hh fun e e2 q => by subst e e2; exact CallW.pop0 h1 (by lia) q⟩)
theorem EvW.dget {o : Expr} {ap : Pos} {args : List Expr} {pos : Pos} {Q : AV → AH → Prop} (F : MForm o "get" ap args pos)
  (h : EvW g k sc m σ o (fun a σ1 => ∃ i es, a = .r i ∧ σ1.get i = some (.dictI es) ∧ SpW g k sc m σ1 args (fun as σ2 => ∃ x dflt es', as = [.d (.int x), dflt] ∧ σ2.get i = some (.dictI es') ∧ Q ((getD es' x).getD dflt) σ2))) :
  EvW g k sc m σ (.Call (.Attribute o "get" ap) args [] pos) Q :=
 EvW.bmeth F.a F.b F.c F.d PySem.F.plainAttrs_dict PySem.F.slot_dict_get PySem.F.type_dict_get (h.mono fun a σ1 hh => x2_2 hh fun i es e h1 h2 => by
  subst e
  exact ⟨isDictI h1, SpW.mono h2 fun as σ2 hh => x3_2 hh fun x dflt es' e h3 q => by subst e; exact CallW.dget h3 q⟩)
noncomputable def WhL (g : G K) (k : Nat) (sc : Scope) (test : Expr) (body : List Stmt) (Q : Fl → Loc → AH → Prop) : Nat → Loc → AH → Prop
 | 0, _, _ => False
 | n + 1, m, σ => TsW g k sc m σ test (fun c σ1 => if c = true then ExW g k sc m σ1 body (fun f m2 σ2 => match f with | .next => WhL g k sc test body Q n m2 σ2 | .ret v => Q (.ret v) m2 σ2) else Q .next m σ1)
theorem StW.whileN {test : Expr} {body : List Stmt} {pos : Pos} {Q : Fl → Loc → AH → Prop} (n : Nat) (h : WhL g k sc test body Q n m σ) : StW g k sc m σ (.While test body [] pos) Q := by
 refine StW.while (fun n m σ => WhL g k sc test body Q n m σ) (fun n m σ h => ?_) n h
 cases n with
 | zero => exact h.elim
 | succ n =>
  refine TsW.mono h fun c σ1 h => ?_
  split
  ·rename_i hc
   rw [if_pos hc] at h
   refine ExW.mono h fun f m2 σ2 h => ?_
   cases f with
   | next => exact ⟨n, Nat.lt_succ_self n, h⟩
   | ret v => exact h
  ·rename_i hc
   rw [if_neg hc] at h
   exact h
theorem WhL.turn {test : Expr} {body : List Stmt} {Q : Fl → Loc → AH → Prop} {n : Nat} (h : TsW g k sc m σ test (fun c σ1 => if c = true then ExW g k sc m σ1 body (fun f m2 σ2 => match f with | .next => WhL g k sc test body Q n m2 σ2 | .ret v => Q (.ret v) m2 σ2) else Q .next m σ1)) : WhL g k sc test body Q (n + 1) m σ := h
end
end
section
set_option tactic.hygienic false
section
variable {K : Params → Frag} {g : G K} {k : Nat} {sc : Scope} {m : Loc} {σ : AH}
theorem VRs.lt {W : Wd} {vs : List Value} {as : List AV} (h : VRs W vs as) : ∀ a ∈ as, ∀ j, a = .r j → j < W.n := by
 induction h with
 | nil => exact fun ww h => nomatch h
 | cons h _ ih =>
  intro b hb j hj
  cases hb with
  | head => subst hj; exact h.1
  | tail _ hb => exact ih b hb j hj
theorem Ents.lt {W : Wd} {es : List DictEntry} {fs : List (Str × AV)} (h : Ents W es fs) : ∀ p ∈ fs, ∀ j, p.2 = .r j → j < W.n := by
 induction h with
 | nil => exact fun ww h => nomatch h
 | cons h _ ih =>
  intro b hb j hj
  cases hb with
  | head => dsimp only at hj; subst hj; exact h.1
  | tail _ hb => exact ih b hb j hj
theorem Abs.refs {W : Wd} {h : Heap} (X : Abs g W σ h) : ∀ i o, σ.get i = some o → match o with
   | .list _ => True
   | .dictS es => ∀ p ∈ es, ∀ j, p.2 = .r j → j < σ.next
   | .dictI es => ∀ p ∈ es, ∀ j, p.2 = .r j → j < σ.next
   | .inst _ fs => ∀ p ∈ fs, ∀ j, p.2 = .r j → j < σ.next := by
 intro i o e
 have r := X.obj i o e
 have n := X.n
 cases o with
 | list xs => exact trivial
 | dictS es =>
  (refine x0_1 r ?_; clear r; intro ww z1; refine x1_2 z1 ?_; clear z1; intro kvs ww ww z)
  intro p hp j hj
  rw [← n]; exact z.lt p.2 (List.mem_map.mpr ⟨p, hp, rfl⟩) j hj
 | dictI es =>
  (refine x0_1 r ?_; clear r; intro ww z2; refine x1_2 z2 ?_; clear z2; intro kvs ww ww z)
  intro p hp j hj
  rw [← n]; exact z.lt p.2 (List.mem_map.mpr ⟨p, hp, rfl⟩) j hj
 | inst C fs =>
  (refine x0_1 r ?_; clear r; intro ww z3; refine x2_1 z3 ?_; clear z3; intro es n' ww z)
  intro p hp j hj
  rw [← n]; exact z.lt p hp j hj
theorem CodeW.gc {f : Value} {args : List AV} {Q : AV → AH → Prop} (h : CodeW g k f args σ (fun a σ' => ∃ d, a = .d d ∧ (∀ i, i < σ.next → σ'.get i = σ.get i) ∧ Q (.d d) σ)) : CodeW g k f args σ Q := fun A W s vs R X V =>
 codeAny_mono (h A W s vs R X V) fun r s' h => by
  cases r with
  | error e => exact h
  | ok fl =>
   cases fl with
   | ret v =>
    (refine VPost.out h ?_; clear h; intro W' σ' a st p vr z4; refine x1_1 z4 ?_; clear z4; intro d z5 z6; obtain rfl := z5; refine x0_1 z6 ?_; clear z6; intro hk q)
    have hn := X.n
    refine ⟨{ W' with n := σ.next }, σ, .d d, ⟨st.abs.less (fun i o e => ?_) X.lt ?_ X.refs, ⟨st.le.F, Nat.le_of_eq hn, st.le.φ, st.le.δ⟩, st.os, st.gens⟩, p, vr, q⟩
    ·rw [hk i (X.lt i o e)]; exact e
    ·rw [← st.abs.n, ← hn]; exact st.le.n
   | _ => exact h
theorem gP {σ : AH} {o : AO} : (σ.push o).get σ.next = some o := if_pos rfl
theorem AH.get_push_old {σ : AH} {o : AO} {i : Nat} (h : i < σ.next) : (σ.push o).get i = σ.get i := if_neg (Nat.ne_of_lt h)
theorem gS {σ : AH} {i : Nat} {o : AO} : (σ.set i o).get i = some o := if_pos rfl
theorem AH.get_set_ne {σ : AH} {i j : Nat} {o : AO} (h : j ≠ i) : (σ.set i o).get j = σ.get j := if_neg h
theorem AsD.r {σ : AH} {i : Nat} {xs : List PyData} (h : σ.get i = some (.list xs)) : AsD σ (.r i) (.list xs) := ⟨xs, h, rfl⟩
theorem CmpW.eqS {x y : Str} (b : Bool) {Q : AV → AH → Prop} (sx : PySem.SeqAt.shaped (.str x) = true) (sy : PySem.SeqAt.shaped (.str y) = true) (e : PyData.eqv (.str x) (.str y) = b) (h : Q (.d (.bool b)) σ) : CmpW g k .Eq (.d (.str x)) (.d (.str y)) σ Q :=
 CmpW.eq (x := .str x) (y := .str y) rfl rfl sx sy (by rw [e]; exact h)
theorem jt {P R : Prop} (h : P) : if true = true then P else R := by rw [if_pos rfl]; exact h
theorem jf {P R : Prop} (h : R) : if false = true then P else R := by rw [if_neg Bool.false_ne_true]; exact h
theorem jd {c : Prop} [Decidable c] {P R : Prop} (hc : c) (h : P) : if decide c = true then P else R := by rw [if_pos (decide_eq_true hc)]; exact h
theorem jn {c : Prop} [Decidable c] {P R : Prop} (hc : ¬ c) (h : R) : if decide c = true then P else R := by rw [if_neg (by simpa using hc)]; exact h
end
end
section
set_option tactic.hygienic false
section
variable {K : Params → Frag} (g : G K) (k : Nat) (sc : Scope)
noncomputable abbrev KSeq (rest : List Stmt) (Q : Fl → Loc → AH → Prop) : Fl → Loc → AH → Prop := fun f m σ => match f with | .next => ExW g k sc m σ rest Q | .ret v => Q (.ret v) m σ
noncomputable abbrev KNext (N : Loc → AH → Prop) (Q : Fl → Loc → AH → Prop) : Fl → Loc → AH → Prop := fun f m σ => match f with | .next => N m σ | .ret v => Q (.ret v) m σ
noncomputable abbrev KFn (Q : AV → AH → Prop) : Fl → Loc → AH → Prop := fun f m σ => match f with | .ret a => Q a σ | .next => Q (.d .none) σ
noncomputable abbrev KBin2 (op : Operator) (a : AV) (Q : AV → AH → Prop) : AV → AH → Prop := fun b σ => BinW g k op a b σ Q
noncomputable abbrev KBin (m : Loc) (r : Expr) (op : Operator) (Q : AV → AH → Prop) : AV → AH → Prop := fun a σ => EvW g k sc m σ r (KBin2 g k op a Q)
noncomputable abbrev KCmp2 (op : CmpOp) (a : AV) (Q : AV → AH → Prop) : AV → AH → Prop := fun b σ => CmpW g k op a b σ Q
noncomputable abbrev KCmp (m : Loc) (r : Expr) (op : CmpOp) (Q : AV → AH → Prop) : AV → AH → Prop := fun a σ => EvW g k sc m σ r (KCmp2 g k op a Q)
noncomputable abbrev KSub2 (v sl : Expr) (a : AV) (Q : AV → AH → Prop) : AV → AH → Prop := fun b σ => SubW g k v sl a b σ Q
noncomputable abbrev KSub (m : Loc) (v sl : Expr) (Q : AV → AH → Prop) : AV → AH → Prop := fun a σ => EvW g k sc m σ sl (KSub2 g k v sl a Q)
noncomputable abbrev KUn (op : UnaryOp) (Q : AV → AH → Prop) : AV → AH → Prop := fun a σ => UnW g k op a σ Q
noncomputable abbrev KTr (Q : Bool → AH → Prop) : AV → AH → Prop := fun a σ => TruW g k a σ Q
noncomputable abbrev KNot (Q : Bool → AH → Prop) : Bool → AH → Prop := fun c σ => Q (!c) σ
noncomputable abbrev KNotV (Q : AV → AH → Prop) : Bool → AH → Prop := fun c σ => Q (.d (.bool (!c))) σ
noncomputable abbrev KCons (a : AV) (Q : List AV → AH → Prop) : List AV → AH → Prop := fun as σ => Q (a :: as) σ
noncomputable abbrev KSp (m : Loc) (es : List Expr) (Q : List AV → AH → Prop) : AV → AH → Prop := fun a σ => SpW g k sc m σ es (KCons a Q)
noncomputable abbrev KCall (f : Value) (Q : AV → AH → Prop) : List AV → AH → Prop := fun as σ => CallW g k f as σ Q
noncomputable abbrev KIte (m : Loc) (b o : List Stmt) (Q : Fl → Loc → AH → Prop) : Bool → AH → Prop := fun c σ => if c = true then ExW g k sc m σ b Q else ExW g k sc m σ o Q
noncomputable abbrev KIfx (m : Loc) (b o : Expr) (Q : AV → AH → Prop) : Bool → AH → Prop := fun c σ => if c = true then EvW g k sc m σ b Q else EvW g k sc m σ o Q
noncomputable abbrev KAnd2 (m : Loc) (e : Expr) (r : List Expr) (pos : Pos) (Q : AV → AH → Prop) (a : AV) : Bool → AH → Prop := fun c σ => if c = true then EvW g k sc m σ (.BoolOp .And (e :: r) pos) Q else Q a σ
noncomputable abbrev KAnd (m : Loc) (e : Expr) (r : List Expr) (pos : Pos) (Q : AV → AH → Prop) : AV → AH → Prop := fun a σ => TruW g k a σ (KAnd2 g k sc m e r pos Q a)
noncomputable abbrev KOr2 (m : Loc) (e : Expr) (r : List Expr) (pos : Pos) (Q : AV → AH → Prop) (a : AV) : Bool → AH → Prop := fun c σ => if c = true then Q a σ else EvW g k sc m σ (.BoolOp .Or (e :: r) pos) Q
noncomputable abbrev KOr (m : Loc) (e : Expr) (r : List Expr) (pos : Pos) (Q : AV → AH → Prop) : AV → AH → Prop := fun a σ => TruW g k a σ (KOr2 g k sc m e r pos Q a)
noncomputable abbrev KAndT (m : Loc) (r : List Expr) (pos : Pos) (Q : Bool → AH → Prop) : Bool → AH → Prop := fun c σ => if c = true then TsW g k sc m σ (.BoolOp .And r pos) Q else Q false σ
noncomputable abbrev KOrT (m : Loc) (r : List Expr) (pos : Pos) (Q : Bool → AH → Prop) : Bool → AH → Prop := fun c σ => if c = true then Q true σ else TsW g k sc m σ (.BoolOp .Or r pos) Q
noncomputable abbrev KRet (m : Loc) (Q : Fl → Loc → AH → Prop) : AV → AH → Prop := fun a σ => Q (.ret a) m σ
noncomputable abbrev KAsg (m : Loc) (x : Str) (Q : Fl → Loc → AH → Prop) : AV → AH → Prop := fun a σ => Q .next (upd m x a) σ
noncomputable abbrev KEx (m : Loc) (Q : Fl → Loc → AH → Prop) : AV → AH → Prop := fun a σ => loose a = true ∧ Q .next m σ
noncomputable abbrev KTup (Q : AV → AH → Prop) : List AV → AH → Prop := fun as σ => ∃ ds σ2, FrzAll σ as ds σ2 ∧ ds.length ≤ 1000 ∧ Q (.d (.tuple ds)) σ2
noncomputable abbrev KSt3 (a b : AV) (m : Loc) (Q : Fl → Loc → AH → Prop) : AV → AH → Prop := fun c σ => ∃ σ4, SetIt σ b c a σ4 ∧ Q .next m σ4
noncomputable abbrev KSt2 (m : Loc) (i : Expr) (a : AV) (Q : Fl → Loc → AH → Prop) : AV → AH → Prop := fun b σ => EvW g k sc m σ i (KSt3 a b m Q)
noncomputable abbrev KSt1 (m : Loc) (o i : Expr) (Q : Fl → Loc → AH → Prop) : AV → AH → Prop := fun a σ => EvW g k sc m σ o (KSt2 g k sc m i a Q)
noncomputable abbrev KFor (T : Expr) (body : List Stmt) (m : Loc) (Q : Fl → Loc → AH → Prop) : List PyData → AH → Prop := fun xs σ => ForL g k sc T body Q xs m σ
noncomputable abbrev KBody (body : List Stmt) (Q : Fl → Loc → AH → Prop) : Loc → AH → Prop := fun m σ => ExW g k sc m σ body Q
noncomputable abbrev KCm2 (T : Expr) (ifs : List Expr) (EM : Em) (xs : List PyData) (m : Loc) (ys : List PyData) (Q : Loc → AH → List PyData → Prop) : Bool → AH → Prop := fun ok σ => if ok = true then EM m σ ys (CompL g k sc T ifs EM Q xs) else CompL g k sc T ifs EM Q xs m σ ys
noncomputable abbrev KCm1 (T : Expr) (ifs : List Expr) (EM : Em) (xs ys : List PyData) (Q : Loc → AH → List PyData → Prop) : Loc → AH → Prop := fun m σ => IfsW g k sc m σ ifs (KCm2 g k sc T ifs EM xs m ys Q)
noncomputable abbrev KElt (m : Loc) (ys : List PyData) (Q : Loc → AH → List PyData → Prop) : AV → AH → Prop := fun a σ => ∃ y, a = .d y ∧ ys.length ≤ 10000 ∧ Q m σ (ys ++ [y])
noncomputable abbrev KLst (Q : AV → AH → Prop) : Loc → AH → List PyData → Prop := fun ww σ ys => Q (.d (.list ys)) σ
noncomputable abbrev KLstS (m : Loc) (x : Str) (Q : Fl → Loc → AH → Prop) : Loc → AH → List PyData → Prop := fun ww σ ys => Q .next (upd m x (.d (.list ys))) σ
noncomputable abbrev KCmp0 (T : Expr) (ifs : List Expr) (elt : Expr) (m : Loc) (Q : Loc → AH → List PyData → Prop) : List PyData → AH → Prop := fun xs σ => CompL g k sc T ifs (Em.elt g k sc elt) Q xs m σ []
noncomputable abbrev KSrc (Q : List PyData → AH → Prop) : AV → AH → Prop := fun a σ => ∃ xs, (a = .d (.list xs) ∨ a = .d (.tuple xs)) ∧ Q xs σ
end
section
variable {K : Params → Frag} {g : G K} {k : Nat} {sc : Scope} {m : Loc} {σ : AH}
theorem aa {st : Stmt} {rest : List Stmt} {Q : Fl → Loc → AH → Prop} (h : StW g k sc m σ st (KSeq g k sc rest Q)) : ExW g k sc m σ (st :: rest) Q := ExW.cons h
theorem aj {l r : Expr} {op : Operator} {pos : Pos} {Q : AV → AH → Prop} (h : EvW g k sc m σ l (KBin g k sc m r op Q)) : EvW g k sc m σ (.BinOp l op r pos) Q := EvW.bin h
theorem rv_cmp {l r : Expr} {op : CmpOp} {pos : Pos} {Q : AV → AH → Prop} (hm : behindInMarks op r = false) (h : EvW g k sc m σ l (KCmp g k sc m r op Q)) : EvW g k sc m σ (.Compare l [op] [r] pos) Q := EvW.cmp hm h
theorem ad {l r : Expr} {op : CmpOp} {pos : Pos} {Q : Bool → AH → Prop} (hm : behindInMarks op r = false) (h : EvW g k sc m σ l (KCmp g k sc m r op (KTr g k Q))) : TsW g k sc m σ (.Compare l [op] [r] pos) Q := TsW.cmp hm h
theorem af {v sl : Expr} {pos : Pos} {Q : AV → AH → Prop} (h : EvW g k sc m σ v (KSub g k sc m v sl Q)) : EvW g k sc m σ (.Subscript v sl pos) Q := EvW.sub h
theorem rv_un {e : Expr} {op : UnaryOp} {pos : Pos} {Q : AV → AH → Prop} (h : EvW g k sc m σ e (KUn g k op Q)) : EvW g k sc m σ (.UnaryOp op e pos) Q := EvW.un h
theorem ru_not {a : AV} {Q : AV → AH → Prop} (h : TruW g k a σ (KNotV Q)) : UnW g k .Not a σ Q := UnW.not h
theorem rt_not {e : Expr} {pos : Pos} {Q : Bool → AH → Prop} (h : TsW g k sc m σ e (KNot Q)) : TsW g k sc m σ (.UnaryOp .Not e pos) Q := TsW.not h
theorem rt_plain {e : Expr} {Q : Bool → AH → Prop} (he : ∀ (env : Env) (whole : Sem Value), isTrue e env whole = (do let v ← whole; standAt e.pos; holding [v] (truthy v))) (h : EvW g k sc m σ e (KTr g k Q)) : TsW g k sc m σ e Q := TsW.plain he h
theorem rs_cons {e : Expr} {es : List Expr} {Q : List AV → AH → Prop} (he : ∀ env : Env, starEach (e :: es) env = (false, eval e env) :: starEach es env) (h : EvW g k sc m σ e (KSp g k sc m es Q)) : SpW g k sc m σ (e :: es) Q := SpW.cons he h
theorem ri {t : Expr} {b o : List Stmt} {pos : Pos} {Q : Fl → Loc → AH → Prop} (h : TsW g k sc m σ t (KIte g k sc m b o Q)) : StW g k sc m σ (.If t b o pos) Q := StW.ite h
theorem rv_ifx {t b o : Expr} {pos : Pos} {Q : AV → AH → Prop} (h : TsW g k sc m σ t (KIfx g k sc m b o Q)) : EvW g k sc m σ (.IfExp t b o pos) Q := EvW.ifx h
theorem rv_and {e e' : Expr} {r : List Expr} {pos : Pos} {Q : AV → AH → Prop} (h : EvW g k sc m σ e (KAnd g k sc m e' r pos Q)) : EvW g k sc m σ (.BoolOp .And (e :: e' :: r) pos) Q := EvW.and h
theorem rv_or {e e' : Expr} {r : List Expr} {pos : Pos} {Q : AV → AH → Prop} (h : EvW g k sc m σ e (KOr g k sc m e' r pos Q)) : EvW g k sc m σ (.BoolOp .Or (e :: e' :: r) pos) Q := EvW.or h
theorem rt_and {e : Expr} {r : List Expr} {pos : Pos} {Q : Bool → AH → Prop} (h : TsW g k sc m σ e (KAndT g k sc m r pos Q)) : TsW g k sc m σ (.BoolOp .And (e :: r) pos) Q := TsW.and h
theorem rt_or {e : Expr} {r : List Expr} {pos : Pos} {Q : Bool → AH → Prop} (h : TsW g k sc m σ e (KOrT g k sc m r pos Q)) : TsW g k sc m σ (.BoolOp .Or (e :: r) pos) Q := TsW.or h
theorem ag {e : Expr} {pos : Pos} {Q : Fl → Loc → AH → Prop} (h : EvW g k sc m σ e (KRet m Q)) : StW g k sc m σ (.Return (some e) pos) Q := StW.ret h
theorem rw_expr {e : Expr} {pos : Pos} {Q : Fl → Loc → AH → Prop} (hs : ∀ env, swapsWith e Option.none pos.line env = pure false) (h : EvW g k sc m σ e (KEx m Q)) : StW g k sc m σ (.Expr e pos) Q := StW.expr hs h
theorem rw_set {o i : Expr} {sp : Pos} {e : Expr} {pos : Pos} {Q : Fl → Loc → AH → Prop} (hs : ∀ env, swapsWith e (some (.Subscript o i sp)) pos.line env = pure false)
  (h : EvW g k sc m σ e (KSt1 g k sc m o i Q)) : StW g k sc m σ (.Assign [.Subscript o i sp] e pos) Q := StW.setitem hs h
theorem ai {es : List Expr} {n : Nat} {pos : Pos} {Q : AV → AH → Prop} (h : SpW g k sc m σ es (KTup Q)) : EvW g k sc m σ (.Tuple es n pos) Q := EvW.tup h
theorem rf_cons {T : Expr} {body : List Stmt} {Q : Fl → Loc → AH → Prop} {d : PyData} {xs : List PyData} (h : AsgW g k sc m σ T (.d d) (KBody g k sc body (KNext (ForL g k sc T body Q xs) Q))) : ForL g k sc T body Q (d :: xs) m σ := h
theorem rw_for {T iter : Expr} {body : List Stmt} {pos : Pos} {Q : Fl → Loc → AH → Prop} (hfree : ∀ x, sc.names.lookup x ≠ some .free) (hs : ∀ env x, foldedSetIterable iter env x = pure x) (h : SrcW g k sc m σ iter T (KFor g k sc T body m Q)) : StW g k sc m σ (.For T iter body [] pos) Q := StW.for hfree hs h
theorem rc_cons {T : Expr} {ifs : List Expr} {EM : Em} {Q : Loc → AH → List PyData → Prop} {d : PyData} {xs ys : List PyData} (h : AsgC g k sc m σ T (.d d) (KCm1 g k sc T ifs EM xs ys Q)) : CompL g k sc T ifs EM Q (d :: xs) m σ ys := h
theorem rc_elt {elt : Expr} {ys : List PyData} {Q : Loc → AH → List PyData → Prop} (h : EvW g k sc m σ elt (KElt m ys Q)) : Em.elt g k sc elt m σ ys Q := h
theorem rv_comp {elt : Expr} {cscope : Scope} {cpos : Pos} {T iter : Expr} {ifs : List Expr} {Q : AV → AH → Prop} (hO : compOk cscope sc = true) (hs : ∀ env x, foldedSetIterable iter env x = pure x)
  (h : SrcW g k sc m σ iter T (KCmp0 g k (relab cscope sc) T ifs elt (compLoc cscope m) (KLst Q))) : EvW g k sc m σ (.ListComp elt [⟨T, iter, ifs, 0⟩] cscope cpos) Q := EvW.compE hO hs h
theorem rw_comp {x : Str} {p : Pos} {pos : Pos} {elt : Expr} {cscope : Scope} {cpos : Pos} {T iter : Expr} {ifs : List Expr} {Q : Fl → Loc → AH → Prop}
  (hsw : ∀ env, env.scope = sc → swapsWith (.ListComp elt [⟨T, iter, ifs, 0⟩] cscope cpos) (some (.Name x p)) pos.line env = pure true) (hx : sc.names.lookup x = some .local) (hfree : ∀ x, sc.names.lookup x ≠ some .free)
  (hO : compOk cscope sc = true) (hs : ∀ env x, foldedSetIterable iter env x = pure x)
  (h : SrcW g k sc m σ iter T (KCmp0 g k (relab cscope sc) T ifs elt (compLoc cscope m) (KLstS m x Q))) : StW g k sc m σ (.Assign [.Name x p] (.ListComp elt [⟨T, iter, ifs, 0⟩] cscope cpos) pos) Q := StW.compE hsw hx hfree hO hs h
theorem tup_of {as : List AV} {ds : List PyData} {Q : AV → AH → Prop} (h : dsOf as = some ds) (hl : ds.length ≤ 1000) (q : Q (.d (.tuple ds)) σ) : KTup Q as σ := ⟨ds, σ, frz_of h, hl, q⟩
theorem src_of {e T : Expr} {Q : List PyData → AH → Prop} (h : EvW g k sc m σ e (KSrc Q)) : SrcW g k sc m σ e T Q := SrcW.data h
end
end
section
set_option tactic.hygienic false
noncomputable abbrev P0 : Program := PySem.Challenge.pw_ok0092_01
noncomputable def tA (i : Nat) : Stmt := (P0.main.body[i]?).getD (.Pass default)
noncomputable def sA : Stmt → Nat → Stmt
 | .ClassDef _ _ _ b _ _ _ _ _ _ _, j => (b[j]?).getD (.Pass default)
 | s, _ => s
noncomputable def fnO (s : Stmt) (qual pm : Str) (tk : Tok) (code : Addr) : Obj := match s with
 | .FunctionDef name args body _ _ _ scope _ _ _ => ⟨.type "function", none, .func { name := name, qualname := qual, params := args, body := .stmts body, scope := scope, globals := 3, closure := [], defaults := .none, kwdefaults := .none, pyModule := .str pm tk, code := .ref code }, #[]⟩
 | _ => default
noncomputable def en (P : Params) (x : Str) (t : Tok) (v : Value) : DictEntry := ⟨PyData.keyHash P x, .str x t, v⟩
noncomputable def cdR (x q : Str) (t l n a y : Nat) : Obj := ⟨.type "code", none, .fields #[.str x t, .str q (t + 1), .str "/claim/cut.py" (t + 2), .int l 0, .int n 0, .int 0 0, .int 0 0, .int 3 0, .ref a, .bool true, .int 181 0, .ref (a + 1), .none, .ref (a + 2), .ref (a + 3), .ref (a + 4), .int y 0, .int l 0, .str "/claim/cut.py" (y + 1)], #[]⟩
noncomputable def cdN (x q : Str) (t l n a y : Nat) : Obj := ⟨.type "code", none, .fields #[.str x t, .str q (t + 1), .str "/claim/cut.py" (t + 2), .int l 0, .int n 0, .int 0 0, .int 0 0, .int 3 0, .ref a, .bool true, .int 181 0, .ref (a + 1), .none, .none, .none, .ref (a + 2), .int y 0, .int l 0, .str "/claim/cut.py" (y + 1)], #[]⟩
noncomputable def ob2 (P : Params) : Obj := ⟨.none, none, .dict #[] 0, #[]⟩
noncomputable def ob3 (P : Params) : Obj := ⟨(.type "dict"), none, .dict (#[(en P "__name__" 165 (.str "law_ok0092_01" 1009)), (en P "__doc__" 166 .none), (en P "__package__" 167 .none), (en P "__loader__" 168 (.builtin "__main__.__loader__#opaque")), (en P "__spec__" 169 .none), (en P "__annotations__" 170 (.ref 6)), (en P "__builtins__" 171 (.ref 4)), (en P "__file__" 173 (.str "/claim/cut.py" 172)), (en P "__cached__" 174 .none), (en P "_wall" 193 (.ref 21)), (en P "least" 202 (.ref 28)), (en P "greatest" 209 (.ref 35)), (en P "next_from" 219 (.ref 42)), (en P "has" 227 (.ref 49)), (en P "has_domains" 228 (.ref 49)), (en P "up_to" 234 (.ref 54)), (en P "from_on" 240 (.ref 59)), (en P "without" 248 (.ref 66)), (en P "meet" 261 (.ref 73)), (en P "negation" 271 (.ref 80)), (en P "struck" 281 (.ref 87)), (en P "said_of" 290 (.ref 94)), (en P "Store" 485 (.ref 244)), (en P "Propagator" 540 (.ref 286)), (en P "is_one" 549 (.ref 297)), (en P "is_nought" 556 (.ref 304)), (en P "ClauseOf" 603 (.ref 338)), (en P "Joint" 640 (.ref 362)), (en P "AllOf" 677 (.ref 393)), (en P "AnyOf" 714 (.ref 424)), (en P "Xor" 765 (.ref 462)), (en P "Row" 896 (.ref 541)), (en P "Implied" 948 (.ref 583)), (en P "Reified" 998 (.ref 623)), (en P "logic_rule" 1008 (.ref 632)), (en P "_law_take" 1018 (.ref 639)), (en P "_law_places" 1028 (.ref 646)), (en P "_law_data" 1034 (.ref 651)), (en P "_law_lets" 1040 (.ref 656)), (en P "_law_open" 1046 (.ref 661)), (en P "_law_sought" 1058 (.ref 668)), (en P "_law_is_made" 1064 (.ref 673)), (en P "law" 1073 (.ref 680))]) 43, #[]⟩
noncomputable def ob243 (P : Params) : Obj := ⟨(.type "dict"), none, .dict (#[(en P "__module__" 300 (.str "fdsolve.store" 291)), (en P "__firstlineno__" 304 (.int (54) 303)), (en P "__init__" 311 (.ref 108)), (en P "new_var" 319 (.ref 115)), (en P "size" 326 (.ref 122)), (en P "dom" 334 (.ref 129)), (en P "initial" 342 (.ref 136)), (en P "low" 350 (.ref 143)), (en P "high" 358 (.ref 150)), (en P "has" 367 (.ref 157)), (en P "is_fixed" 376 (.ref 164)), (en P "value" 384 (.ref 171)), (en P "width" 392 (.ref 178)), (en P "holds" 400 (.ref 185)), (en P "enter" 413 (.ref 192)), (en P "strike" 422 (.ref 199)), (en P "decide" 430 (.ref 206)), (en P "fail" 438 (.ref 213)), (en P "push" 445 (.ref 220)), (en P "pop" 455 (.ref 227)), (en P "depth" 462 (.ref 234)), (en P "changed" 469 (.ref 241)), (en P "__static_attributes__" 478 (.ref 242)), (en P "__dict__" 480 (.ref 245)), (en P "__weakref__" 482 (.ref 246)), (en P "__doc__" 483 .none)]) 4, #[]⟩
noncomputable def ob244 (P : Params) : Obj := ⟨(.type "type"), none, .cls ⟨("Store" : Str), [(.type "object")], [(.ref 244), (.type "object")], 243, ("Store" : Str), true, [], [], false, none, false⟩, (#[none, none, some (.str "Store" 293), some (.str "Store" 301), some (.builtin "object.__new__"), some (.bool true)])⟩
noncomputable def ob285 (P : Params) : Obj := ⟨(.type "dict"), none, .dict (#[(en P "__module__" 493 (.str "fdsolve.store" 291)), (en P "__firstlineno__" 497 (.int (148) 496)), (en P "__init__" 506 (.ref 262)), (en P "propagate" 514 (.ref 269)), (en P "check" 522 (.ref 276)), (en P "told" 529 (.ref 283)), (en P "__static_attributes__" 533 (.ref 284)), (en P "__dict__" 535 (.ref 287)), (en P "__weakref__" 537 (.ref 288)), (en P "__doc__" 538 .none)]) 4, #[]⟩
noncomputable def ob286 (P : Params) : Obj := ⟨(.type "type"), none, .cls ⟨("Propagator" : Str), [(.type "object")], [(.ref 286), (.type "object")], 285, ("Propagator" : Str), true, [], [(.ref 338), (.ref 362), (.ref 462), (.ref 583)], false, none, false⟩, (#[none, none, some (.str "Propagator" 486), some (.str "Propagator" 494), some (.builtin "object.__new__"), some (.bool true)])⟩
noncomputable def ob337 (P : Params) : Obj := ⟨(.type "dict"), none, .dict (#[(en P "__module__" 564 (.str "fdsolve.logic" 541)), (en P "__firstlineno__" 568 (.int (168) 567)), (en P "__init__" 574 (.ref 316)), (en P "propagate" 580 (.ref 321)), (en P "check" 589 (.ref 328)), (en P "told" 596 (.ref 335)), (en P "__static_attributes__" 600 (.ref 336)), (en P "__doc__" 601 .none)]) 2, #[]⟩
noncomputable def ob338 (P : Params) : Obj := ⟨(.type "type"), none, .cls ⟨("ClauseOf" : Str), [(.ref 286)], [(.ref 338), (.ref 286), (.type "object")], 337, ("ClauseOf" : Str), true, [], [], false, none, false⟩, (#[some (.ref 305), none, some (.str "ClauseOf" 557), some (.str "ClauseOf" 565), some (.builtin "object.__new__"), some (.bool true)])⟩
noncomputable def ob361 (P : Params) : Obj := ⟨(.type "dict"), none, .dict (#[(en P "__module__" 611 (.str "fdsolve.logic" 541)), (en P "__firstlineno__" 615 (.int (198) 614)), (en P "__init__" 626 (.ref 354)), (en P "propagate" 632 (.ref 359)), (en P "__static_attributes__" 637 (.ref 360)), (en P "__doc__" 638 .none)]) 2, #[]⟩
noncomputable def ob362 (P : Params) : Obj := ⟨(.type "type"), none, .cls ⟨("Joint" : Str), [(.ref 286)], [(.ref 362), (.ref 286), (.type "object")], 361, ("Joint" : Str), true, [], [(.ref 393), (.ref 424)], false, none, false⟩, (#[some (.ref 341), none, some (.str "Joint" 604), some (.str "Joint" 612), some (.builtin "object.__new__"), some (.bool true)])⟩
noncomputable def ob392 (P : Params) : Obj := ⟨(.type "dict"), none, .dict (#[(en P "__module__" 648 (.str "fdsolve.logic" 541)), (en P "__firstlineno__" 652 (.int (226) 651)), (en P "__init__" 658 (.ref 376)), (en P "check" 666 (.ref 383)), (en P "told" 673 (.ref 390)), (en P "__static_attributes__" 674 (.ref 391)), (en P "__doc__" 675 .none)]) 2, #[]⟩
noncomputable def ob393 (P : Params) : Obj := ⟨(.type "type"), none, .cls ⟨("AllOf" : Str), [(.ref 362)], [(.ref 393), (.ref 362), (.ref 286), (.type "object")], 392, ("AllOf" : Str), true, [], [], false, none, false⟩, (#[some (.ref 365), none, some (.str "AllOf" 641), some (.str "AllOf" 649), some (.builtin "object.__new__"), some (.bool true)])⟩
noncomputable def ob423 (P : Params) : Obj := ⟨(.type "dict"), none, .dict (#[(en P "__module__" 685 (.str "fdsolve.logic" 541)), (en P "__firstlineno__" 689 (.int (236) 688)), (en P "__init__" 695 (.ref 407)), (en P "check" 703 (.ref 414)), (en P "told" 710 (.ref 421)), (en P "__static_attributes__" 711 (.ref 422)), (en P "__doc__" 712 .none)]) 2, #[]⟩
noncomputable def ob424 (P : Params) : Obj := ⟨(.type "type"), none, .cls ⟨("AnyOf" : Str), [(.ref 362)], [(.ref 424), (.ref 362), (.ref 286), (.type "object")], 423, ("AnyOf" : Str), true, [], [], false, none, false⟩, (#[some (.ref 396), none, some (.str "AnyOf" 678), some (.str "AnyOf" 686), some (.builtin "object.__new__"), some (.bool true)])⟩
noncomputable def ob461 (P : Params) : Obj := ⟨(.type "dict"), none, .dict (#[(en P "__module__" 722 (.str "fdsolve.logic" 541)), (en P "__firstlineno__" 726 (.int (246) 725)), (en P "__init__" 732 (.ref 438)), (en P "propagate" 745 (.ref 445)), (en P "check" 753 (.ref 452)), (en P "told" 760 (.ref 459)), (en P "__static_attributes__" 762 (.ref 460)), (en P "__doc__" 763 .none)]) 2, #[]⟩
noncomputable def ob462 (P : Params) : Obj := ⟨(.type "type"), none, .cls ⟨("Xor" : Str), [(.ref 286)], [(.ref 462), (.ref 286), (.type "object")], 461, ("Xor" : Str), true, [], [], false, none, false⟩, (#[some (.ref 427), none, some (.str "Xor" 715), some (.str "Xor" 723), some (.builtin "object.__new__"), some (.bool true)])⟩
noncomputable def ob540 (P : Params) : Obj := ⟨(.type "dict"), none, .dict (#[(en P "__module__" 773 (.str "fdsolve.logic" 541)), (en P "__firstlineno__" 777 (.int (274) 776)), (en P "__init__" 783 (.ref 476)), (en P "turned" 789 (.ref 481)), (en P "least" 795 (.ref 486)), (en P "bounds" 808 (.ref 493)), (en P "press" 825 (.ref 500)), (en P "ends" 831 (.ref 505)), (en P "last" 844 (.ref 512)), (en P "part" 856 (.ref 519)), (en P "impose" 866 (.ref 526)), (en P "barred" 879 (.ref 533)), (en P "holds" 885 (.ref 538)), (en P "__static_attributes__" 889 (.ref 539)), (en P "__dict__" 891 (.ref 542)), (en P "__weakref__" 893 (.ref 543)), (en P "__doc__" 894 .none)]) 4, #[]⟩
noncomputable def ob541 (P : Params) : Obj := ⟨(.type "type"), none, .cls ⟨("Row" : Str), [(.type "object")], [(.ref 541), (.type "object")], 540, ("Row" : Str), true, [], [], false, none, false⟩, (#[none, none, some (.str "Row" 766), some (.str "Row" 774), some (.builtin "object.__new__"), some (.bool true)])⟩
noncomputable def ob582 (P : Params) : Obj := ⟨(.type "dict"), none, .dict (#[(en P "__module__" 904 (.str "fdsolve.logic" 541)), (en P "__firstlineno__" 908 (.int (367) 907)), (en P "__init__" 917 (.ref 559)), (en P "propagate" 926 (.ref 566)), (en P "check" 934 (.ref 573)), (en P "told" 941 (.ref 580)), (en P "__static_attributes__" 945 (.ref 581)), (en P "__doc__" 946 .none)]) 2, #[]⟩
noncomputable def ob583 (P : Params) : Obj := ⟨(.type "type"), none, .cls ⟨("Implied" : Str), [(.ref 286)], [(.ref 583), (.ref 286), (.type "object")], 582, ("Implied" : Str), true, [], [(.ref 623)], false, none, false⟩, (#[some (.ref 546), none, some (.str "Implied" 897), some (.str "Implied" 905), some (.builtin "object.__new__"), some (.bool true)])⟩
noncomputable def ob622 (P : Params) : Obj := ⟨(.type "dict"), none, .dict (#[(en P "__module__" 956 (.str "fdsolve.logic" 541)), (en P "__firstlineno__" 960 (.int (388) 959)), (en P "__init__" 969 (.ref 599)), (en P "propagate" 978 (.ref 606)), (en P "check" 986 (.ref 613)), (en P "told" 993 (.ref 620)), (en P "__static_attributes__" 995 (.ref 621)), (en P "__doc__" 996 .none)]) 2, #[]⟩
noncomputable def ob623 (P : Params) : Obj := ⟨(.type "type"), none, .cls ⟨("Reified" : Str), [(.ref 583)], [(.ref 623), (.ref 583), (.ref 286), (.type "object")], 622, ("Reified" : Str), true, [], [], false, none, false⟩, (#[some (.ref 586), none, some (.str "Reified" 949), some (.str "Reified" 957), some (.builtin "object.__new__"), some (.bool true)])⟩
noncomputable def KK (P : Params) : Frag := [(2, ob2 P), (3, ob3 P), (20, cdR "_wall" "_wall" 187 1 1 15 191), (21, fnO (tA 0) "_wall" "__main__" 164 20), (27, cdR "least" "least" 196 5 1 22 200), (28, fnO (tA 2) "least" "fdsolve.domains" 194 27), (34, cdR "greatest" "greatest" 203 7 1 29 207), (35, fnO (tA 3) "greatest" "fdsolve.domains" 194 34), (41, cdR "next_from" "next_from" 210 9 2 36 217), (42, fnO (tA 4) "next_from" "fdsolve.domains" 194 41), (48, cdR "has" "has" 220 14 2 43 225), (49, fnO (tA 5) "has" "fdsolve.domains" 194 48), (53, cdN "up_to" "up_to" 229 17 2 50 232), (54, fnO (tA 7) "up_to" "fdsolve.domains" 194 53), (58, cdN "from_on" "from_on" 235 19 2 55 238), (59, fnO (tA 8) "from_on" "fdsolve.domains" 194 58), (65, cdR "without" "without" 241 21 2 60 246), (66, fnO (tA 9) "without" "fdsolve.domains" 194 65), (72, cdR "meet" "meet" 249 23 2 67 259), (73, fnO (tA 10) "meet" "fdsolve.domains" 194 72), (79, cdR "negation" "negation" 262 34 1 74 269), (80, fnO (tA 11) "negation" "fdsolve.domains" 194 79), (86, cdR "struck" "struck" 272 41 2 81 279), (87, fnO (tA 12) "struck" "fdsolve.domains" 194 86), (93, cdR "said_of" "said_of" 282 48 2 88 288), (94, fnO (tA 13) "said_of" "fdsolve.domains" 194 93), (107, cdR "__init__" "Store.__init__" 305 56 1 102 309), (108, fnO (sA (tA 15) 0) "Store.__init__" "fdsolve.store" 291 107), (114, cdR "new_var" "Store.new_var" 312 66 2 109 317), (115, fnO (sA (tA 15) 1) "Store.new_var" "fdsolve.store" 291 114), (121, cdR "size" "Store.size" 320 73 1 116 324), (122, fnO (sA (tA 15) 2) "Store.size" "fdsolve.store" 291 121), (128, cdR "dom" "Store.dom" 327 76 2 123 332), (129, fnO (sA (tA 15) 3) "Store.dom" "fdsolve.store" 291 128), (135, cdR "initial" "Store.initial" 335 79 2 130 340), (136, fnO (sA (tA 15) 4) "Store.initial" "fdsolve.store" 291 135), (142, cdR "low" "Store.low" 343 82 2 137 348), (143, fnO (sA (tA 15) 5) "Store.low" "fdsolve.store" 291 142), (149, cdR "high" "Store.high" 351 85 2 144 356), (150, fnO (sA (tA 15) 6) "Store.high" "fdsolve.store" 291 149), (156, cdR "has" "Store.has" 359 88 3 151 365), (157, fnO (sA (tA 15) 7) "Store.has" "fdsolve.store" 291 156), (163, cdR "is_fixed" "Store.is_fixed" 368 91 2 158 374), (164, fnO (sA (tA 15) 8) "Store.is_fixed" "fdsolve.store" 291 163), (170, cdR "value" "Store.value" 377 95 2 165 382), (171, fnO (sA (tA 15) 9) "Store.value" "fdsolve.store" 291 170), (177, cdR "width" "Store.width" 385 98 2 172 390), (178, fnO (sA (tA 15) 10) "Store.width" "fdsolve.store" 291 177), (184, cdR "holds" "Store.holds" 393 101 2 179 398), (185, fnO (sA (tA 15) 11) "Store.holds" "fdsolve.store" 291 184), (191, cdR "enter" "Store.enter" 401 104 4 186 411), (192, fnO (sA (tA 15) 12) "Store.enter" "fdsolve.store" 291 191), (198, cdR "strike" "Store.strike" 414 117 3 193 420), (199, fnO (sA (tA 15) 13) "Store.strike" "fdsolve.store" 291 198), (205, cdR "decide" "Store.decide" 423 120 2 200 428), (206, fnO (sA (tA 15) 14) "Store.decide" "fdsolve.store" 291 205), (212, cdR "fail" "Store.fail" 431 123 2 207 436), (213, fnO (sA (tA 15) 15) "Store.fail" "fdsolve.store" 291 212), (219, cdR "push" "Store.push" 439 128 1 214 443), (220, fnO (sA (tA 15) 16) "Store.push" "fdsolve.store" 291 219), (226, cdR "pop" "Store.pop" 446 131 2 221 453), (227, fnO (sA (tA 15) 17) "Store.pop" "fdsolve.store" 291 226), (233, cdR "depth" "Store.depth" 456 143 1 228 460), (234, fnO (sA (tA 15) 18) "Store.depth" "fdsolve.store" 291 233), (240, cdR "changed" "Store.changed" 463 146 1 235 467), (241, fnO (sA (tA 15) 19) "Store.changed" "fdsolve.store" 291 240), (243, ob243 P), (244, ob244 P), (261, cdR "__init__" "Propagator.__init__" 498 150 3 256 504), (262, fnO (sA (tA 16) 0) "Propagator.__init__" "fdsolve.store" 291 261), (268, cdR "propagate" "Propagator.propagate" 507 155 2 263 512), (269, fnO (sA (tA 16) 1) "Propagator.propagate" "fdsolve.store" 291 268), (275, cdR "check" "Propagator.check" 515 158 2 270 520), (276, fnO (sA (tA 16) 2) "Propagator.check" "fdsolve.store" 291 275), (282, cdR "told" "Propagator.told" 523 161 1 277 527), (283, fnO (sA (tA 16) 3) "Propagator.told" "fdsolve.store" 291 282), (285, ob285 P), (286, ob286 P), (296, cdR "is_one" "is_one" 543 164 1 291 547), (297, fnO (tA 18) "is_one" "fdsolve.logic" 541 296), (303, cdR "is_nought" "is_nought" 550 166 1 298 554), (304, fnO (tA 19) "is_nought" "fdsolve.logic" 541 303), (315, cdN "__init__" "ClauseOf.__init__" 569 170 3 312 572), (316, fnO (sA (tA 20) 0) "ClauseOf.__init__" "fdsolve.logic" 541 315), (320, cdN "propagate" "ClauseOf.propagate" 575 179 2 317 578), (321, fnO (sA (tA 20) 1) "ClauseOf.propagate" "fdsolve.logic" 541 320), (327, cdR "check" "ClauseOf.check" 581 192 2 322 587), (328, fnO (sA (tA 20) 2) "ClauseOf.check" "fdsolve.logic" 541 327), (334, cdR "told" "ClauseOf.told" 590 196 1 329 594), (335, fnO (sA (tA 20) 3) "ClauseOf.told" "fdsolve.logic" 541 334), (337, ob337 P), (338, ob338 P), (353, cdR "__init__" "Joint.__init__" 616 200 5 348 624), (354, fnO (sA (tA 21) 0) "Joint.__init__" "fdsolve.logic" 541 353), (358, cdN "propagate" "Joint.propagate" 627 207 2 355 630), (359, fnO (sA (tA 21) 1) "Joint.propagate" "fdsolve.logic" 541 358), (361, ob361 P), (362, ob362 P), (375, cdN "__init__" "AllOf.__init__" 653 228 3 372 656), (376, fnO (sA (tA 22) 0) "AllOf.__init__" "fdsolve.logic" 541 375), (382, cdR "check" "AllOf.check" 659 231 2 377 664), (383, fnO (sA (tA 22) 1) "AllOf.check" "fdsolve.logic" 541 382), (389, cdR "told" "AllOf.told" 667 234 1 384 671), (390, fnO (sA (tA 22) 2) "AllOf.told" "fdsolve.logic" 541 389), (392, ob392 P), (393, ob393 P), (406, cdN "__init__" "AnyOf.__init__" 690 238 3 403 693), (407, fnO (sA (tA 23) 0) "AnyOf.__init__" "fdsolve.logic" 541 406), (413, cdR "check" "AnyOf.check" 696 241 2 408 701), (414, fnO (sA (tA 23) 1) "AnyOf.check" "fdsolve.logic" 541 413), (420, cdR "told" "AnyOf.told" 704 244 1 415 708), (421, fnO (sA (tA 23) 2) "AnyOf.told" "fdsolve.logic" 541 420), (423, ob423 P), (424, ob424 P), (437, cdN "__init__" "Xor.__init__" 727 248 4 434 730), (438, fnO (sA (tA 24) 0) "Xor.__init__" "fdsolve.logic" 541 437), (444, cdR "propagate" "Xor.propagate" 733 254 2 439 743), (445, fnO (sA (tA 24) 1) "Xor.propagate" "fdsolve.logic" 541 444), (451, cdR "check" "Xor.check" 746 269 2 446 751), (452, fnO (sA (tA 24) 2) "Xor.check" "fdsolve.logic" 541 451), (458, cdR "told" "Xor.told" 754 272 1 453 758), (459, fnO (sA (tA 24) 3) "Xor.told" "fdsolve.logic" 541 458), (461, ob461 P), (462, ob462 P), (475, cdN "__init__" "Row.__init__" 778 276 5 472 781), (476, fnO (sA (tA 25) 0) "Row.__init__" "fdsolve.logic" 541 475), (480, cdN "turned" "Row.turned" 784 284 1 477 787), (481, fnO (sA (tA 25) 1) "Row.turned" "fdsolve.logic" 541 480), (485, cdN "least" "Row.least" 790 290 3 482 793), (486, fnO (sA (tA 25) 2) "Row.least" "fdsolve.logic" 541 485), (492, cdR "bounds" "Row.bounds" 796 293 4 487 806), (493, fnO (sA (tA 25) 3) "Row.bounds" "fdsolve.logic" 541 492), (499, cdR "press" "Row.press" 809 300 4 494 823), (500, fnO (sA (tA 25) 4) "Row.press" "fdsolve.logic" 541 499), (504, cdN "ends" "Row.ends" 826 312 2 501 829), (505, fnO (sA (tA 25) 5) "Row.ends" "fdsolve.logic" 541 504), (511, cdR "last" "Row.last" 832 315 2 506 842), (512, fnO (sA (tA 25) 6) "Row.last" "fdsolve.logic" 541 511), (518, cdR "part" "Row.part" 845 325 3 513 854), (519, fnO (sA (tA 25) 7) "Row.part" "fdsolve.logic" 541 518), (525, cdR "impose" "Row.impose" 857 333 3 520 864), (526, fnO (sA (tA 25) 8) "Row.impose" "fdsolve.logic" 541 525), (532, cdR "barred" "Row.barred" 867 345 2 527 877), (533, fnO (sA (tA 25) 9) "Row.barred" "fdsolve.logic" 541 532), (537, cdN "holds" "Row.holds" 880 362 2 534 883), (538, fnO (sA (tA 25) 10) "Row.holds" "fdsolve.logic" 541 537), (540, ob540 P), (541, ob541 P), (558, cdR "__init__" "Implied.__init__" 909 369 3 553 915), (559, fnO (sA (tA 26) 0) "Implied.__init__" "fdsolve.logic" 541 558), (565, cdR "propagate" "Implied.propagate" 918 375 2 560 924), (566, fnO (sA (tA 26) 1) "Implied.propagate" "fdsolve.logic" 541 565), (572, cdR "check" "Implied.check" 927 383 2 567 932), (573, fnO (sA (tA 26) 2) "Implied.check" "fdsolve.logic" 541 572), (579, cdR "told" "Implied.told" 935 386 1 574 939), (580, fnO (sA (tA 26) 3) "Implied.told" "fdsolve.logic" 541 579), (582, ob582 P), (583, ob583 P), (598, cdR "__init__" "Reified.__init__" 961 390 3 593 967), (599, fnO (sA (tA 27) 0) "Reified.__init__" "fdsolve.logic" 541 598), (605, cdR "propagate" "Reified.propagate" 970 394 2 600 976), (606, fnO (sA (tA 27) 1) "Reified.propagate" "fdsolve.logic" 541 605), (612, cdR "check" "Reified.check" 979 405 2 607 984), (613, fnO (sA (tA 27) 2) "Reified.check" "fdsolve.logic" 541 612), (619, cdR "told" "Reified.told" 987 408 1 614 991), (620, fnO (sA (tA 27) 3) "Reified.told" "fdsolve.logic" 541 619), (622, ob622 P), (623, ob623 P), (631, cdR "logic_rule" "logic_rule" 1001 411 1 626 1006), (632, fnO (tA 29) "logic_rule" "fdsolve.solver" 999 631), (638, cdR "_law_take" "_law_take" 1011 425 2 633 1016), (639, fnO (tA 31) "_law_take" "law_ok0092_01" 1009 638), (645, cdR "_law_places" "_law_places" 1019 431 3 640 1026), (646, fnO (tA 32) "_law_places" "law_ok0092_01" 1009 645), (650, cdN "_law_data" "_law_data" 1029 436 1 647 1032), (651, fnO (tA 33) "_law_data" "law_ok0092_01" 1009 650), (655, cdN "_law_lets" "_law_lets" 1035 454 2 652 1038), (656, fnO (tA 34) "_law_lets" "law_ok0092_01" 1009 655), (660, cdN "_law_open" "_law_open" 1041 467 2 657 1044), (661, fnO (tA 35) "_law_open" "law_ok0092_01" 1009 660), (667, cdR "_law_sought" "_law_sought" 1047 469 3 662 1056), (668, fnO (tA 36) "_law_sought" "law_ok0092_01" 1009 667), (672, cdN "_law_is_made" "_law_is_made" 1059 479 1 669 1062), (673, fnO (tA 37) "_law_is_made" "law_ok0092_01" 1009 672), (679, cdR "law" "law" 1065 496 1 674 1071), (680, fnO (tA 38) "law" "law_ok0092_01" 1009 679)]
noncomputable def KA : List Addr := [2, 3, 20, 21, 27, 28, 34, 35, 41, 42, 48, 49, 53, 54, 58, 59, 65, 66, 72, 73, 79, 80, 86, 87, 93, 94, 107, 108, 114, 115, 121, 122, 128, 129, 135, 136, 142, 143, 149, 150, 156, 157, 163, 164, 170, 171, 177, 178, 184, 185, 191, 192, 198, 199, 205, 206, 212, 213, 219, 220, 226, 227, 233, 234, 240, 241, 243, 244, 261, 262, 268, 269, 275, 276, 282, 283, 285, 286, 296, 297, 303, 304, 315, 316, 320, 321, 327, 328, 334, 335, 337, 338, 353, 354, 358, 359, 361, 362, 375, 376, 382, 383, 389, 390, 392, 393, 406, 407, 413, 414, 420, 421, 423, 424, 437, 438, 444, 445, 451, 452, 458, 459, 461, 462, 475, 476, 480, 481, 485, 486, 492, 493, 499, 500, 504, 505, 511, 512, 518, 519, 525, 526, 532, 533, 537, 538, 540, 541, 558, 559, 565, 566, 572, 573, 579, 580, 582, 583, 598, 599, 605, 606, 612, 613, 619, 620, 622, 623, 631, 632, 638, 639, 645, 646, 650, 651, 655, 656, 660, 661, 667, 668, 672, 673, 679, 680]
end
section
noncomputable def qq : Program := { P0 with main := { P0.main with body := P0.main.body.drop 38 } }
noncomputable def lo : List Str := (["_wall", "least", "greatest", "next_from", "has", "has_domains", "up_to", "from_on", "without", "meet", "negation", "struck", "said_of", "Store", "Propagator", "is_one", "is_nought", "ClauseOf", "Joint", "AllOf", "AnyOf", "Xor", "Row", "Implied", "Reified", "logic_rule", "_law_take", "_law_places", "_law_data", "_law_lets", "_law_open", "_law_sought", "_law_is_made"] : List String).map Str.ofString
noncomputable def btOf : List Obj → BT → Nat → BT
 | [], t, _ => t
 | o :: l, t, n => btOf l (t.ins n o) (n + 1)
noncomputable def oL (P : Params) : List Obj := [boot_o_0 P, boot_o_1 P, boot_o_2 P, boot_o_3 P, boot_o_4 P, boot_o_5 P, boot_o_6 P, boot_o_7 P, boot_o_8 P, boot_o_9 P, boot_o_10 P,
 ⟨.type "tuple", none, .seq #[] 0, #[]⟩, ⟨.none, none, .fields #[], #[]⟩,
 ⟨.type "code", none, .fields #[.str "<module>" 182, .str "<module>" 183, .str "/claim/cut.py" 184, .int 1 0, .int 0 0, .int 0 0, .int 0 0, .int 0 0, .ref 11, .bool false, .int 181 0, .ref 12, .none, .none, .none, .none, .int 185 0, .int 1 0, .str "/claim/cut.py" 186], #[]⟩,
 ⟨.type "frame", none, .plain, #[some (.ref 13), some (.ref 3), some (.ref 3), none, some (.str "__main__" 164), none, some (.ref 0)]⟩]
noncomputable def Sa (w : World) (os : OsState) : Shared := ⟨⟨(oL w.params).toArray, {}⟩, Array.mk [], boot_drawn, 187, os⟩
noncomputable def ST (w : World) (os : OsState) : SharedT := ⟨btOf (oL w.params) .nil 0, 15, {}, Array.mk [], boot_drawn, 187, os⟩
noncomputable def eE : Env := { scope := P0.main.scope, locals := mainNs, globals := mainNs, cells := [], code := .ref 13, frame := some 14 }
noncomputable def bE : List Stmt := behindTheImports P0
noncomputable def cE : Code := .body bE eE
noncomputable abbrev q0 : Pos := ⟨0, 0, 0, 0⟩
noncomputable def S0 (w : World) (os : OsState) : Shared := ⟨boot_heap w.params, Array.mk [], boot_drawn, boot_toks, os⟩
noncomputable def looks (w : World) (s : Shared) := ((staticsOk (importedModules P0.main.body) (boot_heap w.params) s.heap && namesBound P0 s.heap && gensDone s && laidKept (boot_heap w.params) s.heap), openSeen qq lo (importedModules P0.main.body) (fun _ => true) true s, KA.map s.heap.get?)
noncomputable def good (w : World) := (true, openGood qq lo, (KK w.params).map fun p => some p.2)
theorem st_abs (w : World) (os : OsState) : (ST w os).abs = Sa w os := by kernel_rfl
theorem pre_go (w : World) (os : OsState) : topGo treeTable P0 w 11 (some (.ref 6)) 12 (S0 w os) (topStub P0) = some (Sa w os, ⟨denote treeTable cE, cE, q0, [topFrame q0]⟩) := by kernel_rfl
theorem block_go (w : World) (os : OsState) : segRun treeTable P0 w 11 (some (.ref 6)) 1 1 (Sa w os) (blockOf bE eE cE q0 [topFrame q0]) = some (.next, Sa w os, cE, q0) := by kernel_rfl
noncomputable abbrev qF : Pos := ⟨496, 0, 503, 15⟩
noncomputable def looksT (w : World) (s : Shared) := ((staticsOk (PySem.W.Fast.tw5923862056798008813 P0.main.body) (boot_heap w.params) s.heap && namesBound P0 s.heap && gensDone s && laidKept (boot_heap w.params) s.heap), PySem.W.Fast.tw4187177175401517315 qq lo (PySem.W.Fast.tw5923862056798008813 P0.main.body) (fun _ => true) true s, KA.map s.heap.get?)
theorem key_tw (w : World) (os : OsState) : (PySem.W.Fast.tw10110043849684766642 PySem.W.Fast.tw14364793385576792824 P0 w 11 (some (.ref 6)) 1 4800 (ST w os) (piecesOf bE eE cE q0 [topFrame q0])).bind
  (fun r => (PySem.W.Fast.tw14082659384304107361 PySem.W.Fast.tw14364793385576792824 P0 w 11 (some (.ref 6)) 2 r.2.1.abs ⟨doneF .next, r.2.2.1, r.2.2.2, [topFrame q0]⟩).map fun s => (r.1, r.2.2.1, r.2.2.2, looksT w s)) = some (.next, cE, qF, good w) := by kernel_rfl
theorem looks_eq (w : World) (s : Shared) : looks w s = looksT w s := by
 unfold looks looksT
 rw [PySem.W.Fast.te4187177175401517315, PySem.W.Fast.te5923862056798008813]
theorem key (w : World) (os : OsState) : (segRunT treeTable P0 w 11 (some (.ref 6)) 1 4800 (ST w os) (piecesOf bE eE cE q0 [topFrame q0])).bind
  (fun r => (topRun treeTable P0 w 11 (some (.ref 6)) 2 r.2.1.abs ⟨doneF .next, r.2.2.1, r.2.2.2, [topFrame q0]⟩).map fun s => (r.1, r.2.2.1, r.2.2.2, looks w s)) = some (.next, cE, qF, good w) := by
 have e : (fun (r : Flow × SharedT × Code × Pos) => (topRun treeTable P0 w 11 (some (.ref 6)) 2 r.2.1.abs ⟨doneF .next, r.2.2.1, r.2.2.2, [topFrame q0]⟩).map fun s => (r.1, r.2.2.1, r.2.2.2, looks w s)) =
   fun r => (PySem.W.Fast.tw14082659384304107361 PySem.W.Fast.tw14364793385576792824 P0 w 11 (some (.ref 6)) 2 r.2.1.abs ⟨doneF .next, r.2.2.1, r.2.2.2, [topFrame q0]⟩).map fun s => (r.1, r.2.2.1, r.2.2.2, looksT w s) := by
  funext r
  rw [← PySem.W.Fast.te14082659384304107361, ← PySem.W.Fast.te14364793385576792824]
  congr 1
  funext s
  rw [looks_eq]
 rw [e, ← key_tw w os, PySem.W.Fast.te10110043849684766642, PySem.W.Fast.te14364793385576792824]
theorem run_all (w : World) (os : OsState) : ∃ r, topRun treeTable P0 w 11 (some (.ref 6)) (12 + (1 + (4800 + 2))) (S0 w os) (topStub P0) = some r ∧ looks w r = good w := by
 obtain ⟨⟨f, sT, c, p⟩, h1, h2⟩ := Option.bind_eq_some_iff.mp (key w os)
 obtain ⟨r, h3, h4⟩ := Option.map_eq_some_iff.mp h2
 simp only [Prod.mk.injEq] at h4
 obtain ⟨rfl, rfl, rfl, h5⟩ := h4
 refine ⟨r, ?_, h5⟩
 have h6 := segRun_of h1
 rw [st_abs] at h6
 have h7 := piece_app (rest := []) h6 (piece_nil h3)
 rw [List.append_nil] at h7
 exact go_top (pre_go w os) (piece_block (block_go w os) h7)
theorem size_ok (w : World) : ((boot_heap w.params).isNs mainGlobals && (Array.mk [] : Array GenState).size == 0, (boot_heap w.params).objs.size, (boot_heap w.params).nsMap mainGlobals "__annotations__") = (true, 11, some (.ref 6)) := by kernel_rfl
theorem op1 : opening P0 = plainProg P0.main.scope.names := rfl
theorem op2 : ∀ s : Shared, fenceModules? P0 s = some s := fun _ => rfl
theorem op3 : Nat.ble 600 (12 + (1 + (4800 + 2))) = true := rfl
theorem open_ok : ∀ w : World, (fencedOpening treeTable P0 w (12 + (1 + (4800 + 2)))).map (fun s => (s.heap, s.gens, s.drawn, s.toks)) = some (boot_heap w.params, Array.mk [], boot_drawn, boot_toks) :=
 @boot_open P0 (12 + (1 + (4800 + 2))) op1 op3 op2
end
section
theorem topFrom_of {tb : String → Option Builtin} {p : Program} {w : World} {N : Nat} {s₀ r : Shared} (z1 : (s₀.heap.isNs mainGlobals && s₀.gens.size == 0) = true) (h : topRun tb p w s₀.heap.objs.size (s₀.heap.nsMap mainGlobals "__annotations__") N s₀ (topStub p) = some r)
  (l : (staticsOk (importedModules p.main.body) s₀.heap r.heap && namesBound p r.heap && gensDone r && laidKept s₀.heap r.heap) = true) : topFrom tb p w N s₀ = some r := by
 unfold topFrom
 rw [z1, h]
 dsimp only [Option.bind_some]
 rw [l]
theorem ends_of {α : Type} {tb : String → Option Builtin} {p : Program} {w : World} {N : Nat} {s₀ r : Shared} {f : Shared → α} {x : α} (e : fencedOpening tb p w N = some s₀) (t : topFrom tb p w N s₀ = some r) (l : f r = x) : (openEnds tb p w N).map f = some x := by
 unfold openEnds
 rw [e, Option.bind_some, t, ← l]
 rfl
theorem parts3 {α β γ : Type} {a a' : α} {b b' : β} {c c' : γ} (h : (a, b, c) = (a', b', c')) : a = a' ∧ b = b' ∧ c = c' := by cases h; exact ⟨rfl, rfl, rfl⟩
theorem left : LeftO P0 qq lo (fun _ => true) (fun s => KA.map s.heap.get?) (fun w => (KK w.params).map fun p => some p.2) (12 + (1 + (4800 + 2))) := fun w => by
 obtain ⟨⟨h, gs, d, k, os⟩, e, e'⟩ := Option.map_eq_some_iff.mp (open_ok w)
 obtain ⟨rfl, f2⟩ : h = boot_heap w.params ∧ _ := Prod.mk.inj e'
 obtain ⟨rfl, f3⟩ : gs = Array.mk [] ∧ _ := Prod.mk.inj f2
 obtain ⟨rfl, rfl⟩ : d = boot_drawn ∧ k = boot_toks := Prod.mk.inj f3
 obtain ⟨z1, z2, z3⟩ := parts3 (size_ok w)
 obtain ⟨r, h1, h2⟩ := run_all w os
 obtain ⟨l1, l2, l3⟩ := parts3 h2
 refine ends_of e (topFrom_of (r := r) z1 ?_ l1) (Prod.ext l2 l3)
 dsimp only
 rw [z2, z3]
 exact h1
end
section
noncomputable abbrev RP : Program := PySem.Challenge.rw_ok0092_01.row.toRowW.prog
theorem sd1 : (sreFenced RP.main && ((moduleNames RP.main.body).isEmpty || lookedIntoSs (moduleNames RP.main.body) RP.main.body)) = true := by kernel_rfl
theorem sd2 : namesResolve RP = true := by
 rw [PySem.W.Fast.te8377067652309620493]
 kernel_rfl
theorem sd3 : (RP.boundNames.all (fun n => !worldNames.contains n)) = true := by kernel_rfl
theorem sd4 : noRoadLSs { strict := !(importedModules RP.main.body).all cThrough.contains, foot := none, bare := (["vars", "dir", "locals"] : List Str).filter (readsOut RP RP.main.body) } RP.main.body = true := by kernel_rfl
theorem sd5 : (namesMeet RP RP.main.body fun _ n => attrL n) = true := by kernel_rfl
theorem sd6 : looksOpen RP = true := look_both (look_both (look_both (look_both sd1 sd2) sd3) sd4) sd5
theorem said : OpenLaw.wellSaid PySem.Challenge.rw_ok0092_01 = true := by
 unfold OpenLaw.wellSaid OpenRow.wellSaid OpenRow.partSaid
 rw [sd6]
 kernel_rfl
end
section
set_option tactic.hygienic false
section
variable {g : G KK} {sc : Scope} {σ : AH} {k : Nat}
inductive CT : Str → Value → Prop
 | len : CT "len" (.builtin "len")
 | tuple : CT "tuple" (.type "tuple")
 | min : CT "min" (.builtin "min")
 | max : CT "max" (.builtin "max")
 | sum : CT "sum" (.builtin "sum")
 | list : CT "list" (.type "list")
 | dict : CT "dict" (.type "dict")
 | is_one : CT "is_one" (.ref 297)
 | is_nought : CT "is_nought" (.ref 304)
 | negation : CT "negation" (.ref 80)
 | law_take : CT "_law_take" (.ref 639)
 | law_places : CT "_law_places" (.ref 646)
 | least : CT "least" (.ref 28)
 | greatest : CT "greatest" (.ref 35)
 | next_from : CT "next_from" (.ref 42)
 | has : CT "has" (.ref 49)
 | up_to : CT "up_to" (.ref 54)
 | from_on : CT "from_on" (.ref 59)
 | without : CT "without" (.ref 66)
 | meet : CT "meet" (.ref 73)
 | struck : CT "struck" (.ref 87)
 | said_of : CT "said_of" (.ref 94)
 | Store : CT "Store" (.ref 244)
 | Propagator : CT "Propagator" (.ref 286)
 | ClauseOf : CT "ClauseOf" (.ref 338)
 | Joint : CT "Joint" (.ref 362)
 | AllOf : CT "AllOf" (.ref 393)
 | AnyOf : CT "AnyOf" (.ref 424)
 | Xor : CT "Xor" (.ref 462)
 | Row : CT "Row" (.ref 541)
 | Implied : CT "Implied" (.ref 583)
 | Reified : CT "Reified" (.ref 623)
 | logic_rule : CT "logic_rule" (.ref 632)
 | law_data : CT "_law_data" (.ref 651)
 | law_lets : CT "_law_lets" (.ref 656)
 | law_open : CT "_law_open" (.ref 661)
 | law_sought : CT "_law_sought" (.ref 668)
 | law_is_made : CT "_law_is_made" (.ref 673)
 | has_domains : CT "has_domains" (.ref 49)
theorem CT.glb {x : Str} {f : Value} (h : CT x f) (hx : sc.names.lookup x = some .globalImplicit) : GlbW g sc x f ∧ keepF (KK g.w.params) f = true := by
 cases h
 case len => exact ⟨GlbW.boot hx (by kernel_rfl) (by kernel_rfl) (by decide +kernel) (by kernel_rfl), by kernel_rfl⟩
 case tuple => exact ⟨GlbW.boot hx (by kernel_rfl) (by kernel_rfl) (by decide +kernel) (by kernel_rfl), by kernel_rfl⟩
 case min => exact ⟨GlbW.boot hx (by kernel_rfl) (by kernel_rfl) (by decide +kernel) (by kernel_rfl), by kernel_rfl⟩
 case max => exact ⟨GlbW.boot hx (by kernel_rfl) (by kernel_rfl) (by decide +kernel) (by kernel_rfl), by kernel_rfl⟩
 case sum => exact ⟨GlbW.boot hx (by kernel_rfl) (by kernel_rfl) (by decide +kernel) (by kernel_rfl), by kernel_rfl⟩
 case list => exact ⟨GlbW.boot hx (by kernel_rfl) (by kernel_rfl) (by decide +kernel) (by kernel_rfl), by kernel_rfl⟩
 case dict => exact ⟨GlbW.boot hx (by kernel_rfl) (by kernel_rfl) (by decide +kernel) (by kernel_rfl), by kernel_rfl⟩
 all_goals exact ⟨GlbW.top hx (by kernel_rfl) (by kernel_rfl), by kernel_rfl⟩
theorem gb_sorted (hx : sc.names.lookup ("sorted" : Str) = some .globalImplicit) : GlbW g sc "sorted" (.builtin "sorted") := GlbW.boot hx (by kernel_rfl) (by kernel_rfl) (by decide +kernel) (by kernel_rfl)
theorem gb_set (hx : sc.names.lookup ("set" : Str) = some .globalImplicit) : GlbW g sc "set" (.type "set") := GlbW.boot hx (by kernel_rfl) (by kernel_rfl) (by decide +kernel) (by kernel_rfl)
theorem ec {x : Str} {f : Value} {m : Loc} {p pos : Pos} {args : List Expr} {Q : AV → AH → Prop} (ht : CT x f) (hx : sc.names.lookup x = some .globalImplicit) (hp : ∀ env, ((backTo pos (starEach args env)).any (·.1)) = false) (h : SpW g k sc m σ args (KCall g k f Q)) : EvW g k sc m σ (.Call (.Name x p) args [] pos) Q := EvW.call (ht.glb hx).1 (ht.glb hx).2 hp h
theorem noFree (h : (sc.names.all fun y => y.2 != .free) = true) : ∀ x, sc.names.lookup x ≠ some .free := fun x e => by
 have := look_all h e
 simp at this
theorem isVars {ns : List (Str × Pos)} (h : (ns.all fun p => sc.names.lookup p.1 == some .local || sc.names.lookup p.1 == some .cell) = true) : ∀ p ∈ ns, isVar sc p.1 := fun p hp => by
 have := List.all_eq_true.mp h p hp
 rcases Bool.or_eq_true_iff.mp this with q | q
 ·exact .inl (by simpa using q)
 ·exact .inr (by simpa using q)
theorem isVarsS {ns : List Str} (h : (ns.all fun p => sc.names.lookup p == some .local || sc.names.lookup p == some .cell) = true) : ∀ p ∈ ns, isVar sc p := fun p hp => by
 have := List.all_eq_true.mp h p hp
 rcases Bool.or_eq_true_iff.mp this with q | q
 ·exact .inl (by simpa using q)
 ·exact .inr (by simpa using q)
end
section
variable {K : Params → Frag} {g : G K} {k : Nat} {sc : Scope} {m : Loc} {σ : AH}
theorem lk_here {m : Loc} {x : Str} {v : AV} : upd m x v x = some v := if_pos rfl
theorem lk_there {m : Loc} {x y : Str} {v a : AV} (h : (y == x) = false) (e : m y = some a) : upd m x v y = some a := by
 unfold upd
 rw [if_neg (by simpa using h)]; exact e
theorem ForL.nil {T : Expr} {body : List Stmt} {Q : Fl → Loc → AH → Prop} (h : Q .next m σ) : ForL g k sc T body Q [] m σ := h
theorem ak {value slice : Expr} {d : PyData} {xs : List PyData} {Q : AV → AH → Prop} (hs : ∀ o i, subscripted slice false o i = operate [o, i] (getItem o i)) (hl : xs.length ≤ 10000) (h : Q (.d d) σ) : SubW g k value slice (.d (.tuple (d :: xs))) (.d (.int 0)) σ Q :=
 SubW.tup (j := 0) (d := d) hs (by decide) (by decide) (by unfold seqIndex?; simp; try lia) rfl h
theorem SubW.t1 {value slice : Expr} {c d : PyData} {xs : List PyData} {Q : AV → AH → Prop} (hs : ∀ o i, subscripted slice false o i = operate [o, i] (getItem o i)) (hl : xs.length ≤ 10000) (h : Q (.d d) σ) : SubW g k value slice (.d (.tuple (c :: d :: xs))) (.d (.int 1)) σ Q :=
 SubW.tup (j := 1) (d := d) hs (by decide) (by decide) (by unfold seqIndex?; simp; try lia) rfl h
theorem SubW.t2 {value slice : Expr} {b c d : PyData} {xs : List PyData} {Q : AV → AH → Prop} (hs : ∀ o i, subscripted slice false o i = operate [o, i] (getItem o i)) (hl : xs.length ≤ 10000) (h : Q (.d d) σ) : SubW g k value slice (.d (.tuple (b :: c :: d :: xs))) (.d (.int 2)) σ Q :=
 SubW.tup (j := 2) (d := d) hs (by decide) (by decide) (by unfold seqIndex?; simp; try lia) rfl h
theorem SubW.tl {value slice : Expr} {d : PyData} {xs : List PyData} {Q : AV → AH → Prop} (hs : ∀ o i, subscripted slice false o i = operate [o, i] (getItem o i)) (hl : xs.length ≤ 10000) (h : Q (.d d) σ) : SubW g k value slice (.d (.tuple (xs ++ [d]))) (.d (.int (-1))) σ Q :=
 SubW.tup (j := xs.length) (d := d) hs (by decide) (by decide) (by
  rw [PySem.MeetsSeq.seqIndex_neg (by lia) (by simp; lia)]; congr 1; simp; lia) (by simp) h
end
end
section
noncomputable def LawSaid : Prop := ∀ (g : G KK) (ns : List Int) (σ : AH), ns.length ≤ 63 → CodeW g 200 (.ref 680) [.d (.list (ns.map .int))] σ (fun a _ => a = .d (.bool true))
theorem start_abs (g : G KK) {s : Shared} (hB : g.B = s.heap) : Abs g ⟨s.heap.get?, fun _ => none, fun _ => 0, fun _ => 0, 0⟩ ⟨fun _ => none, 0⟩ s.heap :=
 ⟨fun a o e => by rw [hB] at e; exact e, fun _ _ e => e, fun _ _ e => (nomatch e), fun _ _ e => (nomatch e), rfl, fun _ _ e => (nomatch e), fun _ _ e => (nomatch e), fun _ _ _ ⟨_, e, _⟩ => (nomatch e), fun _ _ _ e => (nomatch e), fun _ _ ⟨_, e, _⟩ => (nomatch e)⟩
theorem holds_of (LAW : LawSaid) : PySem.Challenge.rw_ok0092_01.Holds := by
 refine holds_law said fun said => holds_open (q := qq) (loose := lo) (Xt := fun _ => true) (XP := fun _ _ => True) (YP := InK KK) left (InK.of (K := KK) (as := KA) (fun _ => rfl)) InK.keeps (fun _ _ => trivial) (fun _ _ _ _ _ => trivial) (by rfl) (by rfl) (by rfl) (fun _ _ => recFacts_nil rfl) (by rfl) said (by decide +kernel) ⟨rfl, rfl, rfl, rfl, rfl, by decide +kernel⟩ ?hw ?hc
 case hw => exact ⟨[.list [.int 3, .int 1]], by decide +kernel, by decide +kernel⟩
 case hc =>
 intro w s₀ s₁ mg mb G' Y fa o pm cd doc dV kV ho hd hcd hD hmg hg args vals as hpre hlay hrd hwl hlo
 have KX : (KK w.params).In s₁.heap := Y
 refine Ground.open G' ?_
 intro T B D TE TW
 have e : mg "law" = some (.ref 680) := mg_of KX T.g (by kernel_rfl)
 have e' : Value.ref 680 = Value.ref fa := Option.some.inj (e.symm.trans hmg)
 have e'' : 680 = fa := Value.ref.inj e'
 subst e''
 clear ho hd hcd hD hmg e B D TE TW
 wrow_args hpre hlay hrd hwl hlo
 rename_i ns hs' hl0 hL1 hr1 hl2 as1 as2 a vs as3 hL ra w1 r0 hI hr hc1 hc2
 have h63 : ns.length ≤ 63 := by omega
 (refine x1_2 hL ?_; clear hL; intro ol l1 l2 z1; refine x1_0 z1 ?_; clear z1; intro ln l3)
 let gg : Mine.G KK := ⟨PySem.Challenge.rw_ok0092_01.row.prog, w, s₁.heap, mg, mb, qq, looseW qq lo, KX, topRead_of T⟩
 have h := (LAW gg ns ⟨fun _ => none, 0⟩ h63).call callerA _ s₁ [.ref a] ⟨by decide, by decide, by decide⟩ (start_abs gg rfl) (.cons (a := .d (.list (ns.map .int))) (.list l1 l2 l3 (intsRd hI)) .nil)
 refine wpAny_mono h (fun v s' hv => ?_) fun _ _ z => z.elim
 (refine VPost.out hv ?_; clear hv; intro W' σ' r st _ vr z2; obtain rfl := z2)
 obtain rfl := VR.bool vr
 refine GoodW.toG ⟨.inl ⟨_, ofPy (.bool true), [], rfl, fun _ => rfl, ?_, ?_, ?_⟩, st.abs.base', st.os, st.gens.trans hg⟩
 ·exact .bool true
 ·kernel_rfl
 ·intro _; exact ⟨.nil, fun _ h => nomatch h⟩
end
section
set_option tactic.hygienic false
theorem AH.next_set {σ : AH} {i : Nat} {o : AO} : (σ.set i o).next = σ.next := rfl
theorem AH.next_push {σ : AH} {o : AO} : (σ.push o).next = σ.next + 1 := rfl
theorem ah {σ : AH} {i j : Nat} {x : AO} {o : Option AO} (h : j ≠ i) (e : σ.get j = o) : (σ.set i x).get j = o := (AH.get_set_ne h).trans e
theorem al {σ : AH} {j : Nat} {x : AO} {o : Option AO} (h : j < σ.next) (e : σ.get j = o) : (σ.push x).get j = o := (AH.get_push_old h).trans e
theorem lu_here {x : Str} {v : AV} {r : List (Str × AV)} : List.lookup x ((x, v) :: r) = some v := by simp [List.lookup]
theorem lu_there {x y : Str} {v : Option AV} {w : AV} {r : List (Str × AV)} (h : (x == y) = false) (e : List.lookup x r = v) : List.lookup x ((y, w) :: r) = v := by
 rw [List.lookup, h]; exact e
theorem pf_nil {x : Str} {a : AV} : putFs x a [] = [(x, a)] := rfl
theorem pf_here {x : Str} {a b : AV} {r : List (Str × AV)} : putFs x a ((x, b) :: r) = (x, a) :: r := by simp [putFs]
theorem pf_there {x y : Str} {a b : AV} {r r' : List (Str × AV)} (h : (y == x) = false) (e : putFs x a r = r') : putFs x a ((y, b) :: r) = (y, b) :: r' := by
 rw [putFs, h]; simp [e]
theorem lc {α : Type} {vs : List α} {n : Nat} (h : vs.length = n + 1) : ∃ v t, vs = v :: t ∧ t.length = n := match vs, h with
 | v :: t, h => ⟨v, t, rfl, Nat.succ.inj h⟩
theorem len1 {α : Type} {vs : List α} (h : vs.length = 1) : ∃ a, vs = [a] := x2_1 (lc h) fun a t e h => ⟨a, e.trans (congrArg (List.cons a) (List.length_eq_zero_iff.mp h))⟩
theorem len2 {α : Type} {vs : List α} (h : vs.length = 2) : ∃ a b, vs = [a, b] := x2_1 (lc h) fun a t e h => x1_0 (len1 h) fun b f => ⟨a, b, e.trans (congrArg (List.cons a) f)⟩
theorem len3 {α : Type} {vs : List α} (h : vs.length = 3) : ∃ a b c, vs = [a, b, c] := x2_1 (lc h) fun a t e h => x2_0 (len2 h) fun b c f => ⟨a, b, c, e.trans (congrArg (List.cons a) f)⟩
theorem len4 {α : Type} {vs : List α} (h : vs.length = 4) : ∃ a b c d, vs = [a, b, c, d] := x2_1 (lc h) fun a t e h => x3_0 (len3 h) fun b c d f => ⟨a, b, c, d, e.trans (congrArg (List.cons a) f)⟩
theorem len5 {α : Type} {vs : List α} (h : vs.length = 5) : ∃ a b c d o, vs = [a, b, c, d, o] := x2_1 (lc h) fun a t e h => x4_0 (len4 h) fun b c d o f => ⟨a, b, c, d, o, e.trans (congrArg (List.cons a) f)⟩
section
variable {g : G KK} {k : Nat} {sc : Scope} {m : Loc} {σ : AH}
theorem em_go {C f : Addr} {x : Str} {a : AV} {σ1 : AH} {R : Addr → Prop} (hc : clsOk (KK g.w.params) C = true) (hm : methOk (KK g.w.params) C x f = true) (hk : keepF (KK g.w.params) (.ref f) = true)
  (h : ∃ i fs, a = .r i ∧ σ1.get i = some (.inst C fs) ∧ fs.lookup x = none ∧ R f) :
  ∃ i C fs f, a = .r i ∧ σ1.get i = some (.inst C fs) ∧ clsOk (KK g.w.params) C = true ∧ methOk (KK g.w.params) C x f = true ∧ keepF (KK g.w.params) (.ref f) = true ∧ fs.lookup x = Option.none ∧ R f := by
 (refine x2_3 h ?_; clear h; intro i fs e h1 h2 h3)
 exact ⟨i, C, fs, f, e, h1, hc, hm, hk, h2, h3⟩
theorem at_of {i : Nat} {C : Addr} {fs : List (Str × AV)} {v : AV} {x : Str} {Q : AV → Prop} (h : σ.get i = some (.inst C fs)) (hl : fs.lookup x = some v) (hc : clsOk (KK g.w.params) C = true) (ha : attrOk (KK g.w.params) C x = true) (q : Q v) :
  ∃ i' C fs v, AV.r i = .r i' ∧ σ.get i' = some (.inst C fs) ∧ clsOk (KK g.w.params) C = true ∧ attrOk (KK g.w.params) C x = true ∧ fs.lookup x = some v ∧ Q v := ⟨i, C, fs, v, rfl, h, hc, ha, hl, q⟩
theorem StW.setattrP {o : Expr} {x : Str} {ap : Pos} {e : Expr} {pos : Pos} {Q : Fl → Loc → AH → Prop} (hs : ∀ env, swapsWith e (some (.Attribute o x ap)) pos.line env = pure false)
  (h : EvW g k sc m σ e (fun a σ1 => EvW g k sc m σ1 o (fun b σ2 => ∃ i C fs fs', b = .r i ∧ σ2.get i = some (.inst C fs) ∧ clsOk (KK g.w.params) C = true ∧ attrOk (KK g.w.params) C x = true ∧ fs.length ≤ 100 ∧ putFs x a fs = fs' ∧ Q .next m (σ2.set i (.inst C fs'))))) :
  StW g k sc m σ (.Assign [.Attribute o x ap] e pos) Q := StW.setattr hs (h.mono fun a σ1 h => h.mono fun b σ2 h => by
  (refine x4_6 h ?_; clear h; intro i C fs fs' h1 h2 h3 h4 h5 h6 h7)
  exact ⟨i, C, fs, h1, h2, h3, h4, h5, by rw [h6]; exact h7⟩)
inductive MT : Str → Addr → Addr → Prop
 | holds : MT "holds" 244 185
 | low : MT "low" 244 143
 | high : MT "high" 244 150
 | strike : MT "strike" 244 199
 | fail : MT "fail" 244 213
 | enter : MT "enter" 244 192
 | has : MT "has" 244 157
 | is_fixed : MT "is_fixed" 244 164
 | value : MT "value" 244 171
 | decide : MT "decide" 244 206
 | new_var : MT "new_var" 244 115
 | size : MT "size" 244 122
 | push : MT "push" 244 220
 | depth : MT "depth" 244 234
 | least : MT "least" 541 486
 | bounds : MT "bounds" 541 493
 | press : MT "press" 541 500
 | ends : MT "ends" 541 505
 | last : MT "last" 541 512
 | part : MT "part" 541 519
 | impose : MT "impose" 541 526
 | barred : MT "barred" 541 533
 | turned : MT "turned" 541 481
theorem MT.ok {x : Str} {C f : Addr} (h : MT x C f) (g : G KK) : clsOk (KK g.w.params) C = true ∧ methOk (KK g.w.params) C x f = true ∧ keepF (KK g.w.params) (.ref f) = true := by
 cases h <;> exact ⟨by kernel_rfl, by kernel_rfl, by kernel_rfl⟩
theorem em_at {x : Str} {C f : Addr} (ht : clsOk (KK g.w.params) C = true ∧ methOk (KK g.w.params) C x f = true ∧ keepF (KK g.w.params) (.ref f) = true) {pl : Env → Sem Bool} {o : Expr} {ap : Pos} {args : List Expr} {pos : Pos} {Q : AV → AH → Prop}
  (he : ∀ env, eval (.Call (.Attribute o x ap) args [] pos) env = (do
   let ov ← eval o env
   standAt ap.atName
   let (f, first) ← holding [ov] (getMethod ov x (pl env))
   callWith pos f first (backTo pos (starEach args env)) (backToKw pos (keywordEach [] env)))) (hp : ∀ env, ((backTo pos (starEach args env)).any (·.1)) = false)
  (h : EvW g k sc m σ o (fun a σ1 => ∃ i fs, a = .r i ∧ σ1.get i = some (.inst C fs) ∧ fs.lookup x = none ∧ SpW g k sc m σ1 args (fun as σ2 => CallW g k (.ref f) (a :: as) σ2 Q))) :
  EvW g k sc m σ (.Call (.Attribute o x ap) args [] pos) Q :=
 EvW.meth he hp (h.mono fun a σ1 h => em_go ht.1 ht.2.1 ht.2.2 h)
noncomputable abbrev KAt (g : G KK) (x : Str) (Q : AV → AH → Prop) : AV → AH → Prop := fun a σ => ∃ i C fs v, a = .r i ∧ σ.get i = some (.inst C fs) ∧ clsOk (KK g.w.params) C = true ∧ attrOk (KK g.w.params) C x = true ∧ fs.lookup x = some v ∧ Q v σ
noncomputable abbrev KMt (g : G KK) (k : Nat) (sc : Scope) (m : Loc) (C f : Addr) (x : Str) (args : List Expr) (Q : AV → AH → Prop) : AV → AH → Prop := fun a σ => ∃ i fs, a = .r i ∧ σ.get i = some (.inst C fs) ∧ fs.lookup x = none ∧ SpW g k sc m σ args (KCons a (KCall g k (.ref f) Q))
noncomputable abbrev KSa2 (g : G KK) (x : Str) (m : Loc) (a : AV) (Q : Fl → Loc → AH → Prop) : AV → AH → Prop := fun b σ2 => ∃ i C fs fs', b = .r i ∧ σ2.get i = some (.inst C fs) ∧ clsOk (KK g.w.params) C = true ∧ attrOk (KK g.w.params) C x = true ∧ fs.length ≤ 100 ∧ putFs x a fs = fs' ∧ Q .next m (σ2.set i (.inst C fs'))
noncomputable abbrev KSa1 (g : G KK) (k : Nat) (sc : Scope) (m : Loc) (o : Expr) (x : Str) (Q : Fl → Loc → AH → Prop) : AV → AH → Prop := fun a σ => EvW g k sc m σ o (KSa2 g x m a Q)
theorem ae {e : Expr} {x : Str} {pos : Pos} {Q : AV → AH → Prop} (hb : ∀ env, attributeBase e x env (eval e env) = eval e env) (h : EvW g k sc m σ e (KAt g x Q)) : EvW g k sc m σ (.Attribute e x pos) Q := EvW.attr hb h
theorem ra_of {i : Nat} {C : Addr} {fs : List (Str × AV)} {v : AV} {x : Str} {Q : AV → AH → Prop} (h : σ.get i = some (.inst C fs)) (hl : fs.lookup x = some v) (hc : clsOk (KK g.w.params) C = true) (ha : attrOk (KK g.w.params) C x = true) (q : Q v σ) : KAt g x Q (.r i) σ := at_of h hl hc ha q
theorem rw_sta {o : Expr} {x : Str} {ap : Pos} {e : Expr} {pos : Pos} {Q : Fl → Loc → AH → Prop} (hs : ∀ env, swapsWith e (some (.Attribute o x ap)) pos.line env = pure false) (h : EvW g k sc m σ e (KSa1 g k sc m o x Q)) : StW g k sc m σ (.Assign [.Attribute o x ap] e pos) Q := StW.setattrP hs h
theorem rs_of {i : Nat} {C : Addr} {fs fs' : List (Str × AV)} {a : AV} {x : Str} {Q : Fl → Loc → AH → Prop} (h : σ.get i = some (.inst C fs)) (hp : putFs x a fs = fs') (hl : fs.length ≤ 100) (hc : clsOk (KK g.w.params) C = true) (ha : attrOk (KK g.w.params) C x = true) (q : Q .next m (σ.set i (.inst C fs'))) : KSa2 g x m a Q (.r i) σ :=
 ⟨i, C, fs, fs', rfl, h, hc, ha, hl, hp, q⟩
theorem rm_of {i : Nat} {C f : Addr} {fs : List (Str × AV)} {x : Str} {args : List Expr} {Q : AV → AH → Prop} (h : σ.get i = some (.inst C fs)) (hl : fs.lookup x = none) (q : SpW g k sc m σ args (KCons (.r i) (KCall g k (.ref f) Q))) : KMt g k sc m C f x args Q (.r i) σ := ⟨i, fs, rfl, h, hl, q⟩
theorem em {x : Str} {C f : Addr} (ht : MT x C f) {pl : Env → Sem Bool} {o : Expr} {ap : Pos} {args : List Expr} {pos : Pos} {Q : AV → AH → Prop}
  (he : ∀ env, eval (.Call (.Attribute o x ap) args [] pos) env = (do
   let ov ← eval o env
   standAt ap.atName
   let (f, first) ← holding [ov] (getMethod ov x (pl env))
   callWith pos f first (backTo pos (starEach args env)) (backToKw pos (keywordEach [] env)))) (hp : ∀ env, ((backTo pos (starEach args env)).any (·.1)) = false)
  (h : EvW g k sc m σ o (KMt g k sc m C f x args Q)) :
  EvW g k sc m σ (.Call (.Attribute o x ap) args [] pos) Q := em_at (ht.ok g) he hp h
theorem ec_init {x : Str} {C f : Addr} {pl : Env → Sem Bool} {cp ap : Pos} {args : List Expr} {pos : Pos} {Q : AV → AH → Prop} (ht : CT x (.ref C)) (hf : findCls (KK g.w.params) (.ref C) (.type "type") "__init__" = some (.val (.ref f))) (hs : specialIn (KK g.w.params) (.ref C) "__getattribute__" = some (some (.builtin "type.__getattribute__"))) (hr : readsIn (KK g.w.params) C (.type "type") = true) (hk : keepF (KK g.w.params) (.ref f) = true)
  (hx : sc.names.lookup x = some .globalImplicit)
  (he : ∀ env, eval (.Call (.Attribute (.Name x cp) "__init__" ap) args [] pos) env = (do
   let ov ← eval (.Name x cp) env
   standAt ap.atName
   let (f, first) ← holding [ov] (getMethod ov "__init__" (pl env))
   callWith pos f first (backTo pos (starEach args env)) (backToKw pos (keywordEach [] env)))) (hp : ∀ env, ((backTo pos (starEach args env)).any (·.1)) = false)
  (h : SpW g k sc m σ args (KCall g k (.ref f) Q)) : EvW g k sc m σ (.Call (.Attribute (.Name x cp) "__init__" ap) args [] pos) Q :=
 EvW.cmeth (C := C) (f := f) (mc := .type "type") (ht.glb hx).1 he hp hs hr hf hk h
theorem SubW.lsN {value slice : Expr} {i j : Nat} {xs : List PyData} {d : PyData} {Q : AV → AH → Prop} (hs : ∀ o i, subscripted slice false o i = operate [o, i] (getItem o i)) (ha : σ.get i = some (.list xs)) (hx : xs[j]? = some d) (hl : xs.length ≤ 10000) (h : Q (.d d) σ) : SubW g k value slice (.r i) (.d (.int (j : Nat))) σ Q :=
 SubW.lst hs (.r ha) (by lia) (by
  have : j < xs.length := (List.getElem?_eq_some_iff.mp hx).1
  lia) (by simpa using hx) h
theorem eqvI {a b : Int} : PyData.eqv (.int a) (.int b) = decide (a = b) := by
 rw [Bool.eq_iff_iff]; simp [PyData.eqv]
theorem qi {a b : Int} {Q : AV → AH → Prop} (h : Q (.d (.bool (decide (a = b)))) σ) : CmpW g k .Eq (.d (.int a)) (.d (.int b)) σ Q :=
 CmpW.eq (x := .int a) (y := .int b) rfl rfl rfl rfl (by rw [eqvI]; exact h)
theorem CmpW.neI {a b : Int} {Q : AV → AH → Prop} (h : Q (.d (.bool (decide (a ≠ b)))) σ) : CmpW g k .NotEq (.d (.int a)) (.d (.int b)) σ Q :=
 CmpW.ne (x := .int a) (y := .int b) rfl rfl rfl rfl (by
  rw [eqvI]
  rwa [show (!decide (a = b)) = decide (a ≠ b) by by_cases e : a = b <;> simp [e]])
theorem CmpW.isN_n {Q : AV → AH → Prop} (h : Q (.d (.bool true)) σ) : CmpW g k .Is (.d .none) (.d .none) σ Q := CmpW.isNone h
theorem CmpW.isN_t {ds : List PyData} {Q : AV → AH → Prop} (h : Q (.d (.bool false)) σ) : CmpW g k .Is (.d (.tuple ds)) (.d .none) σ Q := CmpW.isNone h
theorem CmpW.isNN_n {Q : AV → AH → Prop} (h : Q (.d (.bool false)) σ) : CmpW g k .IsNot (.d .none) (.d .none) σ Q := CmpW.isNotNone h
theorem CmpW.isNN_t {ds : List PyData} {Q : AV → AH → Prop} (h : Q (.d (.bool true)) σ) : CmpW g k .IsNot (.d (.tuple ds)) (.d .none) σ Q := CmpW.isNotNone h
theorem ls_of {a : AV} {P : Prop} (h : loose a = true) (q : P) : loose a = true ∧ P := ⟨h, q⟩
end
end
section
set_option tactic.hygienic false
noncomputable def Pz : Params := { strHash := fun ww => 0, shareClass := fun ww => 0, mergeTok := fun t => t, idOf := fun ww => 0, idOfShared := fun ww ww => 0, followText := fun ww => false, idOfImm := fun ww => 0 }
noncomputable def fdF (f : Addr) : FuncData := match (KK Pz).lookup f with
 | some ⟨_, _, .func fd, _⟩ => fd
 | _ => default
noncomputable def scF (f : Addr) : Scope := (fdF f).scope
noncomputable def bdF (f : Addr) : List Stmt := match (fdF f).body with
 | .stmts b => b
 | _ => []
noncomputable def fnB (P : Params) (f : Addr) (names : List Str) : Bool :=
 (match (fdF f).body with | .stmts _ => true | _ => false) && (fdF f).closure.isEmpty && (fdF f).globals == mainGlobals && (fdF f).builtins == builtinsNs && codeIn (KK P) (fdF f).code (fdF f).qualname &&
 (names.all fun y => (scF f).names.lookup y == some .local || (scF f).names.lookup y == some .cell) && ((scF f).names.all fun y => y.2 != .free) && !(scF f).isCoroutine && !(scF f).isGenerator && (scF f).kind == .function
noncomputable def nmB (sc : Scope) (x : Str) : Bool := (sc.names.lookup x == some .local || sc.names.lookup x == some .cell) && !(x == ("__debug__" : Str))
noncomputable def vrB (sc : Scope) (x : Str) : Bool := sc.names.lookup x == some .local || sc.names.lookup x == some .cell
theorem isv {sc : Scope} {x : Str} (h : vrB sc x = true) : isVar sc x := by
 rcases Bool.or_eq_true_iff.mp h with q | q
 ·exact .inl (by simpa using q)
 ·exact .inr (by simpa using q)
section
variable {K : Params → Frag} {g : G K} {k : Nat} {sc : Scope} {m : Loc} {σ : AH}
theorem vn {x : Str} {pos : Pos} {a : AV} {Q : AV → AH → Prop} (hx : nmB sc x = true) (hm : m x = some a) (h : Q a σ) : EvW g k sc m σ (.Name x pos) Q := by
 simp only [nmB, Bool.and_eq_true, Bool.not_eq_true'] at hx
 rcases Bool.or_eq_true_iff.mp hx.1 with q | q
 ·exact EvW.local (by simpa using q) hm hx.2 h
 ·exact EvW.cell (by simpa using q) hm hx.2 h
theorem rq {x : Str} {p : Pos} {e : Expr} {pos : Pos} {Q : Fl → Loc → AH → Prop} (hx : vrB sc x = true) (hs : ∀ env, swapsWith e (some (.Name x p)) pos.line env = pure false) (h : EvW g k sc m σ e (KAsg m x Q)) : StW g k sc m σ (.Assign [.Name x p] e pos) Q := StW.assign (isv hx) hs h
theorem as_n {x : Str} {pos : Pos} {a : AV} {Q : Loc → AH → Prop} (hx : vrB sc x = true) (h : Q (upd m x a) σ) : AsgW g k sc m σ (.Name x pos) a Q := AsgW.name (isv hx) h
end
section
variable {g : G KK} {k : Nat} {σ : AH} {f : Addr} {Q : AV → AH → Prop} {st : Stmt} {rest : List Stmt}
theorem cf_core {names : List Str} {args : List AV} (hl : (KK g.w.params).lookup f = some ⟨.type "function", none, .func (fdF f), #[]⟩) (hb : fnB g.w.params f names = true) (hbd : ∀ vs : List Value, vs.length = names.length → bindArgs (fdF f) ⟨vs, []⟩ = pure (names.zip vs)) (hn : args.length = names.length)
  (hbody : bdF f = st :: rest) (h : ExW g k (scF f) (start names args) σ (st :: rest) (KFn Q)) : CodeW g (k + 1) (.ref f) args σ Q := by
 simp only [fnB, Bool.and_eq_true, Bool.not_eq_true', beq_iff_eq, List.isEmpty_iff] at hb
 (refine x0_1 hb ?_; clear hb; intro z1 b10; (refine x0_1 z1 ?_; clear z1; intro z1 b9; obtain ⟨⟨⟨⟨⟨⟨⟨b1, b2⟩, b3⟩, b4⟩, b5⟩, b6⟩, b7⟩, b8⟩ := z1))
 refine CodeW.fn (n := names.length) (body := st :: rest) ⟨⟨_, _, fdF f, _, hl, ?_, b2, b3, b4, rfl, b5, hbd⟩, rfl, b6, b7, b8, b9, b10⟩ hn h
 rw [← hbody]
 unfold bdF
 cases e : (fdF f).body with
 | stmts b => rfl
 | _ => rw [e] at b1; cases b1
theorem cf1 (x : Str) {a : AV} (hl : (KK g.w.params).lookup f = some ⟨.type "function", none, .func (fdF f), #[]⟩) (hb : fnB g.w.params f [x] = true) (hbd : ∀ v, bindArgs (fdF f) ⟨[v], []⟩ = pure [(x, v)])
  (hbody : bdF f = st :: rest) (h : ExW g k (scF f) (upd (fun ww => none) x a) σ (st :: rest) (KFn Q)) : CodeW g (k + 1) (.ref f) [a] σ Q :=
 cf_core hl hb (fun vs hv => by (refine x1_0 (len1 hv) ?_; intro v z2; obtain rfl := z2); exact hbd v) rfl hbody h
theorem cf2 (x y : Str) {a b : AV} (hl : (KK g.w.params).lookup f = some ⟨.type "function", none, .func (fdF f), #[]⟩) (hb : fnB g.w.params f [x, y] = true) (hbd : ∀ v w, bindArgs (fdF f) ⟨[v, w], []⟩ = pure [(x, v), (y, w)])
  (hbody : bdF f = st :: rest) (h : ExW g k (scF f) (upd (upd (fun ww => none) x a) y b) σ (st :: rest) (KFn Q)) : CodeW g (k + 1) (.ref f) [a, b] σ Q :=
 cf_core hl hb (fun vs hv => by (refine x2_0 (len2 hv) ?_; intro v w z3; obtain rfl := z3); exact hbd v w) rfl hbody h
theorem cf3 (x y z : Str) {a b c : AV} (hl : (KK g.w.params).lookup f = some ⟨.type "function", none, .func (fdF f), #[]⟩) (hb : fnB g.w.params f [x, y, z] = true) (hbd : ∀ v w u, bindArgs (fdF f) ⟨[v, w, u], []⟩ = pure [(x, v), (y, w), (z, u)])
  (hbody : bdF f = st :: rest) (h : ExW g k (scF f) (upd (upd (upd (fun ww => none) x a) y b) z c) σ (st :: rest) (KFn Q)) : CodeW g (k + 1) (.ref f) [a, b, c] σ Q :=
 cf_core hl hb (fun vs hv => by (refine x3_0 (len3 hv) ?_; intro v w u z4; obtain rfl := z4); exact hbd v w u) rfl hbody h
theorem cf4 (x y z t : Str) {a b c d : AV} (hl : (KK g.w.params).lookup f = some ⟨.type "function", none, .func (fdF f), #[]⟩) (hb : fnB g.w.params f [x, y, z, t] = true) (hbd : ∀ v w u r, bindArgs (fdF f) ⟨[v, w, u, r], []⟩ = pure [(x, v), (y, w), (z, u), (t, r)])
  (hbody : bdF f = st :: rest) (h : ExW g k (scF f) (upd (upd (upd (upd (fun ww => none) x a) y b) z c) t d) σ (st :: rest) (KFn Q)) : CodeW g (k + 1) (.ref f) [a, b, c, d] σ Q :=
 cf_core hl hb (fun vs hv => by (refine x4_0 (len4 hv) ?_; intro v w u r z5; obtain rfl := z5); exact hbd v w u r) rfl hbody h
theorem cf5 (x y z t u : Str) {a b c d e : AV} (hl : (KK g.w.params).lookup f = some ⟨.type "function", none, .func (fdF f), #[]⟩) (hb : fnB g.w.params f [x, y, z, t, u] = true) (hbd : ∀ v w o r q, bindArgs (fdF f) ⟨[v, w, o, r, q], []⟩ = pure [(x, v), (y, w), (z, o), (t, r), (u, q)])
  (hbody : bdF f = st :: rest) (h : ExW g k (scF f) (upd (upd (upd (upd (upd (fun ww => none) x a) y b) z c) t d) u e) σ (st :: rest) (KFn Q)) : CodeW g (k + 1) (.ref f) [a, b, c, d, e] σ Q :=
 cf_core hl hb (fun vs hv => by (refine x5_0 (len5 hv) ?_; intro v w o r q z5; subst z5); exact hbd v w o r q) rfl hbody h
end
end
section
set_option tactic.hygienic false
section
variable {K : Params → Frag} {g : G K} {k : Nat} {σ : AH}
inductive SwF (j : Nat) (xs : List PyData) : List (Str × AV) → List (Str × AV) → Prop
 | nil : SwF j xs [] []
 | same {x a fs fs'} : SwF j xs fs fs' → SwF j xs ((x, a) :: fs) ((x, a) :: fs')
 | sw {x fs fs'} : SwF j xs fs fs' → SwF j xs ((x, .r j) :: fs) ((x, .d (.list xs)) :: fs')
theorem Ents.sw {W : Wd} {j : Nat} {xs : List PyData} {fs fs' : List (Str × AV)} (h : SwF j xs fs fs') : ∀ {es : List DictEntry}, Ents W es fs → Rd W.F (.ref (W.φ j)) (.list xs) → Ents W es fs' := by
 induction h with
 | nil => exact fun z ww => z
 | same _ ih => intro es z r; cases z with | cons v z => exact .cons v (ih z r)
 | sw _ ih => intro es z r; cases z with | cons v z => exact .cons (by rw [v.2]; exact r) (ih z r)
theorem CodeW.settle {f : Value} {args : List AV} {Q : AV → AH → Prop} (h : CodeW g k f args σ (fun a σ' => ∃ i j C fs fs' xs, σ'.get i = some (.inst C fs) ∧ σ'.get j = some (.list xs) ∧ SwF j xs fs fs' ∧ Q a ((σ'.del j).set i (.inst C fs')))) : CodeW g k f args σ Q := fun A W s vs R X V =>
 codeAny_mono (h A W s vs R X V) fun r s' h => by
  cases r with
  | error e => exact h
  | ok fl =>
   cases fl with
   | ret v =>
    obtain ⟨W', σ', a, st, p, vr, i, j, C, fs, fs', xs, e1, e2, sw, q⟩ := h
    (refine x1_2 (st.abs.settle (fs' := fs') (x := "") e1 e2 fun W2 es z rd hφ ww => Ents.sw sw z (by rw [hφ]; exact rd)) ?_; intro W2 X2 l p2)
    exact ⟨W2, _, a, ⟨X2, st.le.trans l, st.os, st.gens⟩, p2.trans p, vr.le l, q⟩
   | _ => exact h
end
end
section
set_option tactic.hygienic false
section
variable {K : Params → Frag} {g : G K} {k : Nat} {sc : Scope} {m : Loc} {σ : AH}
noncomputable abbrev KFmE (σ : AH) (I : Loc → Prop) (r : Option PyData) (m : Loc) : AV → AH → Prop := fun v σ3 => σ3 = σ ∧ I m ∧ ∃ y, v = .d y ∧ r = some y
noncomputable abbrev KFm2 (g : G K) (k : Nat) (sc : Scope) (elt : Expr) (σ : AH) (I : Loc → Prop) (r : Option PyData) (m : Loc) : Bool → AH → Prop := fun ok σ2 => if ok = true then EvW g k sc m σ2 elt (KFmE σ I r m) else σ2 = σ ∧ I m ∧ r = none
noncomputable abbrev KFm1 (g : G K) (k : Nat) (sc : Scope) (ifs : List Expr) (elt : Expr) (σ : AH) (I : Loc → Prop) (r : Option PyData) : Loc → AH → Prop := fun m σ1 => IfsW g k sc m σ1 ifs (KFm2 g k sc elt σ I r m)
theorem cF {α : Type} {T : Expr} {ifs : List Expr} {elt : Expr} {Q : Loc → AH → List PyData → Prop} (e : α → PyData) (f : α → Option PyData) (I : Loc → Prop) (xs : List α) {ys : List PyData} (hl : ys.length + xs.length ≤ 10000) (hI : I m)
  (step : ∀ a, a ∈ xs → ∀ m, I m → AsgC g k sc m σ T (.d (e a)) (KFm1 g k sc ifs elt σ I (f a)))
  (q : ∀ m', I m' → Q m' σ (ys ++ xs.filterMap f)) : CompL g k sc T ifs (Em.elt g k sc elt) Q (xs.map e) m σ ys := by
 induction xs generalizing m ys with
 | nil => have := q m hI; simp at this; exact CompL.nil this
 | cons a r ih =>
  rw [List.map_cons]
  refine CompL.cons (AsgC.mono (step a (List.mem_cons_self ..) m hI) fun m1 σ1 h => IfsW.mono h fun ok σ2 h => ?_)
  simp only [List.length_cons] at hl
  cases ok with
  | true =>
   unfold KFm2 at h; rw [if_pos rfl] at h
   refine jt (Em.elt_i (h.mono fun v σ3 z => ?_))
   (refine x0_1 z ?_; clear z; intro z1 z2; obtain rfl := z1; refine x0_1 z2 ?_; clear z2; intro hI1 z3; refine x1_1 z3 ?_; clear z3; intro y z4 hf; obtain rfl := z4)
   refine ⟨y, rfl, by lia, ih (by simp; lia) hI1 (fun a ha => step a (List.mem_cons_of_mem _ ha)) fun m' hm' => ?_⟩
   have := q m' hm'
   rw [List.filterMap_cons_some hf] at this
   rw [List.append_assoc]; exact this
  | false =>
   unfold KFm2 at h; rw [if_neg Bool.false_ne_true] at h
   (refine x0_1 h ?_; clear h; intro z5 z6; obtain rfl := z5; refine x0_1 z6 ?_; clear z6; intro hI1 hf)
   refine jf (ih (by lia) hI1 (fun a ha => step a (List.mem_cons_of_mem _ ha)) fun m' hm' => ?_)
   have := q m' hm'
   rw [List.filterMap_cons_none hf] at this
   exact this
theorem ForL.over {α : Type} {T : Expr} {body : List Stmt} {Q : Fl → Loc → AH → Prop} (e : α → PyData) (xs : List α) (I : List α → Loc → AH → Prop) (h0 : I [] m σ) (fin : ∀ m σ, I xs m σ → Q .next m σ)
  (step : ∀ done a rest, xs = done ++ a :: rest → ∀ m σ, I done m σ → AsgW g k sc m σ T (.d (e a)) (KBody g k sc body (KNext (I (done ++ [a])) Q))) : ForL g k sc T body Q (xs.map e) m σ := by
 have key : ∀ (rest done : List α) (m : Loc) (σ : AH), xs = done ++ rest → I done m σ → ForL g k sc T body Q (rest.map e) m σ := by
  intro rest
  induction rest with
  | nil => intro done m σ e h; rw [List.append_nil] at e; subst e; exact fin _ _ h
  | cons a r ih =>
   intro done m σ e h
   refine (step done a r e m σ h).mono fun m1 σ1 h => ExW.mono h fun f m2 σ2 h => ?_
   cases f with
   | next => exact ih (done ++ [a]) m2 σ2 (by rw [e]; simp) h
   | ret v => exact h
 exact key xs [] m σ rfl h0
end
end
section
set_option tactic.hygienic false
section
variable {K : Params → Frag} {g : G K} {k : Nat} {sc : Scope} {m : Loc} {σ : AH}
theorem sliceL_take {α : Type} (xs : List α) (n : Nat) : sliceL xs none (some (n : Int)) = xs.take n := by
 unfold sliceL Builtin.Slice.sliceAdjust
 simp only [show ¬ ((1 : Int) < 0) by lia, if_false, show ¬ ((n : Int) < 0) by lia]
 simp only [Int.toNat_zero, List.drop_zero, Int.sub_zero]
 rcases Nat.le_total n xs.length with h | h
 ·rw [show (min (n : Int) xs.length).toNat = n by lia]
 ·rw [show (min (n : Int) xs.length).toNat = xs.length by lia, List.take_length, List.take_of_length_le h]
theorem sliceL_drop {α : Type} (xs : List α) (n : Nat) : sliceL xs (some (n : Int)) none = xs.drop n := by
 unfold sliceL Builtin.Slice.sliceAdjust
 simp only [show ¬ ((1 : Int) < 0) by lia, if_false, show ¬ ((n : Int) < 0) by lia]
 rcases Nat.le_total n xs.length with h | h
 ·rw [show (min (n : Int) xs.length).toNat = n by lia]
  exact List.take_of_length_le (by rw [List.length_drop]; lia)
 ·rw [show (min (n : Int) xs.length).toNat = xs.length by lia, List.drop_of_length_le h, List.drop_of_length_le (Nat.le_refl _)]
  simp
theorem sliceL_init {α : Type} (xs : List α) (a : α) : sliceL (xs ++ [a]) none (some (-1)) = xs := by
 unfold sliceL Builtin.Slice.sliceAdjust
 simp only [show ¬ ((1 : Int) < 0) by lia, if_false, show ((-1 : Int) < 0) by lia, if_true, List.length_append, List.length_singleton]
 simp only [Int.toNat_zero, List.drop_zero, Int.sub_zero]
 rw [show (max (-1 + ((xs.length + 1 : Nat) : Int)) 0).toNat = xs.length by lia]
 simp
theorem EvW.takeT {v hi : Expr} {sp pos : Pos} {Q : AV → AH → Prop} (h : EvW g k sc m σ v (fun a σ1 => ∃ xs, a = .d (.tuple xs) ∧ xs.length ≤ 10000 ∧ EvW g k sc m σ1 hi (fun u σ2 => ∃ n : Nat, u = .d (.int (n : Nat)) ∧ Q (.d (.tuple (xs.take n))) σ2))) :
  EvW g k sc m σ (.Subscript v (.Slice Option.none (some hi) Option.none sp) pos) Q := EvW.sliceT (h.mono fun a σ1 h => by
 (refine x1_2 h ?_; clear h; intro xs e hl h)
 refine ⟨xs, e, hl, h.mono fun u σ2 h => ?_⟩
 (refine x1_1 h ?_; clear h; intro n e q)
 exact ⟨n, e, by show Q (.d (.tuple (sliceL xs Option.none (some (n : Int))))) σ2; rw [sliceL_take]; exact q⟩)
theorem EvW.dropT {v lo : Expr} {sp pos : Pos} {Q : AV → AH → Prop} (h : EvW g k sc m σ v (fun a σ1 => ∃ xs, a = .d (.tuple xs) ∧ xs.length ≤ 10000 ∧ EvW g k sc m σ1 lo (fun u σ2 => ∃ n : Nat, u = .d (.int (n : Nat)) ∧ Q (.d (.tuple (xs.drop n))) σ2))) :
  EvW g k sc m σ (.Subscript v (.Slice (some lo) Option.none Option.none sp) pos) Q := EvW.sliceT (h.mono fun a σ1 h => by
 (refine x1_2 h ?_; clear h; intro xs e hl h)
 refine ⟨xs, e, hl, h.mono fun u σ2 h => ?_⟩
 (refine x1_1 h ?_; clear h; intro n e q)
 exact ⟨n, e, by show Q (.d (.tuple (sliceL xs (some (n : Int)) Option.none))) σ2; rw [sliceL_drop]; exact q⟩)
theorem EvW.initT {v hi : Expr} {sp pos : Pos} {Q : AV → AH → Prop} (h : EvW g k sc m σ v (fun a σ1 => ∃ xs d, a = .d (.tuple (xs ++ [d])) ∧ xs.length ≤ 1000 ∧ EvW g k sc m σ1 hi (fun u σ2 => u = .d (.int (-1)) ∧ Q (.d (.tuple xs)) σ2))) :
  EvW g k sc m σ (.Subscript v (.Slice Option.none (some hi) Option.none sp) pos) Q := EvW.sliceT (h.mono fun a σ1 h => by
 (refine x2_2 h ?_; clear h; intro xs d e hl h)
 refine ⟨xs ++ [d], e, by simp; lia, h.mono fun u σ2 h => ?_⟩
 (refine x0_1 h ?_; clear h; intro e q)
 exact ⟨-1, e, by show Q (.d (.tuple (sliceL (xs ++ [d]) Option.none (some (-1))))) σ2; rw [sliceL_init]; exact q⟩)
end
end
section
set_option tactic.hygienic false
noncomputable def nst : Expr → Bool
 | .Starred _ _ => false
 | _ => true
theorem star_cons {e : Expr} {es : List Expr} (h : nst e = true) (env : Env) : starEach (e :: es) env = (false, eval e env) :: starEach es env := by
 cases e <;> first | rfl | cases h
section
variable {K : Params → Frag} {g : G K} {k : Nat} {sc : Scope} {m : Loc} {σ : AH}
theorem zn {x : Str} {pos : Pos} {a : AV} {Q : AV → AH → Prop} (hx : nmB sc x = true := by kernel_rfl) (hm : m x = some a := by walk_at "lk") (h : Q a σ) : EvW g k sc m σ (.Name x pos) Q := vn hx hm h
theorem zc {e : Expr} {es : List Expr} {Q : List AV → AH → Prop} (he : nst e = true) (h : EvW g k sc m σ e (KSp g k sc m es Q)) : SpW g k sc m σ (e :: es) Q := rs_cons (star_cons he) h
theorem zeqS (b : Bool) {x y : Str} {Q : AV → AH → Prop} (h : (PySem.SeqAt.shaped (.str x) && PySem.SeqAt.shaped (.str y) && (PyData.eqv (.str x) (.str y) == b)) = true) (q : Q (.d (.bool b)) σ) : CmpW g k .Eq (.d (.str x)) (.d (.str y)) σ Q := by
 simp only [Bool.and_eq_true, beq_iff_eq] at h
 exact CmpW.eqS b h.1.1 h.1.2 h.2 q
theorem at2 {x y : Str} {p q pos : Pos} {n : Nat} {a b : PyData} {Q : Loc → AH → Prop} (hx : vrB sc x = true) (hy : vrB sc y = true) (h : Q (upd (upd m x (.d a)) y (.d b)) σ) : AsgW g k sc m σ (.Tuple [.Name x p, .Name y q] n pos) (.d (.tuple [a, b])) Q :=
 AsgW.tup rfl (fun z hz => by
  rcases List.mem_cons.mp hz with rfl | hz
  ·exact isv hx
  ·rw [List.mem_singleton.mp hz]; exact isv hy) rfl h
theorem ac2 {x y : Str} {p q pos : Pos} {n : Nat} {a b : PyData} {Q : Loc → AH → Prop} (hx : sc.names.lookup x = some .local) (hy : sc.names.lookup y = some .local) (h : Q (upd (upd m x (.d a)) y (.d b)) σ) : AsgC g k sc m σ (.Tuple [.Name x p, .Name y q] n pos) (.d (.tuple [a, b])) Q :=
 AsgC.tup rfl (fun z hz => by
  rcases List.mem_cons.mp hz with rfl | hz
  ·exact hx
  ·rw [List.mem_singleton.mp hz]; exact hy) rfl h
end
section
variable {g : G KK} {k : Nat} {sc : Scope} {m : Loc} {σ : AH}
theorem za {i : Nat} {C : Addr} {fs : List (Str × AV)} {v : AV} {x : Str} {Q : AV → AH → Prop} (h : σ.get i = some (.inst C fs) := by walk_at "gt") (hl : fs.lookup x = some v := by walk_at "lu") (hc : clsOk (KK g.w.params) C = true := by walk_at "kr") (ha : attrOk (KK g.w.params) C x = true := by walk_at "kr") (q : Q v σ) : KAt g x Q (.r i) σ := ra_of h hl hc ha q
theorem zsa {i : Nat} {C : Addr} {fs fs' : List (Str × AV)} {a : AV} {x : Str} {Q : Fl → Loc → AH → Prop} (h : σ.get i = some (.inst C fs) := by walk_at "gt") (hp : putFs x a fs = fs' := by walk_at "pf") (hl : fs.length ≤ 100) (hc : clsOk (KK g.w.params) C = true := by walk_at "kr") (ha : attrOk (KK g.w.params) C x = true := by walk_at "kr") (q : Q .next m (σ.set i (.inst C fs'))) : KSa2 g x m a Q (.r i) σ := rs_of h hp hl hc ha q
theorem zm {i : Nat} {C f : Addr} {fs : List (Str × AV)} {x : Str} {args : List Expr} {Q : AV → AH → Prop} (h : σ.get i = some (.inst C fs) := by walk_at "gt") (hl : fs.lookup x = none := by walk_at "kr") (q : SpW g k sc m σ args (KCons (.r i) (KCall g k (.ref f) Q))) : KMt g k sc m C f x args Q (.r i) σ := rm_of h hl q
end
end
local macro_rules | `(tactic| walk_at "mf") => `(tactic| exact ⟨fun env => rfl, rfl, fun env => rfl, fun env => rfl⟩)
local macro_rules | `(tactic| walk_at "lk") => `(tactic| first | with_reducible exact lk_here | with_reducible assumption | ((with_reducible refine' lk_comp ?h1 ?h2); (case h1 => kernel_rfl); (case h2 => walk_at "lk")) | ((with_reducible refine' lk_there ?h1 ?h2); (case h1 => kernel_rfl); (case h2 => walk_at "lk")))
local macro_rules | `(tactic| walk_at "gt") => `(tactic| first | with_reducible assumption | with_reducible exact gP | with_reducible exact gS | ((with_reducible refine' ah ?h1 ?h2); (case h1 => first | lia | (simp only [AH.next_set, AH.next_push] at *; lia)); (case h2 => walk_at "gt")) | ((with_reducible refine' al ?h1 ?h2); (case h1 => first | lia | (simp only [AH.next_set, AH.next_push] at *; lia)); (case h2 => walk_at "gt")))
local macro_rules | `(tactic| walk_at "lu") => `(tactic| first | with_reducible exact lu_here | ((with_reducible refine' lu_there ?h1 ?h2); (case h1 => kernel_rfl); (case h2 => walk_at "lu")))
local macro_rules | `(tactic| walk_at "pf") => `(tactic| first | with_reducible exact pf_here | with_reducible exact pf_nil | ((with_reducible refine' pf_there ?h1 ?h2); (case h1 => kernel_rfl); (case h2 => walk_at "pf")))
local macro_rules | `(tactic| walk_at "kr") => `(tactic| first | with_reducible assumption | kernel_rfl)
local macro_rules | `(tactic| walk_at "frz") => `(tactic| first | (refine' tup_of ?h1 ?h2 ?_; (case h1 => exact rfl); (case h2 => simp)) | (refine' ⟨_, _, frz_of ?h1, ?h2, ?_⟩; (case h1 => exact rfl); (case h2 => simp)))
local macro_rules | `(tactic| walk_at "he") => `(tactic| (intro env he; cases env; dsimp only at he; subst he; rfl))
section
set_option tactic.hygienic false
section
variable (g : G KK) {σ : AH} {k : Nat}
noncomputable abbrev ivl (lo hi : Int) : PyData := .tuple [.tuple [.int lo, .int hi]]
theorem c_least {lo : Int} {r1 r2 : List PyData} {Q : AV → AH → Prop} (hl : r1.length ≤ 100) (hl2 : r2.length ≤ 100) (q : Q (.d (.int lo)) σ) : CodeW g (k + 1) (.ref 28) [.d (.tuple (.tuple (.int lo :: r1) :: r2))] σ Q := by
 refine cf1 "d" (by kernel_rfl) (by kernel_rfl) (fun ww => rfl) rfl ?_
 refine aa (ag (af (af (zn (h := ei ?_)))))
 refine ak (by intro o i; rfl) (by lia) ?_
 refine ei ?_
 refine ak (by intro o i; rfl) (by lia) ?_
 exact q
theorem c_greatest {lo hi : Int} {Q : AV → AH → Prop} (q : Q (.d (.int hi)) σ) : CodeW g (k + 1) (.ref 35) [.d (ivl lo hi)] σ Q := by
 refine cf1 "d" (by kernel_rfl) (by kernel_rfl) (fun ww => rfl) rfl ?_
 refine aa (ag (af (af (zn (h := rv_un (ei (UnW.neg ?_)))))))
 refine SubW.tl (xs := []) ?_ (by simp) ?_
 ·intro o i; rfl
 refine ei (SubW.t1 (fun ww ww => rfl) (by simp) ?_)
 exact q
theorem c_next_from {lo hi v : Int} {Q : AV → AH → Prop} (q : Q (.d (if v ≤ hi then .int (max lo v) else .none)) σ) : CodeW g (k + 1) (.ref 42) [.d (ivl lo hi), .d (.int v)] σ Q := by
 refine cf2 "d" "v" (by kernel_rfl) (by kernel_rfl) (fun ww ww => rfl) rfl ?_
 refine aa ?_
 refine rw_for (noFree (by kernel_rfl)) (fun ww ww => rfl) ?_
 refine src_of ?_
 refine zn (h := ?_)
 refine ⟨_, .inr rfl, ?_⟩
 refine AsgW.tuple (ns := [("low", _), ("high", _)]) rfl (isVars (by kernel_rfl)) rfl ?_
 dsimp only [uA, List.map]
 refine aa (ri (ad rfl (zn (h := zn (h := CmpW.le (ab ?_))))))
 by_cases h : v ≤ hi
 ·refine jd h ?_
  rw [if_pos h] at q
  refine aa (ag (ec .max (by kernel_rfl) (fun ww => rfl) (zc rfl (zn (h := zc rfl (zn (h := sn (CallW.max2 ?_))))))))
  exact q
 ·refine jn h ?_
  rw [if_neg h] at q
  refine xn (xn (ForL.nil (aa (ag (EvW.none ?_)))))
  exact q
theorem c_has {lo hi v : Int} {Q : AV → AH → Prop} (q : Q (.d (.bool (decide (lo ≤ v ∧ v ≤ hi)))) σ) : CodeW g (k + 2) (.ref 49) [.d (ivl lo hi), .d (.int v)] σ Q := by
 refine cf2 "d" "v" (by kernel_rfl) (by kernel_rfl) (fun ww ww => rfl) rfl ?_
 refine aa (ag (rv_cmp rfl (ec .next_from (by kernel_rfl) (fun ww => rfl) (zc rfl (zn (h := zc rfl (zn (h := sn ?_))))))))
 refine (c_next_from g ?_).call
 refine zn (h := ?_)
 have e : PyData.eqv (if v ≤ hi then .int (max lo v) else .none) (.int v) = decide (lo ≤ v ∧ v ≤ hi) := by
  by_cases h : v ≤ hi
  ·rw [if_pos h]
   simp only [PyData.eqv]
   by_cases h2 : lo ≤ v
   ·simp [h, h2, Int.max_eq_right h2]
   ·simp [h, h2]; lia
  ·rw [if_neg h]; simp [PyData.eqv, h]
 refine CmpW.eq (x := if v ≤ hi then .int (max lo v) else .none) (y := .int v) rfl rfl ?_ rfl ?_
 ·split <;> rfl
 ·rw [e]
  exact q
end
end
section
set_option tactic.hygienic false
section
variable (g : G KK) {σ : AH} {k : Nat}
noncomputable def domD : Option (Int × Int) → PyData
 | none => .tuple []
 | some (lo, hi) => ivl lo hi
theorem c_up_to {lo hi v : Int} {Q : AV → AH → Prop} (q : Q (.d (domD (if lo ≤ v then some (lo, min hi v) else none))) σ) : CodeW g (k + 2) (.ref 54) [.d (ivl lo hi), .d (.int v)] σ Q := by
 refine cf2 "d" "k" (by kernel_rfl) (by kernel_rfl) (fun ww ww => rfl) rfl ?_
 refine aa (ag (ec .tuple (by kernel_rfl) (fun ww => rfl) (zc rfl ?_)))
 refine rv_comp (by kernel_rfl) (fun ww ww => rfl) ?_
 refine src_of ?_
 refine zn (h := ?_)
 refine ⟨_, .inr rfl, ?_⟩
 refine rc_cons (ac2 (by kernel_rfl) (by kernel_rfl) (IfsW.one (ad rfl (zn (h := zn (h := CmpW.le (ab ?_)))))))
 by_cases h : lo ≤ v
 ·refine jd h ?_
  rw [if_pos h] at q
  refine rc_elt (ai (zc rfl (zn (h := zc rfl (ec .min (by kernel_rfl) (fun ww => rfl) (zc rfl (zn (h := zc rfl (zn (h := sn (CallW.min2 (sn ?_))))))))))))
  walk_at "frz"
  refine ⟨_, rfl, by simp, ?_⟩
  refine CompL.nil (sn ?_)
  exact cL rfl (by simp) q
 ·refine jn h ?_
  rw [if_neg h] at q
  refine CompL.nil (sn ?_)
  exact cL rfl (by simp) q
theorem c_from_on {lo hi v : Int} {Q : AV → AH → Prop} (q : Q (.d (domD (if v ≤ hi then some (max lo v, hi) else none))) σ) : CodeW g (k + 2) (.ref 59) [.d (ivl lo hi), .d (.int v)] σ Q := by
 refine cf2 "d" "k" (by kernel_rfl) (by kernel_rfl) (fun ww ww => rfl) rfl ?_
 refine aa (ag (ec .tuple (by kernel_rfl) (fun ww => rfl) (zc rfl ?_)))
 refine rv_comp (by kernel_rfl) (fun ww ww => rfl) ?_
 refine src_of ?_
 refine zn (h := ?_)
 refine ⟨_, .inr rfl, ?_⟩
 refine rc_cons (ac2 (by kernel_rfl) (by kernel_rfl) (IfsW.one (ad rfl (zn (h := zn (h := CmpW.ge (ab ?_)))))))
 by_cases h : v ≤ hi
 ·refine jd h ?_
  rw [if_pos h] at q
  refine rc_elt (ai (zc rfl (ec .max (by kernel_rfl) (fun ww => rfl) (zc rfl (zn (h := zc rfl (zn (h := sn (CallW.max2 (zc rfl (zn (h := sn ?_))))))))))))
  walk_at "frz"
  refine ⟨_, rfl, by simp, ?_⟩
  refine CompL.nil (sn ?_)
  exact cL rfl (by simp) q
 ·refine jn h ?_
  rw [if_neg h] at q
  refine CompL.nil (sn ?_)
  exact cL rfl (by simp) q
noncomputable def wo (v lo hi : Int) : Option (Int × Int) := if v = lo then (if lo < hi then some (hi, hi) else none) else if v = hi then some (lo, lo) else some (lo, hi)
theorem c_without {lo hi v : Int} {Q : AV → AH → Prop} (h1 : lo ≤ hi) (h2 : hi ≤ lo + 1) (q : Q (.d (domD (wo v lo hi))) σ) : CodeW g (k + 3) (.ref 66) [.d (ivl lo hi), .d (.int v)] σ Q := by
 refine cf2 "d" "v" (by kernel_rfl) (by kernel_rfl) (fun ww ww => rfl) rfl ?_
 refine aa (ag (aj (ec .up_to (by kernel_rfl) (fun ww => rfl) (zc rfl (zn (h := zc rfl (aj (zn (h := ei (BinW.sub (sn ?_)))))))))))
 refine (c_up_to g ?_).call
 refine ec .from_on (by kernel_rfl) (fun ww => rfl) (zc rfl (zn (h := zc rfl (aj (zn (h := ei (BinW.add (sn ?_))))))))
 refine (c_from_on g ?_).call
 have e : ∃ xs ys, domD (if lo ≤ v - 1 then some (lo, min hi (v - 1)) else none) = .tuple xs ∧ domD (if v + 1 ≤ hi then some (max lo (v + 1), hi) else none) = .tuple ys ∧ domD (wo v lo hi) = .tuple (xs ++ ys) ∧ xs.length + ys.length ≤ 10000 := by
  unfold wo
  rcases Int.lt_trichotomy v lo with h | h | h
  ·rw [if_neg (by lia), if_pos (by lia), if_neg (by lia), if_neg (by lia), Int.max_eq_left (by lia)]
   exact ⟨[], _, rfl, rfl, rfl, by simp⟩
  ·rw [if_neg (by lia), if_pos h]
   by_cases h3 : lo < hi
   ·rw [if_pos (by lia), if_pos h3, show max lo (v + 1) = hi by lia]
    exact ⟨[], _, rfl, rfl, rfl, by simp⟩
   ·rw [if_neg (by lia), if_neg h3]
    exact ⟨[], [], rfl, rfl, rfl, by simp⟩
  ·rw [if_pos (by lia), if_neg (show ¬ v = lo by lia)]
   by_cases h3 : v = hi
   ·rw [if_neg (by lia), if_pos h3, show min hi (v - 1) = lo by lia]
    exact ⟨_, [], rfl, rfl, rfl, by simp⟩
   ·rw [if_neg (by lia), if_neg h3, show min hi (v - 1) = hi by lia]
    exact ⟨_, [], rfl, rfl, rfl, by simp⟩
 (refine x2_3 e ?_; clear e; intro xs ys e1 e2 e3 e4)
 rw [e1, e2]
 rw [e3] at q
 exact BinW.cat e4 q
theorem c_meet {lo hi v : Int} {Q : AV → AH → Prop} (q : Q (.d (domD (if lo ≤ v ∧ v ≤ hi then some (v, v) else none))) σ) : CodeW g (k + 1) (.ref 73) [.d (ivl lo hi), .d (ivl v v)] σ Q := by
 refine CodeW.gc ?_
 refine cf2 "d" "e" (by kernel_rfl) (by kernel_rfl) (fun ww ww => rfl) rfl ?_
 refine ExW.cons ?_
 refine StW.swapped (ns := ["found", "i", "j"]) (isVarsS (by kernel_rfl)) (by intro env; rfl) (by walk_at "he") ?_
 refine TpW.display ?_
 refine SpW.cons (by intro env; rfl) ?_
 refine EvW.lst0 ?_
 refine zc rfl (ei (zc rfl (ei (sn ?_))))
 refine ⟨by simp, rfl, ?_⟩
 dsimp only [List.reverse, List.reverseAux, uA]
 refine aa ?_
 refine StW.whileN 2 ?_
 refine WhL.turn ?_
 refine rt_and (ad rfl (zn (h := ec .len (by kernel_rfl) (fun ww => rfl) (zc rfl (zn (h := sn (CallW.lenT (by first | exact Nat.le_of_ble_eq_true rfl | (simp; done) | assumption | lia) (CmpW.lt (ab ?_)))))))))
 refine jd (by simp) ?_
 refine rt_and (ad rfl (zn (h := ec .len (by kernel_rfl) (fun ww => rfl) (zc rfl (zn (h := sn (CallW.lenT (by first | exact Nat.le_of_ble_eq_true rfl | (simp; done) | assumption | lia) (CmpW.lt (ab ?_)))))))))
 refine jd (by simp) ?_
 refine TsW.and0 (jt (aa ?_))
 refine StW.swapped (ns := ["low", "high"]) (isVarsS (by kernel_rfl)) (by intro env; rfl) (by walk_at "he") ?_
 refine TpW.display ?_
 refine zc rfl (ec .max (by kernel_rfl) (fun ww => rfl) (zc rfl (af (af (zn (h := zn (h := ak (fun ww ww => rfl) (by simp) (ei (ak (fun ww ww => rfl) (by simp) (zc rfl (af (af (zn (h := zn (h := ak (fun ww ww => rfl) (by simp) (ei (ak (fun ww ww => rfl) (by simp) (sn (CallW.max2 (zc rfl (ec .min (by kernel_rfl) (fun ww => rfl) (zc rfl (af (af (zn (h := zn (h := ak (fun ww ww => rfl) (by simp) (ei (SubW.t1 (fun ww ww => rfl) (by simp) (zc rfl (af (af (zn (h := zn (h := ak (fun ww ww => rfl) (by simp) (ei (SubW.t1 (fun ww ww => rfl) (by simp) (sn (CallW.min2 (sn ?_))))))))))))))))))))))))))))))))))))))))
 refine ⟨by simp, rfl, ?_⟩
 dsimp only [List.reverse, List.reverseAux, uA]
 refine aa (ri (ad rfl (zn (h := zn (h := CmpW.le (ab ?_))))))
 by_cases h : lo ≤ v ∧ v ≤ hi
 ·rw [if_pos h] at q
  refine jd (by lia) ?_
  refine aa (rw_expr (fun ww => rfl) (EvW.append (by walk_at "mf") (zn (h := ?_))))
  refine ⟨σ.next, [], rfl, gP, ?_⟩
  refine zc rfl (ai (zc rfl (zn (h := zc rfl (zn (h := sn ?_))))))
  walk_at "frz"
  refine sn ?_
  refine ⟨_, _, rfl, gP, by simp, rfl, ?_⟩
  refine xn (aa (ri (ad rfl (af (af (zn (h := zn (h := ak (fun ww ww => rfl) (by simp) (ei (SubW.t1 (fun ww ww => rfl) (by simp) (af (af (zn (h := zn (h := ak (fun ww ww => rfl) (by simp) (ei (SubW.t1 (fun ww ww => rfl) (by simp) (CmpW.lt (ab ?_)))))))))))))))))))
  refine jn (by lia) ?_
  refine aa (rq (by kernel_rfl) (fun ww => rfl) (aj (zn (h := ei (BinW.add (xn (xn ?_)))))))
  refine WhL.turn ?_
  refine rt_and (ad rfl (zn (h := ec .len (by kernel_rfl) (fun ww => rfl) (zc rfl (zn (h := sn (CallW.lenT (by first | exact Nat.le_of_ble_eq_true rfl | (simp; done) | assumption | lia) (CmpW.lt (ab ?_)))))))))
  refine jd (by simp) ?_
  refine rt_and (ad rfl (zn (h := ec .len (by kernel_rfl) (fun ww => rfl) (zc rfl (zn (h := sn (CallW.lenT (by first | exact Nat.le_of_ble_eq_true rfl | (simp; done) | assumption | lia) (CmpW.lt (ab ?_)))))))))
  refine jn (by simp) ?_
  refine jf (aa (ag (ec .tuple (by kernel_rfl) (fun ww => rfl) (zc rfl (zn (h := sn ?_))))))
  refine cL (xs := [.tuple [.int (max lo v), .int (min hi v)]]) (.r gS) (by simp) ?_
  refine ⟨_, rfl, fun i hi => ?_, ?_⟩
  ·rw [AH.get_set_ne (by lia), AH.get_push_old hi]
  ·rw [Int.max_eq_right h.1, Int.min_eq_right h.2]; exact q
 ·rw [if_neg h] at q
  refine jn (by lia) ?_
  refine xn (aa (ri (ad rfl (af (af (zn (h := zn (h := ak (fun ww ww => rfl) (by simp) (ei (SubW.t1 (fun ww ww => rfl) (by simp) (af (af (zn (h := zn (h := ak (fun ww ww => rfl) (by simp) (ei (SubW.t1 (fun ww ww => rfl) (by simp) (CmpW.lt (ab ?_)))))))))))))))))))
  by_cases h2 : hi < v
  ·refine jd h2 ?_
   refine aa (rq (by kernel_rfl) (fun ww => rfl) (aj (zn (h := ei (BinW.add (xn (xn ?_)))))))
   refine WhL.turn ?_
   refine rt_and (ad rfl (zn (h := ec .len (by kernel_rfl) (fun ww => rfl) (zc rfl (zn (h := sn (CallW.lenT (by first | exact Nat.le_of_ble_eq_true rfl | (simp; done) | assumption | lia) (CmpW.lt (ab ?_)))))))))
   refine jn (by simp) ?_
   refine jf (aa (ag (ec .tuple (by kernel_rfl) (fun ww => rfl) (zc rfl (zn (h := sn ?_))))))
   refine cL (xs := []) (.r gP) (by simp) ?_
   exact ⟨_, rfl, fun i hi => AH.get_push_old hi, q⟩
  ·refine jn h2 ?_
   refine aa (rq (by kernel_rfl) (fun ww => rfl) (aj (zn (h := ei (BinW.add (xn (xn ?_)))))))
   refine WhL.turn ?_
   refine rt_and (ad rfl (zn (h := ec .len (by kernel_rfl) (fun ww => rfl) (zc rfl (zn (h := sn (CallW.lenT (by first | exact Nat.le_of_ble_eq_true rfl | (simp; done) | assumption | lia) (CmpW.lt (ab ?_)))))))))
   refine jd (by simp) ?_
   refine rt_and (ad rfl (zn (h := ec .len (by kernel_rfl) (fun ww => rfl) (zc rfl (zn (h := sn (CallW.lenT (by first | exact Nat.le_of_ble_eq_true rfl | (simp; done) | assumption | lia) (CmpW.lt (ab ?_)))))))))
   refine jn (by simp) ?_
   refine jf (aa (ag (ec .tuple (by kernel_rfl) (fun ww => rfl) (zc rfl (zn (h := sn ?_))))))
   refine cL (xs := []) (.r gP) (by simp) ?_
   exact ⟨_, rfl, fun i hi => AH.get_push_old hi, q⟩
end
end
section
set_option tactic.hygienic false
section
variable (g : G KK) {σ : AH} {k : Nat}
inductive Sg where
 | le | ge | eq | ne
noncomputable def Sg.s : Sg → Str
 | .le => "<="
 | .ge => ">="
 | .eq => "="
 | .ne => "!="
structure Lit where
 x : Nat
 s : Sg
 k : Int
noncomputable def Lit.d (l : Lit) : PyData := .tuple [.int (l.x : Nat), .str l.s.s, .int l.k]
noncomputable def Lit.neg : Lit → Lit
 | ⟨x, .le, k⟩ => ⟨x, .ge, k + 1⟩
 | ⟨x, .ge, k⟩ => ⟨x, .le, k - 1⟩
 | ⟨x, .eq, k⟩ => ⟨x, .ne, k⟩
 | ⟨x, .ne, k⟩ => ⟨x, .eq, k⟩
noncomputable def Lit.sat : Lit → Int → Prop
 | ⟨_, .le, k⟩, v => v ≤ k
 | ⟨_, .ge, k⟩, v => k ≤ v
 | ⟨_, .eq, k⟩, v => v = k
 | ⟨_, .ne, k⟩, v => v ≠ k
noncomputable def Lit.cut : Lit → Int → Int → Option (Int × Int)
 | ⟨_, .le, k⟩, lo, hi => if lo ≤ k then some (lo, min hi k) else none
 | ⟨_, .ge, k⟩, lo, hi => if k ≤ hi then some (max lo k, hi) else none
 | ⟨_, .eq, k⟩, lo, hi => if lo ≤ k ∧ k ≤ hi then some (k, k) else none
 | ⟨_, .ne, k⟩, lo, hi => wo k lo hi
theorem c_negation {l : Lit} {Q : AV → AH → Prop} (q : Q (.d l.neg.d) σ) : CodeW g (k + 1) (.ref 80) [.d l.d] σ Q := by
 refine cf1 "literal" (by kernel_rfl) (by kernel_rfl) (fun ww => rfl) rfl ?_
 refine ExW.cons ?_
 refine StW.unp rfl (isVars (by kernel_rfl)) (by intro env; rfl) (by walk_at "he") ?_
 refine TpW.data ?_
 refine zn (h := ?_)
 refine ⟨_, rfl, rfl, ?_⟩
 dsimp only [namesOf, List.map, uA]
 refine aa (ri (ad rfl (zn (h := eS ?_))))
 obtain ⟨x, s, kk⟩ := l
 cases s
 ·dsimp only [Sg.s]
  refine zeqS true (by decide +kernel) (ab (jt (aa (ag (ai (zc rfl (zn (h := zc rfl (eS (zc rfl (aj (zn (h := ei (BinW.add (sn ?_)))))))))))))))
  walk_at "frz"
  exact q
 ·dsimp only [Sg.s]
  refine zeqS false (by decide +kernel) (ab (jf (xn (aa (ri (ad rfl (zn (h := eS (zeqS true (by decide +kernel) (ab (jt (aa (ag (ai (zc rfl (zn (h := zc rfl (eS (zc rfl (aj (zn (h := ei (BinW.sub (sn ?_))))))))))))))))))))))))
  walk_at "frz"
  exact q
 ·dsimp only [Sg.s]
  refine zeqS false (by decide +kernel) (ab (jf (xn (aa (ri (ad rfl (zn (h := eS (zeqS false (by decide +kernel) (ab (jf (xn (aa (ag (rv_ifx (ad rfl (zn (h := eS (zeqS true (by decide +kernel) (ab (jt (ai (zc rfl (zn (h := zc rfl (eS (zc rfl (zn (h := sn ?_)))))))))))))))))))))))))))))
  walk_at "frz"
  exact q
 ·dsimp only [Sg.s]
  refine zeqS false (by decide +kernel) (ab (jf (xn (aa (ri (ad rfl (zn (h := eS (zeqS false (by decide +kernel) (ab (jf (xn (aa (ag (rv_ifx (ad rfl (zn (h := eS (zeqS false (by decide +kernel) (ab (jf (ai (zc rfl (zn (h := zc rfl (eS (zc rfl (zn (h := sn ?_)))))))))))))))))))))))))))))
  walk_at "frz"
  exact q
theorem c_struck {l : Lit} {lo hi : Int} {Q : AV → AH → Prop} (h1 : lo ≤ hi) (h2 : hi ≤ lo + 1) (q : Q (.d (domD (l.cut lo hi))) σ) : CodeW g (k + 4) (.ref 87) [.d l.d, .d (ivl lo hi)] σ Q := by
 refine cf2 "literal" "d" (by kernel_rfl) (by kernel_rfl) (fun ww ww => rfl) rfl ?_
 refine ExW.cons ?_
 refine StW.swapped (ns := ["sign", "k"]) (isVarsS (by kernel_rfl)) (by intro env; rfl) (by walk_at "he") ?_
 refine TpW.display ?_
 obtain ⟨x, s, kk⟩ := l
 dsimp only [Lit.d]
 refine zc rfl (af (zn (h := ei (SubW.t1 (fun ww ww => rfl) (by simp) (zc rfl (af (zn (h := ei (SubW.t2 (fun ww ww => rfl) (by simp) (sn ?_))))))))))
 refine ⟨by simp, rfl, ?_⟩
 dsimp only [List.reverse, List.reverseAux, uA]
 cases s
 ·dsimp only [Sg.s]
  refine aa (ri (ad rfl (zn (h := eS (zeqS true (by decide +kernel) (ab (jt (aa (ag (ec .up_to (by kernel_rfl) (fun ww => rfl) (zc rfl (zn (h := zc rfl (zn (h := sn ?_)))))))))))))))
  exact (c_up_to g q).call
 ·dsimp only [Sg.s]
  refine aa (ri (ad rfl (zn (h := eS (zeqS false (by decide +kernel) (ab (jf (xn (aa (ri (ad rfl (zn (h := eS (zeqS true (by decide +kernel) (ab (jt (aa (ag (ec .from_on (by kernel_rfl) (fun ww => rfl) (zc rfl (zn (h := zc rfl (zn (h := sn ?_))))))))))))))))))))))))
  exact (c_from_on g q).call
 ·dsimp only [Sg.s]
  refine aa (ri (ad rfl (zn (h := eS (zeqS false (by decide +kernel) (ab (jf (xn (aa (ri (ad rfl (zn (h := eS (zeqS false (by decide +kernel) (ab (jf (xn (aa (ag (rv_ifx (ad rfl (zn (h := eS (zeqS true (by decide +kernel) (ab (jt (ec .meet (by kernel_rfl) (fun ww => rfl) (zc rfl (zn (h := zc rfl (ai (zc rfl (ai (zc rfl (zn (h := zc rfl (zn (h := sn ?_))))))))))))))))))))))))))))))))))))))
  walk_at "frz"
  refine sn ?_
  walk_at "frz"
  refine sn ?_
  exact (c_meet g q).call
 ·dsimp only [Sg.s]
  refine aa (ri (ad rfl (zn (h := eS (zeqS false (by decide +kernel) (ab (jf (xn (aa (ri (ad rfl (zn (h := eS (zeqS false (by decide +kernel) (ab (jf (xn (aa (ag (rv_ifx (ad rfl (zn (h := eS (zeqS false (by decide +kernel) (ab (jf (ec .without (by kernel_rfl) (fun ww => rfl) (zc rfl (zn (h := zc rfl (zn (h := sn ?_))))))))))))))))))))))))))))))))
  exact (c_without g h1 h2 q).call
noncomputable def Lit.said (l : Lit) (lo hi : Int) : Int := if l.cut lo hi = some (lo, hi) then 1 else if l.cut lo hi = none then -1 else 0
theorem ivl_eqv {a b c d : Int} : PyData.eqv (ivl a b) (ivl c d) = decide (a = c ∧ b = d) := by
 rw [Bool.eq_iff_iff]; simp [PyData.eqv, PyData.eqvAll]
theorem domD_eqv {c : Option (Int × Int)} {lo hi : Int} : PyData.eqv (domD c) (ivl lo hi) = decide (c = some (lo, hi)) := by
 cases c with
 | none => simp [domD, PyData.eqv, PyData.eqvAll]
 | some p => obtain ⟨a, b⟩ := p; simp only [domD, ivl_eqv, Option.some.injEq, Prod.mk.injEq]
theorem domD_nil {c : Option (Int × Int)} : PyData.eqv (domD c) (.tuple []) = decide (c = none) := by
 cases c with
 | none => rfl
 | some p => obtain ⟨a, b⟩ := p; simp [domD, PyData.eqv, PyData.eqvAll]
theorem ivl_shaped {a b : Int} : shaped (ivl a b) = true := rfl
theorem domD_shaped {c : Option (Int × Int)} : shaped (domD c) = true := by
 cases c with
 | none => rfl
 | some p => rfl
theorem c_said_of {l : Lit} {lo hi : Int} {Q : AV → AH → Prop} (h1 : lo ≤ hi) (h2 : hi ≤ lo + 1) (q : Q (.d (.int (l.said lo hi))) σ) : CodeW g (k + 5) (.ref 94) [.d l.d, .d (ivl lo hi)] σ Q := by
 refine cf2 "literal" "d" (by kernel_rfl) (by kernel_rfl) (fun ww ww => rfl) rfl ?_
 refine aa (rq (by kernel_rfl) (fun ww => rfl) (ec .struck (by kernel_rfl) (fun ww => rfl) (zc rfl (zn (h := zc rfl (zn (h := sn ?_)))))))
 refine (c_struck g h1 h2 ?_).call
 refine aa (ri (ad rfl (zn (h := zn (h := ?_)))))
 refine CmpW.eq rfl rfl domD_shaped ivl_shaped ?_
 rw [domD_eqv]
 refine ab ?_
 unfold Lit.said at q
 by_cases e : l.cut lo hi = some (lo, hi)
 ·rw [if_pos e] at q
  refine jd e ?_
  refine aa (ag (ei ?_))
  exact q
 ·rw [if_neg e] at q
  refine jn e ?_
  refine xn (aa (ag (rv_ifx (ad rfl (zn (h := ai (sn ?_)))))))
  walk_at "frz"
  refine CmpW.eq rfl rfl domD_shaped rfl ?_
  rw [domD_nil]
  refine ab ?_
  by_cases e2 : l.cut lo hi = none
  ·rw [if_pos e2] at q
   refine jd e2 ?_
   refine rv_un (ei (UnW.neg ?_))
   exact q
  ·rw [if_neg e2] at q
   refine jn e2 ?_
   refine ei ?_
   exact q
theorem Lit.neg_sat (l : Lit) (v : Int) : l.neg.sat v ↔ ¬ l.sat v := by
 obtain ⟨x, s, k⟩ := l
 cases s <;> simp only [Lit.neg, Lit.sat] <;> lia
theorem Lit.neg_x (l : Lit) : l.neg.x = l.x := by
 obtain ⟨x, s, k⟩ := l
 cases s <;> rfl
theorem wo_iff {lo hi k a b : Int} (h1 : lo ≤ hi) (h2 : hi ≤ lo + 1) (e : wo k lo hi = some (a, b)) : lo ≤ a ∧ a ≤ b ∧ b ≤ hi ∧ ∀ v, (a ≤ v ∧ v ≤ b) ↔ (lo ≤ v ∧ v ≤ hi ∧ v ≠ k) := by
 unfold wo at e
 split at e
 ·rename_i z
  split at e
  ·rename_i q
   cases e; exact ⟨h1, Int.le_refl _, Int.le_refl _, fun v => ⟨fun h => ⟨Int.le_trans h1 h.1, h.2, fun e => Int.lt_irrefl lo (Int.lt_of_lt_of_le q (z ▸ e ▸ h.1))⟩, fun h => ⟨Int.le_trans h2 (Std.lt_of_le_of_ne h.1 fun e => h.2.2 (e.symm.trans z.symm)), h.2.1⟩⟩⟩
  ·cases e
 ·rename_i q
  split at e
  ·rename_i z
   cases e; exact ⟨Int.le_refl _, Int.le_refl _, h1, fun v => ⟨fun h => ⟨h.1, Int.le_trans h.2 h1, fun e => q (Int.le_antisymm (e ▸ h.2) (z ▸ h1))⟩, fun h => ⟨h.1, Int.le_of_lt_add_one (Int.lt_of_lt_of_le (Std.lt_of_le_of_ne h.2.1 fun e => h.2.2 (e.trans z.symm)) h2)⟩⟩⟩
  ·cases e; exact ⟨Int.le_refl _, h1, Int.le_refl _, fun v => ⟨fun h => ⟨h.1, h.2, fun e => by lia⟩, fun h => ⟨h.1, h.2.1⟩⟩⟩
theorem Lit.cut_some {l : Lit} {lo hi a b : Int} (h1 : lo ≤ hi) (h2 : hi ≤ lo + 1) (e : l.cut lo hi = some (a, b)) : lo ≤ a ∧ a ≤ b ∧ b ≤ hi ∧ ∀ v, (a ≤ v ∧ v ≤ b) ↔ (lo ≤ v ∧ v ≤ hi ∧ l.sat v) := by
 obtain ⟨x, s, k⟩ := l
 cases s
 ·change (if lo ≤ k then some (lo, min hi k) else none) = some (a, b) at e
  split at e
  ·cases e; exact ⟨Int.le_refl _, Int.le_min.mpr ⟨h1, by assumption⟩, Int.min_le_left _ _, fun v => and_congr_right fun ww => Int.le_min⟩
  ·cases e
 ·change (if k ≤ hi then some (max lo k, hi) else none) = some (a, b) at e
  split at e
  ·cases e; exact ⟨Int.le_max_left _ _, Int.max_le.mpr ⟨h1, by assumption⟩, Int.le_refl _, fun v => ⟨fun h => have z := Int.max_le.mp h.1; ⟨z.1, h.2, z.2⟩, fun h => ⟨Int.max_le.mpr ⟨h.1, h.2.2⟩, h.2.1⟩⟩⟩
  ·cases e
 ·change (if lo ≤ k ∧ k ≤ hi then some (k, k) else none) = some (a, b) at e
  split at e
  ·rename_i q; cases e; exact ⟨q.1, Int.le_refl _, q.2, fun v => ⟨fun h => have z := Int.le_antisymm h.2 h.1; ⟨z ▸ q.1, z ▸ q.2, z⟩, fun h => ⟨Int.le_of_eq h.2.2.symm, Int.le_of_eq h.2.2⟩⟩⟩
  ·cases e
 ·exact wo_iff h1 h2 e
theorem Lit.cut_none {l : Lit} {lo hi : Int} (h1 : lo ≤ hi) (h2 : hi ≤ lo + 1) (e : l.cut lo hi = none) : ∀ v, lo ≤ v → v ≤ hi → ¬ l.sat v := by
 obtain ⟨x, s, k⟩ := l
 intro v h3 h4
 cases s <;> simp only [Lit.cut, wo] at e <;> (repeat' split at e) <;> (try cases e) <;> (try simp only [Lit.sat]) <;> lia
theorem Lit.said_cases {l : Lit} {lo hi : Int} (h1 : lo ≤ hi) (h2 : hi ≤ lo + 1) : (l.said lo hi = 1 ∧ ∀ v, lo ≤ v → v ≤ hi → l.sat v) ∨ (l.said lo hi = -1 ∧ ∀ v, lo ≤ v → v ≤ hi → ¬ l.sat v) ∨ (l.said lo hi = 0 ∧ lo < hi) := by
 unfold Lit.said
 split
 ·rename_i e
  exact .inl ⟨rfl, fun v h3 h4 => (((Lit.cut_some h1 h2 e).2.2.2 v).mp ⟨h3, h4⟩).2.2⟩
 ·split
  ·rename_i e
   exact .inr (.inl ⟨rfl, Lit.cut_none h1 h2 e⟩)
  ·rename_i e1 e2
   refine .inr (.inr ⟨rfl, ?_⟩)
   match e : l.cut lo hi, e2 with
   | some (a, b), _ =>
    (refine x0_3 (Lit.cut_some h1 h2 e) ?_; intro h3 h4 h5 ww)
    apply Classical.byContradiction
    intro h6
    have : a = lo ∧ b = hi := by lia
    exact e1 (by rw [e, this.1, this.2])
end
end
section
set_option tactic.hygienic false
structure TE where
 x : Nat
 lo : Int
 hi : Int
 lit : PyData
 rs : PyData
 sp : PyData
noncomputable def TE.d (t : TE) : PyData := .tuple [.int (t.x : Nat), ivl t.lo t.hi, t.lit, t.rs, t.sp]
structure SS where
 dm : List (Int × Int)
 tr : List TE
 mr : List Nat
 fail : Bool
noncomputable def iv (p : Int × Int) : PyData := ivl p.1 p.2
noncomputable def wid (dm : List (Int × Int)) : Int := (dm.map fun p => p.2 - p.1).sum
noncomputable abbrev flds (S m n : Nat) (b : Bool) (cl : PyData) : List (Str × AV) := [("domains", .r (S + 1)), ("firsts", .r (S + 2)), ("trail", .r (S + 3)), ("marks", .r m), ("news", .r n), ("speaker", .d (.int (-1))), ("is_failed", .d (.bool b)), ("clash", .d cl)]
noncomputable abbrev mks (l : List Nat) : List PyData := l.map fun k => .int (k : Nat)
structure StAt (A : Nat → Prop) (σ : AH) (S : Nat) (ss : SS) (m n : Nat) (cl : PyData) (fs : List (Int × Int)) (es : List (Int × AV)) : Prop where
 s : σ.get S = some (.inst 244 (flds S m n ss.fail cl))
 d : σ.get (S + 1) = some (.list (ss.dm.map iv))
 f : σ.get (S + 2) = some (.list (fs.map iv))
 t : σ.get (S + 3) = some (.list (ss.tr.map TE.d))
 gm : σ.get m = some (.list (mks ss.mr))
 gn : σ.get n = some (.dictI es)
 lm : S + 3 < m ∧ m < σ.next
 ln : S + 3 < n ∧ n < σ.next
 ne : m ≠ n
 le : es.length ≤ ss.tr.length
 lf : fs.length ≤ ss.dm.length
 a : ∀ i, A i → i < σ.next ∧ (i < S ∨ S + 3 < i) ∧ i ≠ m ∧ i ≠ n
noncomputable def St (A : Nat → Prop) (σ : AH) (S : Nat) (ss : SS) : Prop := (∃ m n cl fs es, StAt A σ S ss m n cl fs es) ∧ (∀ p ∈ ss.dm, p.1 ≤ p.2 ∧ p.2 ≤ p.1 + 1) ∧ ss.dm.length ≤ 5 ∧ (ss.tr.length : Int) + wid ss.dm ≤ ss.dm.length
section
variable {A A' : Nat → Prop} {σ σ' : AH} {S : Nat} {ss : SS}
theorem St.get (h : St A σ S ss) : ∃ m n cl, σ.get S = some (.inst 244 (flds S m n ss.fail cl)) := by
 (refine x0_1 h ?_; clear h; intro z1 r; (refine x5_0 z1 ?_; clear z1; intro m n cl fs es h))
 exact ⟨m, n, cl, h.s⟩
theorem St.lt (h : St A σ S ss) {i : Nat} (hi : A i) : i < σ.next := by
 (refine x0_1 h ?_; clear h; intro z2 r; (refine x5_0 z2 ?_; clear z2; intro m n cl fs es h))
 exact (h.a i hi).1
theorem St.mono (h : St A σ S ss) (k : ∀ i, A' i → A i) : St A' σ S ss := by
 (refine x0_1 h ?_; clear h; intro z3 r; (refine x5_0 z3 ?_; clear z3; intro m n cl fs es h))
 exact ⟨⟨m, n, cl, fs, es, { h with a := fun i hi => h.a i (k i hi) }⟩, r⟩
theorem St.push (h : St A σ S ss) (o : AO) : St (fun i => A i ∨ i = σ.next) (σ.push o) S ss := by
 (refine x0_1 h ?_; clear h; intro z4 r; (refine x5_0 z4 ?_; clear z4; intro m n cl fs es h))
 have h1 := h.lm; have h2 := h.ln
 exact ⟨⟨m, n, cl, fs, es, al (by lia) h.s, al (by lia) h.d, al (by lia) h.f, al (by lia) h.t, al (by lia) h.gm, al (by lia) h.gn, ⟨h1.1, Nat.lt_succ_of_lt h1.2⟩, ⟨h2.1, Nat.lt_succ_of_lt h2.2⟩, h.ne, h.le, h.lf, fun i hi => by
  rw [AH.next_push]
  rcases hi with hi | rfl
  ·have := h.a i hi; lia
  ·lia⟩, r⟩
theorem St.set (h : St A σ S ss) {i : Nat} (hi : A i) (o : AO) : St A (σ.set i o) S ss := by
 (refine x0_1 h ?_; clear h; intro z5 r; (refine x5_0 z5 ?_; clear z5; intro m n cl fs es h))
 have h1 := h.lm; have h2 := h.ln; have h3 := h.a i hi
 exact ⟨⟨m, n, cl, fs, es, ah (by lia) h.s, ah (by lia) h.d, ah (by lia) h.f, ah (by lia) h.t, ah (by lia) h.gm, ah (by lia) h.gn, h1, h2, h.ne, h.le, h.lf, h.a⟩, r⟩
end
noncomputable def Fr (A : Nat → Prop) (σ σ' : AH) : Prop := ∀ i, A i → σ'.get i = σ.get i
end
section
set_option tactic.hygienic false
section
variable (g : G KK) {A : Nat → Prop} {σ : AH} {S k : Nat} {ss : SS}
theorem c_Store_low {x : Nat} {p : Int × Int} {Q : AV → AH → Prop} (h : St A σ S ss) (hx : ss.dm[x]? = some p) (q : Q (.d (.int p.1)) σ) : CodeW g (k + 3) (.ref 143) [.r S, .d (.int (x : Nat))] σ Q := by
 (refine x0_1 h ?_; clear h; intro z1 r; (refine x5_0 z1 ?_; clear z1; intro m n cl fs es h))
 have hs := h.s
 have hd := h.d
 have hl : (ss.dm.map iv).length ≤ 10000 := by rw [List.length_map]; omega
 have hj : (ss.dm.map iv)[x]? = some (ivl p.1 p.2) := by simp [hx, iv]
 refine cf2 "self" "x" (by kernel_rfl) (by kernel_rfl) (fun ww ww => rfl) rfl ?_
 refine aa (ag (ec .least (by kernel_rfl) (fun ww => rfl) (zc rfl (af (ae (fun ww => rfl) (zn (h := za (q := zn (h := SubW.lsN (fun ww ww => rfl) (by walk_at "gt") (by assumption) (by first | assumption | simp) (sn ?_))))))))))
 exact (c_least g (r1 := [_]) (r2 := []) (by simp) (by simp) q).call
theorem c_Store_high {x : Nat} {p : Int × Int} {Q : AV → AH → Prop} (h : St A σ S ss) (hx : ss.dm[x]? = some p) (q : Q (.d (.int p.2)) σ) : CodeW g (k + 3) (.ref 150) [.r S, .d (.int (x : Nat))] σ Q := by
 (refine x0_1 h ?_; clear h; intro z2 r; (refine x5_0 z2 ?_; clear z2; intro m n cl fs es h))
 have hs := h.s
 have hd := h.d
 have hl : (ss.dm.map iv).length ≤ 10000 := by rw [List.length_map]; omega
 have hj : (ss.dm.map iv)[x]? = some (ivl p.1 p.2) := by simp [hx, iv]
 refine cf2 "self" "x" (by kernel_rfl) (by kernel_rfl) (fun ww ww => rfl) rfl ?_
 refine aa (ag (ec .greatest (by kernel_rfl) (fun ww => rfl) (zc rfl (af (ae (fun ww => rfl) (zn (h := za (q := zn (h := SubW.lsN (fun ww ww => rfl) (by walk_at "gt") (by assumption) (by first | assumption | simp) (sn ?_))))))))))
 exact (c_greatest g q).call
theorem c_Store_has {x : Nat} {v : Int} {p : Int × Int} {Q : AV → AH → Prop} (h : St A σ S ss) (hx : ss.dm[x]? = some p) (q : Q (.d (.bool (decide (p.1 ≤ v ∧ v ≤ p.2)))) σ) : CodeW g (k + 3) (.ref 157) [.r S, .d (.int (x : Nat)), .d (.int v)] σ Q := by
 (refine x0_1 h ?_; clear h; intro z3 r; (refine x5_0 z3 ?_; clear z3; intro m n cl fs es h))
 have hs := h.s
 have hd := h.d
 have hl : (ss.dm.map iv).length ≤ 10000 := by rw [List.length_map]; omega
 have hj : (ss.dm.map iv)[x]? = some (ivl p.1 p.2) := by simp [hx, iv]
 refine cf3 "self" "x" "v" (by kernel_rfl) (by kernel_rfl) (fun ww ww ww => rfl) rfl ?_
 refine aa (ag (ec .has_domains (by kernel_rfl) (fun ww => rfl) (zc rfl (af (ae (fun ww => rfl) (zn (h := za (q := zn (h := SubW.lsN (fun ww ww => rfl) (by walk_at "gt") (by assumption) (by first | assumption | simp) (zc rfl (zn (h := sn ?_))))))))))))
 exact (c_has g q).call
theorem c_Store_is_fixed {x : Nat} {p : Int × Int} {Q : AV → AH → Prop} (h : St A σ S ss) (hx : ss.dm[x]? = some p) (q : Q (.d (.bool (decide (p.1 = p.2)))) σ) : CodeW g (k + 3) (.ref 164) [.r S, .d (.int (x : Nat))] σ Q := by
 (refine x0_1 h ?_; clear h; intro z4 r; (refine x5_0 z4 ?_; clear z4; intro m n cl fs es h))
 have hs := h.s
 have hd := h.d
 have hl : (ss.dm.map iv).length ≤ 10000 := by rw [List.length_map]; omega
 have hj : (ss.dm.map iv)[x]? = some (ivl p.1 p.2) := by simp [hx, iv]
 refine cf2 "self" "x" (by kernel_rfl) (by kernel_rfl) (fun ww ww => rfl) rfl ?_
 refine aa (rq (by kernel_rfl) (fun ww => rfl) (af (ae (fun ww => rfl) (zn (h := za (q := zn (h := SubW.lsN (fun ww ww => rfl) (by walk_at "gt") (by assumption) (by first | assumption | simp) (aa (ag (rv_and (rv_cmp rfl (ec .len (by kernel_rfl) (fun ww => rfl) (zc rfl (zn (h := sn (CallW.lenT (by first | exact Nat.le_of_ble_eq_true rfl | (simp; done) | assumption | lia) (ei (qi (ab ?_)))))))))))))))))))
 refine jd (by simp) ?_
 refine EvW.and1 (rv_cmp rfl (af (af (zn (h := ei (ak (fun ww ww => rfl) (by simp) (ei (ak (fun ww ww => rfl) (by simp) (af (af (zn (h := ei (ak (fun ww ww => rfl) (by simp) (ei (SubW.t1 (fun ww ww => rfl) (by simp) (qi ?_))))))))))))))))
 exact q
theorem c_Store_value {x : Nat} {p : Int × Int} {Q : AV → AH → Prop} (h : St A σ S ss) (hx : ss.dm[x]? = some p) (q : Q (.d (.int p.1)) σ) : CodeW g (k + 3) (.ref 171) [.r S, .d (.int (x : Nat))] σ Q := by
 (refine x0_1 h ?_; clear h; intro z5 r; (refine x5_0 z5 ?_; clear z5; intro m n cl fs es h))
 have hs := h.s
 have hd := h.d
 have hl : (ss.dm.map iv).length ≤ 10000 := by rw [List.length_map]; omega
 have hj : (ss.dm.map iv)[x]? = some (ivl p.1 p.2) := by simp [hx, iv]
 refine cf2 "self" "x" (by kernel_rfl) (by kernel_rfl) (fun ww ww => rfl) rfl ?_
 refine aa (ag (af (af (af (ae (fun ww => rfl) (zn (h := za (q := zn (h := SubW.lsN (fun ww ww => rfl) (by walk_at "gt") (by assumption) (by first | assumption | simp) (ei (ak (fun ww ww => rfl) (by simp) (ei (ak (fun ww ww => rfl) (by simp) ?_)))))))))))))
 exact q
theorem c_Store_holds {l : Lit} {p : Int × Int} {Q : AV → AH → Prop} (h : St A σ S ss) (hx : ss.dm[l.x]? = some p) (q : Q (.d (.int (l.said p.1 p.2))) σ) : CodeW g (k + 6) (.ref 185) [.r S, .d l.d] σ Q := by
 obtain ⟨x, sg, kk⟩ := l
 dsimp only [Lit.d] at hx q ⊢
 (refine x0_1 h ?_; clear h; intro z6 r; (refine x5_0 z6 ?_; clear z6; intro m n cl fs es h))
 have hs := h.s
 have hd := h.d
 have hl : (ss.dm.map iv).length ≤ 10000 := by rw [List.length_map]; omega
 have hj : (ss.dm.map iv)[x]? = some (ivl p.1 p.2) := by simp [hx, iv]
 refine cf2 "self" "literal" (by kernel_rfl) (by kernel_rfl) (fun ww ww => rfl) rfl ?_
 refine aa (ag (ec .said_of (by kernel_rfl) (fun ww => rfl) (zc rfl (zn (h := zc rfl (af (ae (fun ww => rfl) (zn (h := za (q := af (zn (h := ei (ak (fun ww ww => rfl) (by simp) (SubW.lsN (fun ww ww => rfl) (by walk_at "gt") (by assumption) (by first | assumption | simp) (sn ?_)))))))))))))))
 have z := r.1 p (List.mem_of_getElem? hx)
 exact (c_said_of g (l := ⟨x, sg, kk⟩) z.1 z.2 q).call
theorem c_Store_size {Q : AV → AH → Prop} (h : St A σ S ss) (q : Q (.d (.int (ss.dm.length : Nat))) σ) : CodeW g (k + 3) (.ref 122) [.r S] σ Q := by
 (refine x0_1 h ?_; clear h; intro z7 r; (refine x5_0 z7 ?_; clear z7; intro m n cl fs es h))
 have hs := h.s
 have hd := h.d
 refine cf1 "self" (by kernel_rfl) (by kernel_rfl) (fun ww => rfl) rfl ?_
 refine aa (ag (ec .len (by kernel_rfl) (fun ww => rfl) (zc rfl (ae (fun ww => rfl) (zn (h := za (q := sn ?_)))))))
 refine CallW.lenL (.r hd) (by rw [List.length_map]; omega) ?_
 rw [List.length_map]; exact q
theorem c_Store_depth {Q : AV → AH → Prop} (h : St A σ S ss) (hm : ss.mr.length ≤ 1000) (q : Q (.d (.int (ss.mr.length : Nat))) σ) : CodeW g (k + 3) (.ref 234) [.r S] σ Q := by
 (refine x0_1 h ?_; clear h; intro z8 r; (refine x5_0 z8 ?_; clear z8; intro m n cl fs es h))
 have hs := h.s
 have hd := h.gm
 refine cf1 "self" (by kernel_rfl) (by kernel_rfl) (fun ww => rfl) rfl ?_
 refine aa (ag (ec .len (by kernel_rfl) (fun ww => rfl) (zc rfl (ae (fun ww => rfl) (zn (h := za (q := sn ?_)))))))
 refine CallW.lenL (.r hd) (by rw [List.length_map]; omega) ?_
 rw [List.length_map]; exact q
end
end
section
set_option tactic.hygienic false
section
variable (g : G KK) {A : Nat → Prop} {σ : AH} {S k : Nat} {ss : SS}
noncomputable def Ent (l : Lit) (p : Int × Int) (ss : SS) (b : Bool) (ss' : SS) : Prop :=
 ss'.mr = ss.mr ∧ match l.cut p.1 p.2 with
 | none => b = false ∧ ss'.dm = ss.dm ∧ ss'.tr = ss.tr
 | some c => b = true ∧ ss'.fail = ss.fail ∧ ss'.dm = ss.dm.set l.x c ∧ (ss'.tr = ss.tr ∧ c = p ∨ ∃ t : TE, t.x = l.x ∧ t.lo = p.1 ∧ t.hi = p.2 ∧ ss'.tr = ss.tr ++ [t])
noncomputable def Ends (A : Nat → Prop) (σ : AH) (S : Nat) (P : Bool → SS → Prop) (Q : AV → AH → Prop) : Prop := ∀ b ss' σ', St A σ' S ss' → Fr A σ σ' → P b ss' → Q (.d (.bool b)) σ'
theorem c_Store_fail {ds : List PyData} {Q : AV → AH → Prop} (h : St A σ S ss) (q : ∀ σ', St A σ' S { ss with fail := true } → Fr A σ σ' → Q (.d (.bool false)) σ') : CodeW g (k + 3) (.ref 213) [.r S, .d (.tuple ds)] σ Q := by
 (refine x0_1 h ?_; clear h; intro z1 r; (refine x5_0 z1 ?_; clear z1; intro m n cl fs es h))
 have hs := h.s
 have h1 := h.lm; have h2 := h.ln
 refine cf2 "self" "reasons" (by kernel_rfl) (by kernel_rfl) (fun ww ww => rfl) rfl ?_
 refine aa (rw_sta (fun ww => rfl) (EvW.bool (zn (h := zsa (hl := Nat.le_of_ble_eq_true rfl) (q := aa (rw_sta (fun ww => rfl) (ec .tuple (by kernel_rfl) (fun ww => rfl) (zc rfl (zn (h := sn (CallW.tupleT (zn (h := zsa (hl := Nat.le_of_ble_eq_true rfl) (q := aa (ag (EvW.bool ?_))))))))))))))))
 refine q _ ⟨⟨m, n, .tuple ds, fs, es, ?_, ?_, ?_, ?_, ?_, ?_, h1, h2, h.ne, h.le, h.lf, h.a⟩, r⟩ ?_
 ·walk_at "gt"
 ·exact ah (by lia) (ah (by lia) h.d)
 ·exact ah (by lia) (ah (by lia) h.f)
 ·exact ah (by lia) (ah (by lia) h.t)
 ·exact ah (by lia) (ah (by lia) h.gm)
 ·exact ah (by lia) (ah (by lia) h.gn)
 ·intro i hi
  have := h.a i hi
  exact ah (by lia) (ah (by lia) rfl)
theorem wid_set : ∀ {dm : List (Int × Int)} {x : Nat} {p c : Int × Int}, dm[x]? = some p → wid (dm.set x c) = wid dm - (p.2 - p.1) + (c.2 - c.1)
 | [], x, p, c, h => by simp at h
 | d :: r, 0, p, c, h => by
  simp at h
  subst h
  simp [wid]; lia
 | d :: r, x + 1, p, c, h => by
  have := wid_set (dm := r) (x := x) (p := p) (c := c) (by simpa using h)
  simp [wid] at this ⊢; lia
theorem set_same {α : Type} : ∀ {l : List α} {x : Nat} {p : α}, l[x]? = some p → l.set x p = l
 | [], _, _, _ => rfl
 | d :: r, 0, p, h => by simp at h; simp [h]
 | d :: r, x + 1, p, h => by simp at h; simp [set_same h]
theorem putD_len {es : List (Int × AV)} {x : Int} {a : AV} : (putD es x a).length ≤ es.length + 1 := by
 unfold putD; split <;> simp
theorem wid_pos : ∀ {l : List (Int × Int)}, (∀ p ∈ l, p.1 ≤ p.2 ∧ p.2 ≤ p.1 + 1) → 0 ≤ wid l := by
 intro l
 induction l with
 | nil => intro ww; exact Int.le_refl _
 | cons d r ih =>
  intro h
  have a := ih fun p hp => h p (List.mem_cons_of_mem _ hp)
  have b := h d (List.mem_cons_self ..)
  simp only [wid, List.map_cons, List.sum_cons] at a ⊢; lia
noncomputable def Shp (n : Nat) (d : PyData) : Prop := d.canLay0 = true ∧ d.depth ≤ n
theorem Shp.all {n : Nat} : ∀ {xs : List PyData}, (∀ d ∈ xs, Shp n d) → PyData.canLayAll0 xs = true ∧ PyData.depthAll xs ≤ n
 | [], _ => by simp [PyData.canLayAll0, PyData.depthAll]
 | d :: r, h => by
  have a := h d (List.mem_cons_self ..)
  have b := Shp.all (xs := r) fun d hd => h d (List.mem_cons_of_mem _ hd)
  simp only [PyData.canLayAll0, PyData.depthAll, a.1, b.1]
  refine ⟨rfl, ?_⟩
  have := a.2; have := b.2; lia
theorem Shp.list {n : Nat} {xs : List PyData} (h : ∀ d ∈ xs, Shp n d) : Shp (n + 1) (.list xs) := by
 have := Shp.all h
 refine ⟨by simp [PyData.canLay0, this.1], ?_⟩
 simp [PyData.depth]; lia
theorem Shp.tuple {n : Nat} {xs : List PyData} (h : ∀ d ∈ xs, Shp n d) : Shp (n + 1) (.tuple xs) := by
 have := Shp.all h
 refine ⟨by simp [PyData.canLay0, this.1], ?_⟩
 simp [PyData.depth]; lia
theorem Shp.le {n m : Nat} {d : PyData} (h : Shp n d) (k : n ≤ m) : Shp m d := ⟨h.1, Nat.le_trans h.2 k⟩
theorem Shp.int {n : Nat} {i : Int} : Shp n (.int i) := ⟨rfl, Nat.zero_le _⟩
theorem Shp.ivl {a b : Int} : Shp 2 (ivl a b) := Shp.tuple fun d hd => by
 cases List.mem_singleton.mp hd
 exact Shp.tuple fun d hd => by
  rcases List.mem_cons.mp hd with rfl | hd
  ·exact Shp.int
  ·cases List.mem_singleton.mp hd; exact Shp.int
theorem Shp.of {n : Nat} {d : PyData} (h : Shp n d) (k : n ≤ 64 := by decide) : shaped d = true := by
 simp [shaped, h.1]
 have := h.2; lia
theorem erase_last {α : Type} (xs : List α) (d : α) : (xs ++ [d]).eraseIdx ((xs ++ [d]).length - 1) = xs := by
 simp [List.eraseIdx_append_of_length_le]
end
end
section
set_option tactic.hygienic false
section
variable (g : G KK) {A : Nat → Prop} {σ : AH} {S k : Nat} {ss : SS}
theorem c_Store_enter {l : Lit} {p : Int × Int} {rs sp : PyData} {Q : AV → AH → Prop} (h : St A σ S ss) (hx : ss.dm[l.x]? = some p) (hr : rs = .none ∨ ∃ ds, rs = .tuple ds ∧ ds.length ≤ 1000)
  (q : Ends A σ S (Ent l p ss) Q) : CodeW g (k + 7) (.ref 192) [.r S, .d l.d, .d rs, .d sp] σ Q := by
 have H := h
 (refine x0_1 h ?_; clear h; intro z1 r; (refine x5_0 z1 ?_; clear z1; intro m n cl fs es h))
 have hs := h.s
 have hd := h.d
 have hn := h.gn; have ht := h.t; have w := wid_pos r.1; have r2 := r.2.1; have r3 := r.2.2
 have h1 := h.lm; have h2 := h.ln; have h3 := h.ne
 have hl : (ss.dm.map iv).length ≤ 10000 := by rw [List.length_map]; lia
 have hj : (ss.dm.map iv)[l.x]? = some (ivl p.1 p.2) := by simp [hx, iv]
 have z := r.1 p (List.mem_of_getElem? hx)
 have hxl : l.x < ss.dm.length := (List.getElem?_eq_some_iff.mp hx).1
 refine cf4 "self" "literal" "reasons" "speaker" (by kernel_rfl) (by kernel_rfl) (fun ww ww ww ww => rfl) rfl ?_
 dsimp only [start, uA, Lit.d]
 refine aa (rq (by kernel_rfl) (fun ww => rfl) (af (zn (h := ei (ak (fun ww ww => rfl) (by simp) (aa (rq (by kernel_rfl) (fun ww => rfl) (af (ae (fun ww => rfl) (zn (h := za (q := zn (h := SubW.lsN (fun ww ww => rfl) (by walk_at "gt") (by assumption) (by first | assumption | simp) (aa (rq (by kernel_rfl) (fun ww => rfl) (ec .struck (by kernel_rfl) (fun ww => rfl) (zc rfl (zn (h := zc rfl (zn (h := sn ?_)))))))))))))))))))))
 refine (c_struck g (l := l) z.1 z.2 ?_).call
 refine aa (ri (ad rfl (zn (h := ai (sn ?_)))))
 walk_at "frz"
 refine CmpW.eq rfl rfl domD_shaped rfl ?_
 rw [domD_nil]
 refine ab ?_
 by_cases e : l.cut p.1 p.2 = none
 ·refine jd e ?_
  have fin : ∀ ds : List PyData, CallW g (k + 6) (.ref 213) [.r S, .d (.tuple ds)] σ Q := fun ds => (c_Store_fail g H fun σ' a b => q _ _ _ a b ⟨rfl, by rw [e]; exact ⟨rfl, rfl, rfl⟩⟩).call
  have fin2 : ∀ ds : List PyData, ds.length ≤ 1000 → BinW g (k + 6) .Add (.d (.tuple ds)) (.d (.tuple [l.neg.d])) σ fun a σ1 => CallW g (k + 6) (.ref 213) [.r S, a] σ1 Q := fun ds hds => BinW.cat (by simp; lia) (fin _)
  rcases hr with rfl | ⟨ds, rfl, hds⟩
  ·refine aa (ag (em .fail (fun ww => rfl) (fun ww => rfl) (zn (h := zm (q := zc rfl (aj (rv_ifx (ad rfl (zn (h := EvW.none (CmpW.isN_n (ab (jt (ai (sn ?_)))))))))))))))
   walk_at "frz"
   refine ai (zc rfl (ec .negation (by kernel_rfl) (fun ww => rfl) (zc rfl (zn (h := sn ?_)))))
   refine (c_negation g (l := l) ?_).call
   refine sn ?_
   walk_at "frz"
   refine BinW.cat (by simp) ?_
   refine sn ?_
   exact fin _
  ·refine aa (ag (em .fail (fun ww => rfl) (fun ww => rfl) (zn (h := zm (q := zc rfl (aj (rv_ifx (ad rfl (zn (h := EvW.none (CmpW.isN_t (ab (jf (zn (h := ai (zc rfl (ec .negation (by kernel_rfl) (fun ww => rfl) (zc rfl (zn (h := sn ?_))))))))))))))))))))
   refine (c_negation g (l := l) ?_).call
   refine sn ?_
   walk_at "frz"
   refine BinW.cat (by simp; lia) ?_
   refine sn ?_
   exact fin _
 ·refine jn e ?_
  (refine x1_0 (Option.ne_none_iff_exists'.mp e) ?_; intro c hc)
  rw [hc]
  (refine x0_3 (Lit.cut_some z.1 z.2 (a := c.1) (b := c.2) hc) ?_; intro c1 c2 c3 c4)
  refine xn (aa (ri (ad rfl (zn (h := zn (h := ?_))))))
  refine CmpW.eq rfl rfl domD_shaped ivl_shaped ?_
  rw [domD_eqv]
  refine ab ?_
  by_cases e2 : some c = some (p.1, p.2)
  ·refine jd e2 ?_
   refine aa (ag (EvW.bool ?_))
   have e3 : c = p := by simpa using e2
   refine q _ ss _ H (fun ww ww => rfl) ⟨rfl, ?_⟩
   rw [hc, e3]
   exact ⟨rfl, rfl, (set_same hx).symm, .inl ⟨rfl, rfl⟩⟩
  ·refine jn e2 ?_
   refine xn (aa (rw_expr (fun ww => rfl) (EvW.append (by walk_at "mf") (ae (fun ww => rfl) (zn (h := za (q := ?_)))))))
   refine ⟨S + 3, _, rfl, h.t, ?_⟩
   refine zc rfl (ai (zc rfl (zn (h := zc rfl (zn (h := zc rfl (zn (h := zc rfl (zn (h := zc rfl (zn (h := sn ?_))))))))))))
   walk_at "frz"
   refine sn ?_
   refine ⟨_, _, rfl, h.t, ?_, ?_⟩
   ·rw [List.length_map]; have := r.2.2; have := r.2.1; lia
   refine ls_of rfl (aa (rw_set (fun ww => rfl) (zn (h := ae (fun ww => rfl) (zn (h := za (q := zn (h := ?_))))))))
   refine ⟨_, .list (by walk_at "gt") (by rw [List.length_map]; exact hxl) hl, ?_⟩
   refine aa (rw_set (fun ww => rfl) (EvW.bool (ae (fun ww => rfl) (zn (h := za (q := zn (h := ?_)))))))
   have le := h.le
   refine ⟨_, .dictI (by walk_at "gt") (by lia), ?_⟩
   refine aa (ag (EvW.bool ?_))
   refine q _ { ss with dm := ss.dm.set l.x c, tr := ss.tr ++ [⟨l.x, p.1, p.2, l.d, rs, sp⟩] } _ ⟨⟨m, n, cl, fs, putD es (l.x : Nat) (.d (.bool true)), ?_, ?_, ?_, ?_, ?_, ?_, h1, h2, h3, ?_, by rw [List.length_set]; exact h.lf, h.a⟩, ?_, ?_, ?_⟩ ?_ ⟨rfl, ?_⟩
   ·walk_at "gt"
   ·rw [show (ss.dm.set l.x c).map iv = (ss.dm.map iv).set l.x (ivl c.1 c.2) from List.map_set]
    exact ah (by lia) gS
   ·exact ah (by lia) (ah (by lia) (ah (by lia) h.f))
   ·rw [List.map_append]
    exact ah (by lia) (ah (by lia) gS)
   ·exact ah (by lia) (ah (by lia) (ah (by lia) h.gm))
   ·walk_at "gt"
   ·refine Nat.le_trans putD_len ?_
    simp; lia
   ·intro a ha
    rcases List.mem_or_eq_of_mem_set ha with ha | rfl
    ·exact r.1 a ha
    ·lia
   ·simpa using r.2.1
   ·have := wid_set (c := c) hx
    have e4 : c ≠ (p.1, p.2) := fun e => e2 (by rw [e])
    have : c.1 ≠ p.1 ∨ c.2 ≠ p.2 := by
     apply Classical.byContradiction
     intro hn
     exact e4 (Prod.ext (by lia) (by lia))
    simp; lia
   ·intro i hi
    have := h.a i hi
    exact ah (by lia) (ah (by lia) (ah (by lia) rfl))
   ·rw [hc]
    exact ⟨rfl, rfl, rfl, .inr ⟨_, rfl, rfl, rfl, rfl⟩⟩
end
end
section
set_option tactic.hygienic false
section
variable (g : G KK) {A : Nat → Prop} {σ : AH} {S k : Nat} {ss : SS}
theorem c_Store_strike {l : Lit} {p : Int × Int} {ds : List PyData} {Q : AV → AH → Prop} (h : St A σ S ss) (hx : ss.dm[l.x]? = some p) (hr : ds.length ≤ 1000)
  (q : Ends A σ S (Ent l p ss) Q) : CodeW g (k + 8) (.ref 199) [.r S, .d l.d, .d (.tuple ds)] σ Q := by
 have H := h
 (refine x0_1 h ?_; clear h; intro z1 r; (refine x5_0 z1 ?_; clear z1; intro m n cl fs es h))
 have hs := h.s
 refine cf3 "self" "literal" "reasons" (by kernel_rfl) (by kernel_rfl) (fun ww ww ww => rfl) rfl ?_
 refine aa (ag (em .enter (fun ww => rfl) (fun ww => rfl) (zn (h := zm (q := zc rfl (zn (h := zc rfl (ec .tuple (by kernel_rfl) (fun ww => rfl) (zc rfl (zn (h := sn (CallW.tupleT (zc rfl (ae (fun ww => rfl) (zn (h := za (q := sn ?_)))))))))))))))))
 exact (c_Store_enter g H hx (.inr ⟨ds, rfl, hr⟩) q).call
theorem c_Store_decide {l : Lit} {p : Int × Int} {Q : AV → AH → Prop} (h : St A σ S ss) (hx : ss.dm[l.x]? = some p)
  (q : Ends A σ S (Ent l p ss) Q) : CodeW g (k + 8) (.ref 206) [.r S, .d l.d] σ Q := by
 have H := h
 (refine x0_1 h ?_; clear h; intro z2 r; (refine x5_0 z2 ?_; clear z2; intro m n cl fs es h))
 have hs := h.s
 refine cf2 "self" "literal" (by kernel_rfl) (by kernel_rfl) (fun ww ww => rfl) rfl ?_
 refine aa (ag (em .enter (fun ww => rfl) (fun ww => rfl) (zn (h := zm (q := zc rfl (zn (h := zc rfl (EvW.none (zc rfl (rv_un (ei (UnW.neg (sn ?_)))))))))))))
 exact (c_Store_enter g H hx (.inl rfl) q).call
theorem c_Store_push {Q : AV → AH → Prop} (h : St A σ S ss) (hm : ss.mr.length ≤ 1000)
  (q : ∀ σ', St A σ' S { ss with mr := ss.mr ++ [ss.tr.length] } → Fr A σ σ' → Q (.d .none) σ') : CodeW g (k + 3) (.ref 220) [.r S] σ Q := by
 (refine x0_1 h ?_; clear h; intro z3 r; (refine x5_0 z3 ?_; clear z3; intro m n cl fs es h))
 have hs := h.s
 have ht := h.t; have hm1 := h.gm
 have h1 := h.lm; have h2 := h.ln; have h3 := h.ne
 have w := wid_pos r.1; have r2 := r.2.1; have r3 := r.2.2
 refine cf1 "self" (by kernel_rfl) (by kernel_rfl) (fun ww => rfl) rfl ?_
 refine aa (rw_expr (fun ww => rfl) (EvW.append (by walk_at "mf") (ae (fun ww => rfl) (zn (h := za (q := ?_))))))
 refine ⟨m, _, rfl, hm1, ?_⟩
 refine zc rfl (ec .len (by kernel_rfl) (fun ww => rfl) (zc rfl (ae (fun ww => rfl) (zn (h := za (q := sn ?_))))))
 refine CallW.lenL (.r ht) (by rw [List.length_map]; lia) ?_
 refine sn ?_
 refine ⟨_, _, rfl, hm1, by rw [List.length_map]; lia, ?_⟩
 refine ls_of rfl (xn ?_)
 refine q _ ⟨⟨m, n, cl, fs, es, ?_, ?_, ?_, ?_, ?_, ?_, h1, h2, h3, h.le, h.lf, h.a⟩, r⟩ ?_
 ·walk_at "gt"
 ·exact ah (by lia) h.d
 ·exact ah (by lia) h.f
 ·exact ah (by lia) h.t
 ·rw [show mks (ss.mr ++ [ss.tr.length]) = mks ss.mr ++ [.int ((ss.tr.map TE.d).length : Nat)] by simp [mks]]
  walk_at "gt"
 ·exact ah (by lia) h.gn
 ·intro i hi
  have := h.a i hi
  exact ah (by lia) rfl
theorem c_Store_new_var {a b : Int} {Q : AV → AH → Prop} (h : St A σ S ss) (hl : ss.dm.length < 5) (hd1 : a ≤ b ∧ b ≤ a + 1)
  (q : ∀ i σ', St A σ' S { ss with dm := ss.dm ++ [(a, b)] } → Fr A σ σ' → Q (.d (.int i)) σ') : CodeW g (k + 3) (.ref 115) [.r S, .d (ivl a b)] σ Q := by
 (refine x0_1 h ?_; clear h; intro z4 r; (refine x5_0 z4 ?_; clear z4; intro m n cl fs es h))
 have hs := h.s
 have hd := h.d
 have hf1 := h.f
 have h1 := h.lm; have h2 := h.ln; have h3 := h.ne
 have lf := h.lf
 refine cf2 "self" "domain" (by kernel_rfl) (by kernel_rfl) (fun ww ww => rfl) rfl ?_
 refine aa (rw_expr (fun ww => rfl) (EvW.append (by walk_at "mf") (ae (fun ww => rfl) (zn (h := za (q := ?_))))))
 refine ⟨S + 1, _, rfl, hd, ?_⟩
 refine zc rfl (zn (h := sn ?_))
 refine ⟨_, _, rfl, hd, by rw [List.length_map]; lia, ?_⟩
 refine ls_of rfl (aa (rw_expr (fun ww => rfl) (EvW.append (by walk_at "mf") (ae (fun ww => rfl) (zn (h := za (q := ?_)))))))
 refine ⟨S + 2, _, rfl, by walk_at "gt", ?_⟩
 refine zc rfl (zn (h := sn ?_))
 refine ⟨_, _, rfl, by walk_at "gt", by rw [List.length_map]; lia, ?_⟩
 refine ls_of rfl (aa (ri (ad rfl (zn (h := ai (sn ?_))))))
 walk_at "frz"
 refine CmpW.eq rfl rfl ivl_shaped rfl ?_
 rw [show PyData.eqv (ivl a b) (.tuple []) = false from rfl]
 refine ab (jf (xn (aa (ag (aj (ec .len (by kernel_rfl) (fun ww => rfl) (zc rfl (ae (fun ww => rfl) (zn (h := za (q := sn ?_)))))))))))
 refine CallW.lenL (.r (xs := ss.dm.map iv ++ [ivl a b]) ?_) (by simp; lia) ?_
 ·walk_at "gt"
 refine ei (BinW.sub ?_)
 refine q _ _ ⟨⟨m, n, cl, fs ++ [(a, b)], es, ?_, ?_, ?_, ?_, ?_, ?_, h1, h2, h3, h.le, ?_, h.a⟩, ?_, ?_, ?_⟩ ?_
 ·walk_at "gt"
 ·rw [List.map_append]
  exact ah (by lia) gS
 ·rw [List.map_append]
  exact gS
 ·exact ah (by lia) (ah (by lia) h.t)
 ·exact ah (by lia) (ah (by lia) h.gm)
 ·exact ah (by lia) (ah (by lia) h.gn)
 ·simp; lia
 ·intro p hp
  rcases List.mem_append.mp hp with hp | hp
  ·exact r.1 p hp
  ·cases List.mem_singleton.mp hp
   exact hd1
 ·simp; lia
 ·have := r.2.2
  simp [wid] at this ⊢; lia
 ·intro i hi
  have := h.a i hi
  exact ah (by lia) (ah (by lia) rfl)
end
end
section
set_option tactic.hygienic false
noncomputable def undo (ext : List TE) (dm : List (Int × Int)) : List (Int × Int) := ext.foldr (fun t dm => dm.set t.x (t.lo, t.hi)) dm
theorem undo_length (ext : List TE) (dm : List (Int × Int)) : (undo ext dm).length = dm.length := by
 induction ext with
 | nil => rfl
 | cons t r ih => exact (List.length_set ..).trans ih
theorem undo_snoc (ext : List TE) (t : TE) (dm : List (Int × Int)) : undo (ext ++ [t]) dm = undo ext (dm.set t.x (t.lo, t.hi)) := by simp [undo]
section
variable (g : G KK) {A : Nat → Prop} {σ : AH} {S k : Nat} {ss : SS}
theorem c_Store_pop {t0 ext : List TE} {ms : List Nat} {dm0 : List (Int × Int)} {Q : AV → AH → Prop} (h : St A σ S ss) (ht : ss.tr = t0 ++ ext) (hm : ss.mr = ms ++ [t0.length]) (hml : ms.length ≤ 1000)
  (hu : undo ext ss.dm = dm0) (hv : ∀ t ∈ ext, t.x < ss.dm.length) (hd0 : (∀ p ∈ dm0, p.1 ≤ p.2 ∧ p.2 ≤ p.1 + 1) ∧ dm0.length ≤ 5 ∧ (t0.length : Int) + wid dm0 ≤ dm0.length)
  (q : ∀ σ', St A σ' S ⟨dm0, t0, ms, false⟩ → Fr A σ σ' → Q (.d .none) σ') : CodeW g (k + 3) (.ref 227) [.r S, .d (.int 1)] σ Q := by
 (refine x0_1 h ?_; clear h; intro z1 r; (refine x5_0 z1 ?_; clear z1; intro m n cl fs es h))
 have hs := h.s
 have hu0 := hu
 have ht1 := h.t; have hm1 := h.gm; have hd := h.d; have hf := h.f
 have h1 := h.lm; have h2 := h.ln; have h3 := h.ne
 have w := wid_pos r.1; have r2 := r.2.1; have r3 := r.2.2
 have hlm : (mks ss.mr).length = ms.length + 1 := by simp [mks, hm]
 refine cf2 "self" "n" (by kernel_rfl) (by kernel_rfl) (fun ww ww => rfl) rfl ?_
 refine aa (ri (ad rfl (zn (h := ei (CmpW.lt (ab ?_))))))
 refine jn (by decide) ?_
 refine xn (aa (rq (by kernel_rfl) (fun ww => rfl) (af (ae (fun ww => rfl) (zn (h := za (q := aj (ec .len (by kernel_rfl) (fun ww => rfl) (zc rfl (ae (fun ww => rfl) (zn (h := za (q := sn ?_)))))))))))))
 refine CallW.lenL (.r hm1) (by lia) ?_
 refine zn (h := BinW.sub ?_)
 refine SubW.lst (d := .int (t0.length : Nat)) (by intro o i; rfl) (.r hm1) (by lia) (by lia) ?_ ?_
 ·rw [show ((mks ss.mr).length - 1 : Int).toNat = ms.length by lia]
  simp [mks, hm]
 refine aa (rw_sta (fun ww => rfl) (EvW.frontL (ae (fun ww => rfl) (zn (h := za (q := aj (ec .len (by kernel_rfl) (fun ww => rfl) (zc rfl (ae (fun ww => rfl) (zn (h := za (q := sn ?_))))))))))))
 refine CallW.lenL (.r hm1) (by lia) ?_
 refine zn (h := BinW.sub ?_)
 refine ⟨_, ms.length, .r hm1, by lia, ?_, ?_⟩
 ·rw [show ((mks ss.mr).length - 1 : Int) = ms.length by lia]
 refine zn (h := zsa (hl := Nat.le_of_ble_eq_true rfl) (q := aa ?_))
 refine StW.while (fun j m' σ' => ∃ e dm, e.length = j ∧ undo e dm = dm0 ∧ (∀ t ∈ e, t.x < dm.length) ∧ dm.length ≤ 5 ∧ (t0.length + e.length ≤ 10000) ∧ m' "self" = some (.r S) ∧ m' "mark" = some (.d (.int (t0.length : Nat))) ∧
  σ'.next = σ.next + 1 ∧ σ'.get S = some (.inst 244 (flds S σ.next n ss.fail cl)) ∧ σ'.get (S + 1) = some (.list (dm.map iv)) ∧ σ'.get (S + 2) = some (.list (fs.map iv)) ∧ σ'.get (S + 3) = some (.list ((t0 ++ e).map TE.d)) ∧ σ'.get σ.next = some (.list (mks ms)) ∧ Fr A σ σ') ?_ ext.length ?_
 ·(intro j; intro m'; intro σ1; intro z3r; (refine x2_13 z3r ?_; clear z3r; intro e dm he hu hv hd5 hl l1 l2 g0 g1 g2 g3 g4 g5 g6))
  refine ad rfl (ec .len (by kernel_rfl) (fun ww => rfl) (zc rfl (ae (fun ww => rfl) (zn (h := za (q := sn ?_))))))
  refine CallW.lenL (.r g4) (by rw [List.length_map]; simp; lia) ?_
  refine zn (h := CmpW.gt (ab ?_))
  by_cases he0 : e = []
  ·subst he0
   refine jn (by simp) ?_
   refine aa (rw_sta (fun ww => rfl) (EvW.dict0 (zn (h := zsa (hl := Nat.le_of_ble_eq_true rfl) (q := aa (rw_sta (fun ww => rfl) (rv_cmp rfl (ai (sn ?_)))))))))
   walk_at "frz"
   refine ae (fun ww => rfl) (zn (h := za (q := ?_)))
   refine CmpW.inL (x := .tuple []) rfl (.r (xs := fs.map iv) ?_) rfl (Shp.of (Shp.list (n := 2) fun d hd => ?_)) ?_
   ·walk_at "gt"
   ·(refine x1_1 (List.mem_map.mp hd) ?_; intro p ww z2; obtain rfl := z2)
    exact Shp.ivl
   rw [show ((fs.map iv).any fun y => PyData.eqv y (.tuple [])) = false by
    rw [List.any_map, List.any_eq_false]
    intro p ww
    simp only [Function.comp]
    exact Bool.false_ne_true]
   refine zn (h := zsa (hl := Nat.le_of_ble_eq_true rfl) (q := aa (rw_sta (fun ww => rfl) (ai (sn ?_)))))
   walk_at "frz"
   refine zn (h := zsa (hl := Nat.le_of_ble_eq_true rfl) (q := xn ?_))
   refine q _ ⟨⟨σ.next, σ1.next, .tuple [], fs, [], ?_, ?_, ?_, ?_, ?_, ?_, ?_, ?_, by lia, Nat.zero_le _, by rw [← hu0, undo_length]; exact h.lf, ?_⟩, hd0.1, hd0.2.1, hd0.2.2⟩ ?_
   ·walk_at "gt"
   ·rw [← hu]
    exact ah (by lia) (ah (by lia) (ah (by lia) (al (by lia) g2)))
   ·exact ah (by lia) (ah (by lia) (ah (by lia) (al (by lia) g3)))
   ·rw [List.append_nil] at g4
    exact ah (by lia) (ah (by lia) (ah (by lia) (al (by lia) g4)))
   ·exact ah (by lia) (ah (by lia) (ah (by lia) (al (by lia) g5)))
   ·exact ah (by lia) (ah (by lia) (ah (by lia) gP))
   ·simp only [AH.next_set, AH.next_push]; lia
   ·simp only [AH.next_set, AH.next_push]; lia
   ·intro i hi
    have := h.a i hi
    simp only [AH.next_set, AH.next_push]; lia
   ·intro i hi
    have := h.a i hi
    exact ah (by lia) (ah (by lia) (ah (by lia) (al (by lia) (g6 i hi))))
  ·obtain ⟨e', t, rfl⟩ : ∃ e' t, e = e' ++ [t] := ⟨_, _, (List.dropLast_concat_getLast he0).symm⟩
   refine jd (by simp; lia) ?_
   refine aa (rq (by kernel_rfl) (fun ww => rfl) (EvW.pop (by walk_at "mf") (ae (fun ww => rfl) (zn (h := za (q := ?_))))))
   refine ⟨S + 3, _, TE.d t, rfl, g4, ?_, ?_, ?_⟩
   ·simp [← List.append_assoc]
   ·simp at hl ⊢; lia
   refine aa (rw_set (fun ww => rfl) (af (zn (h := ei ?_))))
   refine SubW.t1 (fun ww ww => rfl) (by simp) (ae (fun ww => rfl) (zn (h := za (q := af (zn (h := ei ?_))))))
   refine ak (fun ww ww => rfl) (by simp) ?_
   dsimp only [TE.d]
   have := hv t (by simp)
   refine ⟨_, .list (by walk_at "gt") (by simpa using this) (by simp; lia), ?_⟩
   refine xn ?_
   refine ⟨e'.length, by simp at he; lia, e', dm.set t.x (t.lo, t.hi), rfl, by rw [← undo_snoc]; exact hu, fun t ht => by rw [List.length_set]; exact hv t (by simp [ht]), by rw [List.length_set]; exact hd5, by simp at hl ⊢; lia, by walk_at "lk", by walk_at "lk", g0, ?_, ?_, ?_, ?_, ?_, ?_⟩
   ·walk_at "gt"
   ·rw [List.map_set]
    exact gS
   ·walk_at "gt"
   ·refine ah (by lia) (gS.trans ?_)
    rw [← List.append_assoc, List.map_append (l₂ := [t])]
    exact congrArg (fun z => some (AO.list z)) (erase_last _ _)
   ·walk_at "gt"
   ·intro i hi
    have := h.a i hi
    exact ah (by lia) (ah (by lia) (g6 i hi))
 ·refine ⟨ext, ss.dm, rfl, hu, hv, r2, ?_, by walk_at "lk", by walk_at "lk", rfl, ?_, ?_, ?_, ?_, ?_, ?_⟩
  ·rw [ht] at r3; simp at r3; lia
  ·walk_at "gt"
  ·walk_at "gt"
  ·walk_at "gt"
  ·rw [← ht]; walk_at "gt"
  ·rw [show mks ms = (mks ss.mr).take ms.length by simp [mks, hm]]
   walk_at "gt"
  ·intro i hi
   have := h.a i hi
   exact ah (by lia) (al (by lia) rfl)
end
end
section
set_option tactic.hygienic false
section
variable (g : G KK) {A : Nat → Prop} {σ : AH} {S k : Nat} {ss : SS}
theorem c_Store_init {Q : AV → AH → Prop} (q : ∀ σ', St (fun i => i < σ.next) σ' σ.next ⟨[], [], [], false⟩ → Fr (fun i => i < σ.next) σ σ' → Q (.d .none) σ') : CodeW g (k + 3) (.ref 108) [.r σ.next] (σ.push (.inst 244 [])) Q := by
 refine cf1 "self" (by kernel_rfl) (by kernel_rfl) (fun ww => rfl) rfl ?_
 refine aa (rw_sta (fun ww => rfl) (EvW.lst0 (zn (h := zsa (hl := Nat.le_of_ble_eq_true rfl) (q := aa (rw_sta (fun ww => rfl) (EvW.lst0 (zn (h := zsa (hl := Nat.le_of_ble_eq_true rfl) (q := aa (rw_sta (fun ww => rfl) (EvW.lst0 (zn (h := zsa (hl := Nat.le_of_ble_eq_true rfl) (q := aa (rw_sta (fun ww => rfl) (EvW.lst0 (zn (h := zsa (hl := Nat.le_of_ble_eq_true rfl) (q := aa (rw_sta (fun ww => rfl) (EvW.dict0 (zn (h := zsa (hl := Nat.le_of_ble_eq_true rfl) (q := aa (rw_sta (fun ww => rfl) (rv_un (ei (UnW.neg (zn (h := zsa (hl := Nat.le_of_ble_eq_true rfl) (q := aa (rw_sta (fun ww => rfl) (EvW.bool (zn (h := zsa (hl := Nat.le_of_ble_eq_true rfl) (q := aa (rw_sta (fun ww => rfl) (ai (sn ?_))))))))))))))))))))))))))))))))))))))))
 walk_at "frz"
 refine zn (h := zsa (hl := Nat.le_of_ble_eq_true rfl) (q := xn ?_))
 refine q _ ⟨⟨σ.next + 4, σ.next + 5, .tuple [], [], [], ?_, ?_, ?_, ?_, ?_, ?_, ?_, ?_, by lia, Nat.zero_le _, Nat.zero_le _, fun i hi => ?_⟩, fun p hp => (by cases hp), Nat.zero_le _, by simp [wid]⟩ fun i hi => ?_
 ·simp [AH.set, AH.push]
 ·simp [AH.set, AH.push]
 ·simp [AH.set, AH.push]
 ·simp [AH.set, AH.push]
 ·simp [AH.set, AH.push, mks]
 ·simp [AH.set, AH.push]
 ·simp [AH.set, AH.push]
 ·simp [AH.set, AH.push]
 ·have hi : i < σ.next := hi
  simp [AH.set, AH.push]; lia
 ·have hi : i < σ.next := hi
  simp only [AH.set, AH.push]
  have e0 : ¬ i = σ.next := by lia
  have e1 : ¬ i = σ.next + 1 := by lia
  have e2 : ¬ i = σ.next + 1 + 1 := by lia
  have e3 : ¬ i = σ.next + 1 + 1 + 1 := by lia
  have e4 : ¬ i = σ.next + 1 + 1 + 1 + 1 := by lia
  have e5 : ¬ i = σ.next + 1 + 1 + 1 + 1 + 1 := by lia
  simp only [if_neg e0, if_neg e1, if_neg e2, if_neg e3, if_neg e4, if_neg e5]
end
end
section
noncomputable def Inb (pt : List Int) (dm : List (Int × Int)) : Prop := pt.length = dm.length ∧ ∀ (i : Nat) (v : Int) (p : Int × Int), pt[i]? = some v → dm[i]? = some p → p.1 ≤ v ∧ v ≤ p.2
noncomputable def Ok (dm : List (Int × Int)) : Prop := ∀ p ∈ dm, p.1 ≤ p.2 ∧ p.2 ≤ p.1 + 1
noncomputable def Sgl (dm : List (Int × Int)) : Prop := ∀ p ∈ dm, p.1 = p.2
noncomputable def Lit.ok (l : Lit) (pt : List Int) : Prop := l.sat (pt.getD l.x 0)
structure Adv (ss ss' : SS) : Prop where
 mr : ss'.mr = ss.mr
 len : ss'.dm.length = ss.dm.length
 ext : ∃ ext, ss'.tr = ss.tr ++ ext ∧ undo ext ss'.dm = ss.dm ∧ ∀ t ∈ ext, t.x < ss.dm.length
 sub : ∀ (i : Nat) (p p' : Int × Int), ss.dm[i]? = some p → ss'.dm[i]? = some p' → p.1 ≤ p'.1 ∧ p'.2 ≤ p.2
theorem undo_append (a b : List TE) (dm : List (Int × Int)) : undo (a ++ b) dm = undo a (undo b dm) := by simp [undo]
theorem Adv.refl (ss : SS) : Adv ss ss := ⟨rfl, rfl, ⟨[], by simp, rfl, fun t ht => by cases ht⟩, fun i p p' h h' => by rw [h] at h'; cases h'; lia⟩
theorem get_lt {α β : Type} {l : List α} {l' : List β} (h : l'.length = l.length) {i : Nat} {p : α} (e : l[i]? = some p) : ∃ p', l'[i]? = some p' := by
 have : i < l'.length := by rw [h]; exact (List.getElem?_eq_some_iff.mp e).1
 exact ⟨_, List.getElem?_eq_getElem this⟩
theorem Adv.trans {a b c : SS} (h : Adv a b) (k : Adv b c) : Adv a c := by
 (refine x1_2 h.ext ?_; intro e1 h1 h2 h3)
 (refine x1_2 k.ext ?_; intro e2 k1 k2 k3)
 refine ⟨k.mr.trans h.mr, k.len.trans h.len, ⟨e1 ++ e2, by rw [k1, h1, List.append_assoc], by rw [undo_append, k2, h2], fun t ht => ?_⟩, fun i p p' x y => ?_⟩
 ·rcases List.mem_append.mp ht with ht | ht
  ·exact h3 t ht
  ·rw [← h.len]; exact k3 t ht
 ·(refine x1_0 (get_lt h.len x) ?_; intro q hq)
  have := h.sub i p q x hq
  have := k.sub i q p' hq y
  lia
theorem Adv.fail {ss : SS} {f : Bool} : Adv ss { ss with fail := f } := ⟨rfl, rfl, ⟨[], by simp, rfl, fun t ht => by cases ht⟩, fun i p p' h h' => by rw [h] at h'; cases h'; lia⟩
theorem Adv.inb {ss ss' : SS} (h : Adv ss ss') {pt : List Int} (k : Inb pt ss'.dm) : Inb pt ss.dm := ⟨k.1.trans h.len, fun i v p hv hp => by
 (refine x1_0 (get_lt h.len hp) ?_; intro q hq)
 have := h.sub i p q hp hq
 have := k.2 i v q hv hq
 lia⟩
theorem Adv.sgl {ss ss' : SS} (h : Adv ss ss') (o : Ok ss'.dm) (s : Sgl ss.dm) : ss'.dm = ss.dm := by
 apply List.ext_getElem h.len
 intro i h1 h2
 have a := h.sub i _ _ (List.getElem?_eq_getElem h2) (List.getElem?_eq_getElem h1)
 have b := o _ (List.getElem_mem h1)
 have c := s _ (List.getElem_mem h2)
 exact Prod.ext (by lia) (by lia)
theorem getD_of {pt : List Int} {x : Nat} {v : Int} (h : pt[x]? = some v) : pt.getD x 0 = v := by simp [h]
theorem Ent.adv {l : Lit} {p : Int × Int} {ss ss' : SS} {b : Bool} (E : Ent l p ss b ss') (hx : ss.dm[l.x]? = some p) (hp : p.1 ≤ p.2 ∧ p.2 ≤ p.1 + 1) : Adv ss ss' := by
 (refine x0_1 E ?_; clear E; intro h1 h2)
 split at h2
 ·(refine x0_2 h2 ?_; clear h2; intro _ h3 h4)
  refine ⟨h1, by rw [h3], ⟨[], by rw [h4]; simp, h3, fun t ht => by cases ht⟩, fun i p p' h h' => by rw [h3, h] at h'; cases h'; lia⟩
 ·rename_i c hc
  (refine x0_3 h2 ?_; clear h2; intro _ _ h3 h4)
  have hl : l.x < ss.dm.length := (List.getElem?_eq_some_iff.mp hx).1
  (refine x0_3 (Lit.cut_some hp.1 hp.2 (a := c.1) (b := c.2) hc) ?_; intro c1 c2 c3 _)
  refine ⟨h1, by rw [h3, List.length_set], ?_, fun i q q' h h' => ?_⟩
  ·rcases h4 with ⟨h4, rfl⟩ | ⟨t, t1, t2, t3, h4⟩
   ·exact ⟨[], by rw [h4]; simp, by rw [h3, set_same hx]; rfl, fun t ht => by cases ht⟩
   ·refine ⟨[t], h4, ?_, fun s hs => by rw [List.mem_singleton.mp hs, t1]; exact hl⟩
    rw [h3]
    show (ss.dm.set l.x c).set t.x (t.lo, t.hi) = _
    rw [t1, t2, t3, List.set_set, set_same hx]
  ·rw [h3] at h'
   by_cases e : l.x = i
   ·subst e
    rw [List.getElem?_set_self hl] at h'
    cases h'
    rw [hx] at h; cases h
    lia
   ·rw [List.getElem?_set_ne e, h] at h'
    cases h'; lia
theorem Ent.no {l : Lit} {p : Int × Int} {ss ss' : SS} (E : Ent l p ss false ss') (hx : ss.dm[l.x]? = some p) (hp : p.1 ≤ p.2 ∧ p.2 ≤ p.1 + 1) : ∀ pt, Inb pt ss.dm → ¬ l.ok pt := by
 (refine x0_1 E ?_; clear E; intro _ h2)
 split at h2
 ·rename_i hc
  intro pt hpt
  (refine x1_0 (get_lt hpt.1 hx) ?_; intro v hv)
  have := hpt.2 _ _ _ hv hx
  unfold Lit.ok
  rw [getD_of hv]
  exact Lit.cut_none hp.1 hp.2 hc v this.1 this.2
 ·exact absurd h2.1 (by simp)
theorem Ent.yes {l : Lit} {p : Int × Int} {ss ss' : SS} (E : Ent l p ss true ss') (hx : ss.dm[l.x]? = some p) (hp : p.1 ≤ p.2 ∧ p.2 ≤ p.1 + 1) : ss'.fail = ss.fail ∧ ∀ pt, Inb pt ss'.dm ↔ Inb pt ss.dm ∧ l.ok pt := by
 have A := E.adv hx hp
 (refine x0_1 E ?_; clear E; intro _ h2)
 split at h2
 ·exact absurd h2.1 (by simp)
 ·rename_i c hc
  (refine x0_3 h2 ?_; clear h2; intro _ h5 h3 _)
  refine ⟨h5, fun pt => ?_⟩
  (refine x0_3 (Lit.cut_some hp.1 hp.2 (a := c.1) (b := c.2) hc) ?_; intro c1 c2 c3 c4)
  have hl : l.x < ss.dm.length := (List.getElem?_eq_some_iff.mp hx).1
  constructor
  ·intro k
   refine ⟨A.inb k, ?_⟩
   have hx' : ss'.dm[l.x]? = some c := by rw [h3]; exact List.getElem?_set_self hl
   (refine x1_0 (get_lt k.1 hx') ?_; intro v hv)
   unfold Lit.ok
   rw [getD_of hv]
   exact ((c4 v).mp (k.2 _ _ _ hv hx')).2.2
  ·(intro z0r; (refine x0_1 z0r ?_; clear z0r; intro k o))
   refine ⟨k.1.trans A.len.symm, fun i v q hv hq => ?_⟩
   rw [h3] at hq
   by_cases e : l.x = i
   ·subst e
    rw [List.getElem?_set_self hl] at hq
    cases hq
    have := k.2 _ _ _ hv hx
    unfold Lit.ok at o
    rw [getD_of hv] at o
    exact (c4 v).mpr ⟨this.1, this.2, o⟩
   ·rw [List.getElem?_set_ne e] at hq
    exact k.2 _ _ _ hv hq
structure PropR (P : List Int → Prop) (ss : SS) (b : Bool) (ss' : SS) : Prop where
 adv : Adv ss ss'
 no : b = false → ∀ pt, Inb pt ss.dm → ¬ P pt
 keep : b = true → ∀ pt, Inb pt ss.dm → P pt → Inb pt ss'.dm
 one : b = true → Sgl ss.dm → ∀ pt, Inb pt ss.dm → P pt
theorem PropR.iff {P P' : List Int → Prop} {ss ss' : SS} {b : Bool} (h : PropR P ss b ss') (e : ∀ pt, Inb pt ss.dm → (P pt ↔ P' pt)) : PropR P' ss b ss' :=
 ⟨h.adv, fun hb pt hp z => h.no hb pt hp ((e pt hp).mpr z), fun hb pt hp z => h.keep hb pt hp ((e pt hp).mpr z), fun hb s pt hp => (e pt hp).mp (h.one hb s pt hp)⟩
theorem PropR.strike {P : List Int → Prop} {l : Lit} {p : Int × Int} {ss ss' : SS} {b : Bool} (E : Ent l p ss b ss') (hx : ss.dm[l.x]? = some p) (hp : p.1 ≤ p.2 ∧ p.2 ≤ p.1 + 1)
  (h1 : ∀ pt, Inb pt ss.dm → P pt → l.ok pt) (h2 : Sgl ss.dm → ∀ pt, Inb pt ss.dm → l.ok pt → P pt) : PropR P ss b ss' := by
 refine ⟨E.adv hx hp, fun hb pt k z => ?_, fun hb pt k z => ?_, fun hb s pt k => ?_⟩
 ·subst hb; exact E.no hx hp pt k (h1 pt k z)
 ·subst hb; exact ((E.yes hx hp).2 pt).mpr ⟨k, h1 pt k z⟩
 ·subst hb
  by_cases o : l.ok pt
  ·exact h2 s pt k o
  ·exfalso
   (refine x0_1 E ?_; clear E; intro h3 h4)
   split at h4
   ·exact absurd h4.1 (by simp)
   ·rename_i c hc
    (refine x0_3 (Lit.cut_some hp.1 hp.2 (a := c.1) (b := c.2) hc) ?_; intro c1 c2 c3 c4)
    (refine x1_0 (get_lt k.1 hx) ?_; intro v hv)
    have := k.2 _ _ _ hv hx
    have e := s p (List.mem_of_getElem? hx)
    apply o
    unfold Lit.ok
    rw [getD_of hv]
    exact ((c4 v).mp ⟨by lia, by lia⟩).2.2
theorem PropR.failed {P : List Int → Prop} {ss : SS} (h : ∀ pt, Inb pt ss.dm → ¬ P pt) : PropR P ss false { ss with fail := true } :=
 ⟨Adv.fail, fun _ => h, fun hb => (by cases hb), fun hb => (by cases hb)⟩
theorem PropR.kept {P : List Int → Prop} {ss : SS} (h : Sgl ss.dm → ∀ pt, Inb pt ss.dm → P pt) : PropR P ss true ss :=
 ⟨Adv.refl ss, fun hb => (by cases hb), fun _ pt k _ => k, fun _ => h⟩
end
section
set_option tactic.hygienic false
section
variable (g : G KK) {A : Nat → Prop} {σ : AH} {S k : Nat} {ss : SS}
noncomputable abbrev l1 (x : Nat) : Lit := ⟨x, .ge, 1⟩
noncomputable abbrev l0 (x : Nat) : Lit := ⟨x, .le, 0⟩
theorem c_is_one {x : Nat} {Q : AV → AH → Prop} (q : Q (.d (l1 x).d) σ) : CodeW g (k + 1) (.ref 297) [.d (.int (x : Nat))] σ Q := by
 refine cf1 "x" (by kernel_rfl) (by kernel_rfl) (fun ww => rfl) rfl ?_
 refine aa (ag (ai (zc rfl (zn (h := zc rfl (eS (zc rfl (ei (sn ?_)))))))))
 walk_at "frz"
 exact q
theorem c_is_nought {x : Nat} {Q : AV → AH → Prop} (q : Q (.d (l0 x).d) σ) : CodeW g (k + 1) (.ref 304) [.d (.int (x : Nat))] σ Q := by
 refine cf1 "x" (by kernel_rfl) (by kernel_rfl) (fun ww => rfl) rfl ?_
 refine aa (ag (ai (zc rfl (zn (h := zc rfl (eS (zc rfl (ei (sn ?_)))))))))
 walk_at "frz"
 exact q
noncomputable abbrev pfl (sc : List PyData) (st : PyData) : List (Str × AV) := [("number", .d (.int (-1))), ("scope", .d (.tuple sc)), ("strength", .d st)]
theorem c_Prop_init {i : Nat} {C : Addr} {xs : List PyData} {st : PyData} {Q : AV → AH → Prop} (hC : clsOk (KK g.w.params) C = true) (h1 : attrOk (KK g.w.params) C "number" = true) (h2 : attrOk (KK g.w.params) C "scope" = true) (h3 : attrOk (KK g.w.params) C "strength" = true)
  (h : σ.get i = some (.inst C [])) (q : ∀ σ', σ'.next = σ.next → σ'.get i = some (.inst C (pfl xs st)) → (∀ j, j ≠ i → σ'.get j = σ.get j) → Q (.d .none) σ') : CodeW g (k + 1) (.ref 262) [.r i, .d (.tuple xs), .d st] σ Q := by
 refine cf3 "self" "scope" "strength" (by kernel_rfl) (by kernel_rfl) (fun ww ww ww => rfl) rfl ?_
 refine aa (rw_sta (fun ww => rfl) (rv_un (ei (UnW.neg (zn (h := zsa (hl := Nat.le_of_ble_eq_true rfl) (q := aa (rw_sta (fun ww => rfl) (ec .tuple (by kernel_rfl) (fun ww => rfl) (zc rfl (zn (h := sn (CallW.tupleT (zn (h := zsa (hl := Nat.le_of_ble_eq_true rfl) (q := aa (rw_sta (fun ww => rfl) (zn (h := zn (h := zsa (hl := Nat.le_of_ble_eq_true rfl) (q := xn ?_)))))))))))))))))))))
 exact q _ rfl gS fun j hj => ah hj (ah hj (ah hj rfl))
end
end
section
set_option tactic.hygienic false
theorem Sg.shp (s : Sg) : Shp 0 (.str s.s) := by
 cases s <;> exact ⟨by decide +kernel, Nat.le_refl _⟩
theorem Lit.shp (l : Lit) : Shp 1 l.d := Shp.tuple fun d hd => by
 simp only [List.mem_cons, List.mem_nil_iff, or_false] at hd
 rcases hd with rfl | rfl | rfl
 ·exact Shp.int
 ·exact l.s.shp
 ·exact Shp.int
theorem Sg.eqv (a b : Sg) : PyData.eqv (.str a.s) (.str b.s) = decide (a.s = b.s) := by
 rw [Bool.eq_iff_iff]; simp [PyData.eqv]
theorem Sg.inj {a b : Sg} (h : a.s = b.s) : a = b := by
 cases a <;> cases b <;> first | rfl | (exact absurd h (by decide +kernel))
theorem Lit.d_eqv (a b : Lit) : PyData.eqv a.d b.d = true ↔ a = b := by
 obtain ⟨x, s, k⟩ := a
 obtain ⟨y, t, j⟩ := b
 have := Sg.eqv s t
 simp only [Lit.d, PyData.eqv, PyData.eqvAll, Bool.and_true, Bool.and_eq_true] at this ⊢
 constructor
 ·(intro z0r; (refine x0_2 z0r ?_; clear z0r; intro h1 h2 h3))
  have e0 : (x : Int) = y := by simpa using h1
  have e1 : x = y := Int.ofNat.inj e0
  have e3 : k = j := by simpa using h3
  have e2 : s = t := Sg.inj (by rw [this] at h2; simpa using h2)
  rw [e1, e2, e3]
 ·intro h
  cases h
  exact ⟨by simp, by rw [this]; simp, by simp⟩
theorem Lit.any_eqv (ws : List Lit) (l : Lit) : ((ws.map Lit.d).any fun y => PyData.eqv y l.d) = true ↔ l ∈ ws := by
 rw [List.any_map, List.any_eq_true]
 constructor
 ·(intro z0r; (refine x1_1 z0r ?_; clear z0r; intro x hx h))
  have := (Lit.d_eqv x l).mp h
  rw [← this]; exact hx
 ·intro h
  exact ⟨l, h, (Lit.d_eqv l l).mpr rfl⟩
theorem Lit.shp_all {ws : List Lit} : shaped (.list (ws.map Lit.d)) = true := Shp.of (Shp.list (n := 1) fun d hd => by
 (refine x1_1 (List.mem_map.mp hd) ?_; intro l ww z1; obtain rfl := z1)
 exact l.shp)
theorem fmS {α β : Type} (f : α → β) : ∀ xs : List α, xs.filterMap (fun x => some (f x)) = xs.map f
 | [] => rfl
 | a :: r => by simp [fmS f r]
end
section
set_option tactic.hygienic false
noncomputable def mixIs : Int ⊕ Str → Value → Bool
 | .inl i, v => Value.isInt i v
 | .inr x, v => Value.isStrOf x v
noncomputable def mixHash (w : World) : Int ⊕ Str → Int
 | .inl i => hashInt i
 | .inr x => hashStr w x
theorem mix_l {i : Int} {v : Value} (h : mixIs (.inl i) v = true) : ∃ t, v = .int i t := Value.isInt_shape h
theorem mix_r {x : Str} {v : Value} (h : mixIs (.inr x) v = true) : ∃ t, v = .str x t := Value.isStrOf_shape h
theorem mix_inj : ∀ (v : Value) (a b : Int ⊕ Str), mixIs a v = true → mixIs b v = true → a = b
 | v, .inl i, .inl j, ha, hb => congrArg _ (Value.isInt_inj v i j ha hb)
 | v, .inr i, .inr j, ha, hb => congrArg _ (Value.isStrOf_inj v i j ha hb)
 | v, .inl i, .inr j, ha, hb => by (refine x1_0 (mix_l ha) ?_; intro t z1; obtain rfl := z1); (refine x1_0 (mix_r hb) ?_; intro u e); cases e
 | v, .inr i, .inl j, ha, hb => by (refine x1_0 (mix_r ha) ?_; intro t z2; obtain rfl := z2); (refine x1_0 (mix_l hb) ?_; intro u e); cases e
noncomputable def mixKind (prog : Program) (w : World) : KeyKind prog w (Int ⊕ Str) where
 is := mixIs
 hash := mixHash w
 inj := mix_inj
 byValue := fun a v ha => by
  cases a with
  | inl i => (refine x1_0 (mix_l ha) ?_; intro t z3; obtain rfl := z3); rfl
  | inr x => (refine x1_0 (mix_r ha) ?_; intro t z4; obtain rfl := z4); rfl
 pyHash := fun {A E s a v Q} ha h => by
  cases a with
  | inl i => (refine x1_0 (mix_l ha) ?_; intro t z5; obtain rfl := z5); exact wpAny_pyHash_int h
  | inr x => (refine x1_0 (mix_r ha) ?_; intro t z6; obtain rfl := z6); exact wpAny_pyHash_str h
 eqBool := fun {A E s a b u v Q} ha hb h => by
  cases a with
  | inl i =>
   (refine x1_0 (mix_l ha) ?_; intro t z7; obtain rfl := z7)
   cases b with
   | inl j =>
    (refine x1_0 (mix_l hb) ?_; intro u z8; obtain rfl := z8)
    refine wpAny_eqBool_int ?_
    rw [show (i == j) = decide ((Sum.inl i : Int ⊕ Str) = .inl j) by rw [Bool.eq_iff_iff]; simp]
    exact h
   | inr y => (refine x1_0 (mix_r hb) ?_; intro u z9; obtain rfl := z9); exact PySem.SeqAt.EqAt.int_str i t y u prog w E Q h
  | inr x =>
   (refine x1_0 (mix_r ha) ?_; intro t z10; obtain rfl := z10)
   cases b with
   | inl j => (refine x1_0 (mix_l hb) ?_; intro u z11; obtain rfl := z11); exact PySem.SeqAt.EqAt.str_int x t j u prog w E Q h
   | inr y =>
    (refine x1_0 (mix_r hb) ?_; intro u z12; obtain rfl := z12)
    refine wpAny_eqBool_str ?_
    rw [show decide (x = y) = decide ((Sum.inr x : Int ⊕ Str) = .inr y) by simp]
    exact h
 «strs» := fun a x t v ha => by
  cases a with
  | inl i => (refine x1_0 (mix_l ha) ?_; intro u e); cases e
  | inr y =>
   (refine x1_0 (mix_r ha) ?_; intro u e)
   injection e with hx
   subst hx
   cases v <;> rfl
theorem mix_il {prog : Program} {w : World} {i : Int} {t : Tok} : (mixKind prog w).is (.inl i) (.int i t) = true := by
 show mixIs (.inl i) (.int i t) = true
 simp [mixIs, Value.isInt]
theorem mix_ir {prog : Program} {w : World} {x : Str} {t : Tok} : (mixKind prog w).is (.inr x) (.str x t) = true := by
 show mixIs (.inr x) (.str x t) = true
 simp [mixIs, Value.isStrOf]
noncomputable abbrev lk3 (l : Lit) : List (Int ⊕ Str) := [.inl (l.x : Nat), .inr l.s.s, .inl l.k]
theorem lk3_inj {l l' : Lit} (h : lk3 l = lk3 l') : l = l' := by
 obtain ⟨x, s, k⟩ := l
 obtain ⟨x', s', k'⟩ := l'
 simp only [lk3, List.cons.injEq, Sum.inl.injEq, Sum.inr.injEq, and_true] at h
 (refine x0_2 h ?_; clear h; intro h1 h2 h3)
 have : x = x' := by lia
 have hs : s = s' := by cases s <;> cases s' <;> first | rfl | exact absurd h2 (by decide +kernel)
 rw [this, hs, h3]
noncomputable abbrev LitAt (prog : Program) (w : World) (h : Heap) (l : Lit) (a : Addr) : Prop := IsTupleKey (mixKind prog w) h (lk3 l) a
section
variable {prog : Program} {w : World} {A : Around} {E : Value → Shared → Prop} {s : Shared}
theorem lit_rd {F : FH} {v : Value} {l : Lit} (r : Rd F v l.d) : ∃ a o, v = .ref a ∧ F a = some o ∧ (∀ h : Heap, h.get? a = some o → LitAt prog w h l a) := by
 unfold Lit.d at r
 refine x4_4 r.inv ?_
 clear r
 intro a o vs n zv e hc hd r
 subst zv
 refine ⟨a, o, rfl, e, fun h ho => ⟨o, vs, n, ho, hc, hd, ?_⟩⟩
 generalize vs.toList = ws at r
 (refine x2_2 r.ofCons ?_; clear r; intro v1 w1 e1 r1 r; subst e1; refine x2_2 r.ofCons ?_; clear r; intro v2 w2 e2 r2 r; subst e2; refine x2_2 r.ofCons ?_; clear r; intro v3 w3 e3 r3 r; subst e3; have e4 := r.ofNil; subst e4)
 (refine x1_0 r1.inv ?_; intro t1 e; subst e; refine x1_0 r2.inv ?_; intro t2 e; subst e; refine x1_0 r3.inv ?_; intro t3 e; subst e)
 exact .cons mix_il (.cons mix_ir (.cons mix_il .nil))
theorem lit_inv {h : Heap} {l : Lit} {a : Addr} (z : LitAt prog w h l a) : ∃ o n t1 t2 t3, h.get? a = some o ∧ o.cls = .type "tuple" ∧ o.data = .seq ⟨[.int (l.x : Nat) t1, .str l.s.s t2, .int l.k t3]⟩ n := by
 (refine x3_3 z ?_; clear z; intro o z2 n ho hc hd hi; obtain ⟨items⟩ := z2)
 cases hi with | @cons _ v1 _ _ h1 hi => cases hi with | @cons _ v2 _ _ h2 hi => cases hi with | @cons _ v3 _ _ h3 hi => cases hi with | nil =>
 (refine x1_0 (mix_l h1) ?_; intro t1 z3; subst z3; refine x1_0 (mix_r h2) ?_; intro t2 z4; subst z4; refine x1_0 (mix_l h3) ?_; intro t3 z5; subst z5)
 exact ⟨o, n, t1, t2, t3, ho, hc, hd⟩
end
end
section
set_option tactic.hygienic false
structure Tab (t : SetTable) (n : Nat) : Prop where
 mask : t.mask = 7
 dm : t.dummies = #[]
 pl : t.place.size = n
noncomputable def pst (t : SetTable) (h : Int) : Nat → SetTable.Probe
 | 0 => t.probeStart h
 | n + 1 => t.advance (pst t h n)
section
variable {t : SetTable} {n : Nat} {h : Int}
theorem Tab.fits (T : Tab t n) (hn : n ≤ 7) : t.fits n = true := by
 have := T.pl
 simp only [SetTable.fits, SetTable.fill, T.pl, T.dm, T.mask]
 simp; exact hn
theorem Tab.slot (T : Tab t n) (j : Nat) : t.slot j = .empty ∨ ∃ i, t.slot j = .live i ∧ t.place[i]? = some j := by
 unfold SetTable.slot
 dsimp only
 by_cases e : (t.place[SetTable.below t.place j]? == some j) = true
 ·rw [if_pos e]
  exact .inr ⟨_, rfl, eq_of_beq e⟩
 ·rw [if_neg e, if_neg (by rw [T.dm]; simp [SetTable.has])]
  exact .inl rfl
theorem pst_more (T : Tab t n) : ∀ m, (pst t h m).more = 0 ∧ (pst t h m).dummy = none ∧ (pst t h m).j = (pst t h m).i ∧ (pst t h m).i < 8
 | 0 => by
  have : SetTable.bits h % 8 < 8 := Nat.mod_lt _ (by decide)
  simp only [pst, SetTable.probeStart, T.mask, SetTable.runEnd]
  rw [if_neg (by lia)]
  refine ⟨Nat.sub_self _, ?_, ?_, this⟩ <;> first | rfl | trivial
 | m + 1 => by
  (refine x0_3 (pst_more T m) ?_; intro h1 h2 h3 h4)
  have : ((pst t h m).i * 5 + 1 + (pst t h m).perturb / 32) % 8 < 8 := Nat.mod_lt _ (by decide)
  simp only [pst, SetTable.advance, h1, T.mask, SetTable.runEnd, SetTable.leap]
  rw [if_neg (by decide), if_neg (by lia)]
  refine ⟨Nat.sub_self _, h2, ?_, this⟩ <;> first | rfl | trivial
theorem pst_next (T : Tab t n) (m : Nat) : (pst t h (m + 1)).i = ((pst t h m).i * 5 + 1 + (pst t h m).perturb / 32) % 8 ∧ (pst t h (m + 1)).perturb = (pst t h m).perturb / 32 := by
 (refine x0_3 (pst_more (h := h) T m) ?_; intro h1 h2 h3 h4)
 simp only [pst, SetTable.advance, h1, T.mask, SetTable.leap]
 rw [if_neg (by decide)]
 exact ⟨rfl, rfl⟩
theorem pst_pert (T : Tab t n) : ∀ m, (pst t h m).perturb = SetTable.bits h / 32 ^ m
 | 0 => by simp [pst, SetTable.probeStart]
 | m + 1 => by rw [(pst_next T m).2, pst_pert T m, Nat.div_div_eq_div_mul, Nat.pow_succ]
theorem bits_lt : SetTable.bits h < 2 ^ 64 := by
 unfold SetTable.bits
 have a := Int.emod_nonneg h (show (2 ^ 64 : Int) ≠ 0 by decide)
 have b := Int.emod_lt_of_pos h (show (0 : Int) < 2 ^ 64 by decide)
 lia
theorem pst_free (T : Tab t n) (hn : n ≤ 2) : ∃ m, m ≤ 15 ∧ t.slot (pst t h m).j = .empty := by
 have z : ∀ m, 13 ≤ m → (pst t h m).perturb = 0 := fun m hm => by
  rw [pst_pert T]
  have : 32 ^ 13 ≤ 32 ^ m := Nat.pow_le_pow_right (by decide) hm
  exact Nat.div_eq_of_lt (Nat.lt_of_lt_of_le (Nat.lt_trans bits_lt (by decide)) this)
 have e1 := (pst_next (h := h) T 13).1
 have e2 := (pst_next (h := h) T 14).1
 rw [z 13 (by decide)] at e1
 rw [z 14 (by decide), e1] at e2
 have l := (pst_more (h := h) T 13).2.2.2
 have j1 := (pst_more (h := h) T 13).2.2.1
 have j2 := (pst_more (h := h) T 14).2.2.1
 have j3 := (pst_more (h := h) T 15).2.2.1
 rw [e1] at j2
 rw [e2] at j3
 generalize (pst t h 13).i = i at *
 have key : ∀ j, t.slot j = .empty ∨ (∃ q, q < n ∧ t.place[q]? = some j) := fun j => by
  rcases T.slot j with e | ⟨q, _, e⟩
  ·exact .inl e
  ·exact .inr ⟨q, by rw [← T.pl]; exact (Array.getElem?_eq_some_iff.mp e).1, e⟩
 rcases key (pst t h 13).j with k1 | ⟨q1, l1, k1⟩
 ·exact ⟨13, by decide, k1⟩
 rcases key (pst t h 14).j with k2 | ⟨q2, l2, k2⟩
 ·exact ⟨14, by decide, k2⟩
 rcases key (pst t h 15).j with k3 | ⟨q3, l3, k3⟩
 ·exact ⟨15, by decide, k3⟩
 exfalso
 rw [j1] at k1
 rw [j2] at k2
 rw [j3] at k3
 have n12 : q1 ≠ q2 := fun e => by subst e; rw [k1] at k2; have := Option.some.inj k2; lia
 have n13 : q1 ≠ q3 := fun e => by subst e; rw [k1] at k3; have := Option.some.inj k3; lia
 have n23 : q2 ≠ q3 := fun e => by subst e; rw [k2] at k3; have := Option.some.inj k3; lia
 lia
theorem go_meets (T : Tab t n) {N : Nat} (hN : t.slot (pst t h N).j = .empty) (hash : Nat → Int) : ∀ (d m fuel : Nat), m + d = N → d < fuel →
  (∃ m', t.slot (pst t h m').j = .empty ∧ SetTable.probe.go t hash h fuel (pst t h m) = some (.empty (pst t h m').j none)) ∨
  (∃ m' i, m ≤ m' ∧ m' < N ∧ t.slot (pst t h m').j = .live i ∧ t.place[i]? = some (pst t h m').j ∧ SetTable.probe.go t hash h fuel (pst t h m) = some (.candidate (pst t h m').j i (pst t h (m' + 1)))) := by
 intro d
 induction d with
 | zero =>
  intro m fuel e hf
  obtain ⟨fuel, rfl⟩ : ∃ f, fuel = f + 1 := ⟨fuel - 1, by lia⟩
  rw [Nat.add_zero] at e
  subst e
  refine .inl ⟨m, hN, ?_⟩
  unfold SetTable.probe.go
  rw [hN]
  dsimp only
  rw [(pst_more T m).2.1]
 | succ d ih =>
  intro m fuel e hf
  obtain ⟨fuel, rfl⟩ : ∃ f, fuel = f + 1 := ⟨fuel - 1, by lia⟩
  rcases T.slot (pst t h m).j with k | ⟨i, k, k2⟩
  ·refine .inl ⟨m, k, ?_⟩
   unfold SetTable.probe.go
   rw [k]
   dsimp only
   rw [(pst_more T m).2.1]
  ·by_cases q : (hash i == h) = true
   ·refine .inr ⟨m, i, Nat.le_refl _, by lia, k, k2, ?_⟩
    unfold SetTable.probe.go
    rw [k]
    dsimp only
    rw [if_pos q]; rfl
   ·have E : SetTable.probe.go t hash h (fuel + 1) (pst t h m) = SetTable.probe.go t hash h fuel (pst t h (m + 1)) := by
     conv => lhs; unfold SetTable.probe.go
     rw [k]
     dsimp only
     rw [if_neg q]; rfl
    rw [E]
    rcases ih (m + 1) fuel (by lia) (by lia) with a | ⟨m', i', a1, a2, a3⟩
    ·exact .inl a
    ·exact .inr ⟨m', i', by lia, a2, a3⟩
end
end
section
set_option tactic.hygienic false
section
variable {prog : Program} {w : World} {A : Around} {E : Value → Shared → Prop} {s : Shared} {a b x D : Addr} {l : Lit} {h : Int}
theorem stmt_prim (n : Nat) {v : Value} (hv : carriedByValue v = true) : ofAClassStatement n v = pure false := by
 cases v with
 | ref a => simp [carriedByValue] at hv
 | _ => first | rfl | (unfold ofAClassStatement; rfl)
theorem stmt_tup {Q : Bool → Shared → Prop} (hk : LitAt prog w s.heap l a) (q : Q false s) : wpAny (model prog w) A (ofAClassStatement 8 (.ref a)) Q E s := by
 have hT := hk.typeIs
 (refine x3_3 hk ?_; clear hk; intro o items n ho ww hd hi)
 unfold ofAClassStatement
 refine wpAny_bind (wpAny_typeOf hT ?_)
 dsimp only
 refine wpAny_bind ?_
 refine wpAny_pure ?_
 rw [if_neg (by decide)]
 refine wpAny_bind (wpAny_seqItems ho hd ?_)
 dsimp only
 refine wpAny_bind ?_
 show wpAny _ _ (forIn items _ _) _ _ s
 rw [← Array.forIn_toList]
 refine wpAny_forIn_list _ (fun rest r s' => r.1 = none ∧ s' = s ∧ ∀ v, v ∈ rest → carriedByValue v = true) _ ?_ ?_ _ _ ⟨rfl, rfl, hi.byValue⟩
 ·(intro v; intro rest; intro r; intro s'; intro z4r; (refine x0_2 z4r ?_; clear z4r; intro hr z1 hv; obtain rfl := z1))
  refine wpAny_bind ?_
  rw [stmt_prim _ (hv v (List.mem_cons_self ..))]
  refine wpAny_pure ?_
  rw [if_neg Bool.false_ne_true]
  first
   | exact wpAny_pure ⟨rfl, rfl, fun u hu => hv u (List.mem_cons_of_mem _ hu)⟩
   | exact wpAny_bind (wpAny_pure (wpAny_pure ⟨rfl, rfl, fun u hu => hv u (List.mem_cons_of_mem _ hu)⟩))
 ·(intro z0r; obtain ⟨r1, r2⟩ := z0r; intro s'; intro z2r; (refine x0_2 z2r ?_; clear z2r; intro hr z2 ww; obtain rfl := z2))
  simp only at hr
  subst hr
  exact wpAny_pure q
theorem seen_tup {Q : Bool → Shared → Prop} (hk : LitAt prog w s.heap l a) (q : Q false s) (ys : List Value) (hy : ∀ v, v ∈ ys → ∃ b l, v = .ref b ∧ LitAt prog w s.heap l b) : wpAny (model prog w) A (searchCouldBeSeen (.ref a) ys) Q E s := by
 unfold searchCouldBeSeen
 refine wpAny_bind ?_
 refine wpAny_forIn_list _ (fun rest r s' => r.1 = none ∧ s' = s ∧ ∀ v, v ∈ rest → ∃ b l, v = .ref b ∧ LitAt prog w s.heap l b) _ ?_ ?_ _ _ ⟨rfl, rfl, hy⟩
 ·(intro v; intro rest; intro r; intro s'; intro z4r; (refine x0_2 z4r ?_; clear z4r; intro hr z3 hv; obtain rfl := z3))
  (refine x2_1 (hv v (List.mem_cons_self ..)) ?_; intro b l' z4 hb; obtain rfl := z4)
  have fin : ∀ u, u ∈ rest → ∃ b l, u = .ref b ∧ LitAt prog w s'.heap l b := fun u hu => hv u (List.mem_cons_of_mem _ hu)
  dsimp only
  split
  ·first | exact wpAny_pure ⟨rfl, rfl, fin⟩ | exact wpAny_bind (wpAny_pure (wpAny_pure ⟨rfl, rfl, fin⟩))
  ·refine wpAny_bind (wpAny_eqIsQuiet_tuple hk ?_)
   rw [if_neg (by decide)]
   refine wpAny_bind (wpAny_eqIsQuiet_tuple hb ?_)
   rw [if_neg (by decide)]
   refine wpAny_bind (stmt_tup hk ?_)
   rw [if_neg (by decide)]
   refine wpAny_bind (stmt_tup hb ?_)
   rw [if_neg (by decide)]
   first | exact wpAny_pure ⟨rfl, rfl, fin⟩ | exact wpAny_bind (wpAny_pure (wpAny_pure ⟨rfl, rfl, fin⟩))
 ·(intro z0r; obtain ⟨r1, r2⟩ := z0r; intro s'; intro z2r; (refine x0_2 z2r ?_; clear z2r; intro hr z5 ww; obtain rfl := z5))
  simp only at hr
  subst hr
  exact wpAny_pure q
theorem byValue_tup {Q : Bool → Shared → Prop} (hk : LitAt prog w s.heap l a) (q : Q false s) : wpAny (model prog w) A (hashByValue 8 (.ref a)) Q E s := by
 have hT := hk.typeIs
 (refine x5_2 (lit_inv hk) ?_; clear hk; intro o n t1 t2 t3 ho ww hd)
 unfold hashByValue
 refine wpAny_bind (wpAny_specialOf hT F.slot_tuple_hash.lookup ?_)
 dsimp only
 refine wpAny_bind (wpAny_seqItems ho hd ?_)
 simp only [Option.getD_some, List.forIn_toArray, List.forIn_cons, List.forIn_nil]
 exact wpAny_pure q
end
end
section
set_option tactic.hygienic false
structure SetAt (prog : Program) (w : World) (Pv : Addr → Prop) (h : Heap) (D : Addr) (es : Array (Int × Value)) (t : SetTable) (ls : List Lit) : Prop where
 ob : ∃ ep, h.get? D = some { cls := .type "set", dict := none, data := .set es ep t }
 tab : Tab t es.size
 led : w.params.followText "set-order" = false → t.led = true
 pln : es.size = 0 ∨ t.plain = false
 els : ∀ e, e ∈ es.toList → ∃ b l, e.2 = .ref b ∧ LitAt prog w h l b ∧ l ∈ ls ∧ Pv b
 all : ∀ l, l ∈ ls → ∃ e, e ∈ es.toList ∧ ∃ b, e.2 = .ref b ∧ LitAt prog w h l b
section
variable {prog : Program} {w : World} {A : Around} {E : Value → Shared → Prop} {s : Shared} {a b x D : Addr} {l : Lit} {h : Int} {es : Array (Int × Value)} {t : SetTable} {ls : List Lit} {Pv : Addr → Prop}
theorem state_tup {ep : Nat} {Q : (Array (Int × Value) × Nat × SetTable) → Shared → Prop} (ho : s.heap.get? D = some { cls := .type "set", dict := none, data := .set es ep t }) (T : Tab t es.size) (hn : es.size ≤ 7) (q : Q (es, ep, t) s) : wpAny (model prog w) A (setState D) Q E s :=
 wpAny_setState_of ho rfl (T.fits hn) q
theorem same_ref {Q : Bool → Shared → Prop} (q : Q true s) : wpAny (model prog w) A (isSame (.ref a) (.ref a)) Q E s := by
 unfold isSame
 dsimp only
 rw [if_pos (by simp)]
 exact wpAny_pure q
theorem search_tup {Q : SetFound → Shared → Prop} (hu : A.units < cLine) (hx : LitAt prog w s.heap l x) (hS : SetAt prog w Pv s.heap D es t ls) (hn : es.size ≤ 2) {N : Nat} (hN15 : N ≤ 15) (hN : t.slot (pst t h N).j = .empty) (q1 : l ∈ ls → Q (.there none) s) (q2 : ∀ j, Q (.free j false) s) :
  ∀ (d m fuel : Nat) (o : Option SetTable.Probe), m + d = N → d < fuel → o.getD (t.probeStart h) = pst t h m → wpAny (model prog w) A (setSearchFrom D (.ref x) h true fuel o) Q E s := by
 (refine x1_0 hS.ob ?_; intro ep ho)
 have T := hS.tab
 intro d
 induction d using Nat.strongRecOn with
 | ind d ih =>
  intro m fuel o e hf ho'
  obtain ⟨fuel, rfl⟩ : ∃ f, fuel = f + 1 := ⟨fuel - 1, by lia⟩
  unfold setSearchFrom
  refine wpAny_bind (state_tup ho T (by lia) ?_)
  dsimp only
  have hgw : t.gaveWay = false := by unfold SetTable.gaveWay; rw [T.mask]; rfl
  rw [if_neg (by rw [hgw]; exact Bool.false_ne_true), ho']
  have hfu : 10 * SetTable.turns t.mask = 220 := by rw [T.mask]; rfl
  unfold SetTable.probe
  rw [hfu]
  rcases go_meets T hN _ d m 220 e (by lia) with ⟨m', _, E1⟩ | ⟨m', i, a1, a2, a3, a4, E1⟩
  ·rw [E1]
   exact wpAny_pure (q2 _)
  ·rw [E1]
   dsimp only
   have hi : i < es.size := by rw [← T.pl]; exact (Array.getElem?_eq_some_iff.mp a4).1
   have hei : es[i]? = some es[i] := Array.getElem?_eq_getElem hi
   (refine x2_3 (hS.els es[i] (by simp)) ?_; intro b l' eb hb hl' ww)
   have hfil : ∀ v, v ∈ ((es.filter (·.1 == h)).toList.map (·.2)) → ∃ b l, v = .ref b ∧ LitAt prog w s.heap l b := fun v hv => by
    (refine x1_1 (List.mem_map.mp hv) ?_; intro e he z1; obtain rfl := z1)
    (refine x2_2 (hS.els e (by simp at he ⊢; exact he.1)) ?_; intro b l' eb hb ww)
    exact ⟨b, l', eb, hb⟩
   have rest : ∀ {B C : Sem SetFound}, wpAny (model prog w) A B Q E s → wpAny (model prog w) A (if (!t.led) = true then do
     if ← searchCouldBeSeen (.ref x) ((es.filter (·.1 == h)).toList.map (·.2)) then C else B
    else B) Q E s := fun {B C} hB => by
    split
    ·refine wpAny_bind (seen_tup hx ?_ _ hfil)
     rw [if_neg Bool.false_ne_true]
     exact hB
    ·exact hB
   refine rest ?_
   rw [hei]
   generalize es[i] = y0 at eb hei
   obtain ⟨h0, v0⟩ := y0
   dsimp only at eb
   subst eb
   dsimp only
   refine wpAny_bind (wpAny_holding (wpAny_eqBool_tuple hu hb hx ?_))
   refine wpAny_bind (state_tup ho T (by lia) ?_)
   dsimp only
   by_cases hl : lk3 l' = lk3 l
   ·rw [decide_eq_true hl, if_pos (by decide)]
    exact wpAny_pure (q1 (by rw [← lk3_inj hl]; exact hl'))
   ·rw [decide_eq_false hl, if_neg (by decide)]
    have hsm : t.sameMemory t.moves t.mask = some true := by unfold SetTable.sameMemory; rw [if_pos (by simp)]
    rw [hsm]
    dsimp only
    rw [if_pos rfl, a3]
    dsimp only
    rw [hei]
    dsimp only
    refine wpAny_bind (same_ref ?_)
    rw [if_pos rfl]
    refine wpAny_bind (wpAny_pure ?_)
    dsimp only
    rw [if_neg Bool.false_ne_true]
    exact ih (N - (m' + 1)) (by lia) (m' + 1) fuel _ (by lia) (by lia) rfl
theorem insertAt_mem {α : Type} {xs : Array α} {p : Nat} {x y : α} : y ∈ (SetTable.insertAt xs p x).toList ↔ y = x ∨ y ∈ xs.toList := by
 rw [(SetTable.insertAt_perm xs p x).mem_iff]
 simp [or_comm]
theorem insertAt_size {α : Type} {xs : Array α} {p : Nat} {x : α} : (SetTable.insertAt xs p x).size = xs.size + 1 := by
 have := (SetTable.insertAt_perm xs p x).length_eq
 simpa using this
theorem lit_keep {h h' : Heap} (hk : LitAt prog w h l a) (k : ∀ o, h.get? a = some o → h'.get? a = some o) : LitAt prog w h' l a :=
 x3_1 hk fun o items n ho r => ⟨o, items, n, k o ho, r⟩
theorem lit_ne {h : Heap} {ep : Nat} (hk : LitAt prog w h l a) (ho : h.get? D = some { cls := .type "set", data := .set es ep t }) : a ≠ D := fun e => by
 (refine x3_2 hk ?_; clear hk; intro o items n ho' hc ww)
 rw [e, ho] at ho'
 cases ho'
 simp at hc
theorem add_tup {Q : Bool → Shared → Prop} (hPx : Pv x) (hu : A.units < cLine) (hx : LitAt prog w s.heap l x) (hS : SetAt prog w Pv s.heap D es t ls) (hn : es.size ≤ 2)
  (q : ∀ c h' es' t' tk, es'.size ≤ es.size + 1 → SetAt prog w Pv h' D es' t' (l :: ls) → Heap.SameBut D s.heap h' → Q c { s with heap := h', toks := tk }) : wpAny (model prog w) A (setAdd D (.ref x)) Q E s := by
 unfold setAdd
 refine wpAny_holding (wpAny_bind (wpAny_pyHash_tuple hu hx ?_))
 unfold setAddHashed
 refine wpAny_holding ?_
 (refine x1_0 hS.ob ?_; intro ep ho)
 have T := hS.tab
 generalize tupleKeyHash (mixKind prog w) (lk3 l) = h
 generalize s.toks + ((lk3 l).length + 1) = tk
 show wpAny _ _ (setAddHashedIn D (.ref x) h (99999 + 1)) _ _ _
 unfold setAddHashedIn
 refine wpAny_bind (state_tup (s := { s with toks := tk }) ho T (by lia) ?_)
 dsimp only
 rw [if_neg (show ¬ (byScan (.ref x) es = true) from Bool.false_ne_true)]
 (refine x1_1 (pst_free (h := h) T hn) ?_; intro N hN15 hN)
 refine wpAny_bind ?_
 unfold setSearch
 refine search_tup (s := { s with toks := tk }) hu hx hS hn hN15 hN (fun hl => ?_) (fun j => ?_) N 0 100000 none (Nat.zero_add _) (by lia) rfl
 ·dsimp only
  exact wpAny_pure (q _ s.heap es t tk (Nat.le_succ _) ⟨hS.ob, hS.tab, hS.led, hS.pln, fun e he => x2_3 (hS.els e he) fun b l' h1 h2 h3 h4 => ⟨b, l', h1, h2, List.mem_cons_of_mem _ h3, h4⟩, fun l' hl' => by
   rcases List.mem_cons.mp hl' with rfl | hl'
   ·exact hS.all _ hl
   ·exact hS.all _ hl'⟩ ⟨rfl, fun ww ww => rfl⟩)
 ·dsimp only
  refine wpAny_bind (state_tup (s := { s with toks := tk }) ho T (by lia) ?_)
  dsimp only
  have hput : t.put j = ({ t with place := SetTable.insertAt t.place (SetTable.below t.place j) j }, SetTable.below t.place j) := by
   unfold SetTable.put
   dsimp only
   rw [if_neg (by rw [T.dm]; simp [SetTable.has])]
  rw [hput]
  dsimp only
  have fin : ∀ (t' : SetTable), t'.mask = t.mask → t'.dummies = t.dummies → t'.place.size = t.place.size + 1 → t'.led = t.led → t'.plain = false → wpAny (model prog w) A (do
    storeSet D (SetTable.insertAt es (SetTable.below t.place j) (h, Value.ref x)) t'
    if (!false && t'.tooFull) = true then do
     setRelay D (SetTable.grown (es.size + 1))
     pure true
    else pure true) Q E { s with toks := tk } := fun t' e1 e2 e3 e4 e5 => by
   have T' : Tab t' (SetTable.insertAt es (SetTable.below t.place j) (h, Value.ref x)).size := ⟨e1.trans T.mask, e2.trans T.dm, by rw [e3, T.pl, insertAt_size]⟩
   refine wpAny_bind (wpAny_storeSet_of (s := { s with toks := tk }) ho rfl ?_ (by rw [insertAt_size, sizeLine_eq]; lia))
   have hf : t'.tooFull = false := by
    unfold SetTable.tooFull SetTable.fill
    rw [T'.pl, T'.dm, T'.mask, insertAt_size]
    simp; lia
   rw [hf, if_neg (by decide)]
   have hg : (s.heap.update D (Obj.putSet (SetTable.insertAt es (SetTable.below t.place j) (h, Value.ref x)) t')).get? D = some { cls := .type "set", data := .set (SetTable.insertAt es (SetTable.below t.place j) (h, Value.ref x)) (ep + 1) t' } := Heap.get?_update_self _ ho rfl
   have sb := Heap.SameBut.update s.heap D (Obj.putSet (SetTable.insertAt es (SetTable.below t.place j) (h, Value.ref x)) t')
   have up : ∀ {b l}, LitAt prog w s.heap l b → LitAt prog w (s.heap.update D (Obj.putSet (SetTable.insertAt es (SetTable.below t.place j) (h, Value.ref x)) t')) l b := fun hk => lit_keep hk fun o e => sb.extBut _ _ (lit_ne hk ho) e
   refine wpAny_pure (q _ _ _ t' tk (Nat.le_of_eq insertAt_size) ⟨⟨_, hg⟩, T', fun z => e4.trans (hS.led z), .inr e5, fun e he => ?_, fun l' hl' => ?_⟩ sb)
   ·rcases insertAt_mem.mp he with rfl | he
    ·exact ⟨x, l, rfl, up hx, List.mem_cons_self .., hPx⟩
    ·(refine x2_3 (hS.els e he) ?_; intro b l' h1 h2 h3 h4)
     exact ⟨b, l', h1, up h2, List.mem_cons_of_mem _ h3, h4⟩
   ·rcases List.mem_cons.mp hl' with rfl | hl'
    ·exact ⟨_, insertAt_mem.mpr (.inl rfl), x, rfl, up hx⟩
    ·(refine x1_1 (hS.all l' hl') ?_; intro e he z2; refine x1_1 z2 ?_; clear z2; intro b h1 h2)
     exact ⟨e, insertAt_mem.mpr (.inr he), b, h1, up h2⟩
  by_cases hp : t.plain = true
  ·rw [if_pos hp]
   refine wpAny_bind (byValue_tup hx ?_)
   exact fin { t with place := SetTable.insertAt t.place (SetTable.below t.place j) j, plain := false } rfl rfl insertAt_size rfl rfl
  ·rw [if_neg hp]
   refine wpAny_bind (wpAny_pure ?_)
   exact fin _ rfl rfl insertAt_size rfl (by simpa using hp)
end
end
section
set_option tactic.hygienic false
section
variable {prog : Program} {w : World} {A : Around} {E : Value → Shared → Prop} {s : Shared} {Pv : Addr → Prop}
theorem SetAt.keep {h h' : Heap} {D : Addr} {es : Array (Int × Value)} {t : SetTable} {ls : List Lit} (hS : SetAt prog w Pv h D es t ls) (kD : ∀ o, h.get? D = some o → h'.get? D = some o) (kl : ∀ b l, LitAt prog w h l b → ∀ o, h.get? b = some o → h'.get? b = some o) : SetAt prog w Pv h' D es t ls :=
 ⟨x1_0 hS.ob fun ep ho => ⟨ep, kD _ ho⟩, hS.tab, hS.led, hS.pln, fun e he => x2_2 (hS.els e he) fun b l h1 h2 h3 => ⟨b, l, h1, lit_keep h2 (kl b l h2), h3⟩, fun l hl => let ⟨e, he, b, h1, h2⟩ := hS.all l hl; ⟨e, he, b, h1, lit_keep h2 (kl b l h2)⟩⟩
theorem lit_ne_it {h : Heap} {a I ax : Addr} {l : Lit} {k : Nat} (hk : LitAt prog w h l a) (hi : h.IsListIter I ax k) : a ≠ I := fun e => by
 (refine x3_2 hk ?_; clear hk; intro o items n ho' hc ww)
 (refine x1_2 hi ?_; clear hi; intro oi ho hci ww)
 rw [e, ho] at ho'
 cases ho'
 rw [hci] at hc
 exact absurd hc (by decide +kernel)
theorem loop_tup {I ax D : Addr} {vs : Array Value} {ws : List Lit} (hh : A.handled = none) (hu : A.in1.units < cLine) (hne : ax ≠ I) (DI : D ≠ I) (Dx : D ≠ ax) (hw : vs.toList.length = ws.length) (hl : ws.length ≤ 3) {R : Value → Shared → Prop} :
  ∀ (d k : Nat) (s : Shared) (es : Array (Int × Value)) (t : SetTable) (ls : List Lit), k + d = ws.length → s.heap.IsListIter I ax k → s.heap.IsList ax vs → es.size ≤ k → SetAt prog w Pv s.heap D es t ls → (∀ (j : Nat) (l : Lit), ws[j]? = some l → ∃ b, vs[j]? = some (.ref b) ∧ LitAt prog w s.heap l b ∧ Pv b) → (∀ l, l ∈ ls ↔ l ∈ ws.take k) →
   (∀ h' tk es' t' ls', es'.size ≤ ws.length → SetAt prog w Pv h' D es' t' ls' → (∀ l, l ∈ ls' ↔ l ∈ ws) → (∀ c o, c ≠ I → c ≠ D → s.heap.get? c = some o → h'.get? c = some o) → R .none { s with heap := h', toks := tk }) →
   codeAny (model prog w) A (.builtin "set.update.loop" ⟨[.ref D, .ref I], []⟩) (wants R E) s := by
 intro d
 induction d with
 | zero =>
  intro k s es t ls hk hit hls he hS hv hm hR
  refine codeAny_builtin PyProof.Rows.F.entry_set_update_loop ?_
  rw [Around.under_plainId PyProof.Rows.F.plain_set_update_loop _]
  show wpAny _ A.in1 (pyNext (.ref I) >>= _) _ _ s
  refine wpAny_bind ((Walks.list (prog := prog) (w := w) (A := A.in1) hh I ax hne vs).done s _ _ ?_ fun h' tk hk' => ?_)
  ·have : vs.size = k := by rw [← Array.length_toList, hw]; omega
   rw [this]; exact ⟨hit, hls⟩
  ·have kp : ∀ c o, c ≠ I → s.heap.get? c = some o → h'.get? c = some o := fun c o h1 e => hk' c o (by simpa using h1) e
   refine wpAny_pure (hR h' tk es t ls (by omega) (hS.keep (fun o => kp _ _ DI) fun b l hb o => kp _ _ (lit_ne_it hb hit)) (fun l => ?_) fun c o h1 ww e => kp c o h1 e)
   rw [hm l, List.take_of_length_le (by omega)]
 | succ d ih =>
  intro k s es t ls hk hit hls he hS hv hm hR
  have hkl : k < ws.length := by omega
  obtain ⟨b, hb, hlb, hPb⟩ := hv k ws[k] (List.getElem?_eq_getElem hkl)
  refine codeAny_builtin PyProof.Rows.F.entry_set_update_loop ?_
  rw [Around.under_plainId PyProof.Rows.F.plain_set_update_loop _]
  show wpAny _ A.in1 (pyNext (.ref I) >>= _) _ _ s
  refine wpAny_bind ((Walks.list (prog := prog) (w := w) (A := A.in1) hh I ax hne vs).item k s _ _ ?_ ⟨hit, hls⟩ fun v h' tk hv' st hk' => ?_)
  ·rw [← Array.length_toList, hw]; exact hkl
  have kp : ∀ c o, c ≠ I → s.heap.get? c = some o → h'.get? c = some o := fun c o h1 e => hk' c o (by simpa using h1) e
  rw [hb] at hv'
  cases hv'
  have kl : ∀ b l, LitAt prog w s.heap l b → ∀ o, s.heap.get? b = some o → h'.get? b = some o := fun b l hb o => kp _ _ (lit_ne_it hb hit)
  have hS1 := hS.keep (fun o => kp _ _ DI) kl
  dsimp only
  refine wpAny_bind (wpAny_holding (add_tup hPb hu (lit_keep hlb (kl _ _ hlb)) hS1 (by omega) fun c h2 es' t' tk2 hsz hS2 hs2 => ?_))
  (refine x1_0 hS1.ob ?_; intro ep1 ho1)
  have kl2 : ∀ b l, LitAt prog w s.heap l b → ∀ o, s.heap.get? b = some o → h2.get? b = some o := fun b l hb o e => hs2.extBut _ _ (lit_ne (lit_keep hb (kl _ _ hb)) ho1) (kl _ _ hb _ e)
  refine wpAny_pure ⟨plainId_quiet PyProof.Rows.F.plain_set_update_loop _, ih (k + 1) { s with heap := h2, toks := tk2 } es' t' (ws[k] :: ls) (by omega) (st.1.at fun o e => hs2.extBut _ _ DI.symm e) (st.2.at fun o e => hs2.extBut _ _ Dx.symm e) (by omega) hS2 (fun j l e => ?_) (fun l => ?_) fun h3 tk3 es3 t3 ls3 a1 a2 a3 a4 => hR h3 tk3 es3 t3 ls3 a1 a2 a3 fun c o h1 h2' e => a4 c o h1 h2' (hs2.extBut _ _ h2' (kp _ _ h1 e))⟩
  ·(refine x1_2 (hv j l e) ?_; intro b' e1 e2 e3)
   exact ⟨b', e1, lit_keep e2 (kl2 _ _ e2), e3⟩
  ·rw [List.mem_cons, hm l, List.take_add_one, List.getElem?_eq_getElem hkl, List.mem_append, Option.toList_some, List.mem_singleton, or_comm]
end
end
section
set_option tactic.hygienic false
section
variable {prog : Program} {w : World} {A : Around} {E : Value → Shared → Prop} {s : Shared}
theorem code_set_new1 (a : Value) {Q₁ : Value → Shared → Prop}
  (h : Q₁ (.ref s.heap.objs.size) { s with heap := s.heap.push { cls := .type "set", dict := none, data := .set #[] 0 (.fresh 0 0 (!w.params.followText "set-order")) } }) :
  codeAny (model prog w) A (.call (.builtin "set.__new__") ⟨[.type "set", a], []⟩) (wants Q₁ E) s := by
 refine codeAny_call_builtin F.plain_set_new F.entry_set_new (wpAny_of_eq (F.newCall_set_1 a) ?_)
 unfold Builtin.«set.__new__» Builtin.Frozenset.newClass
 have hsub := sub_set_self
 obtain ⟨hp, g, d, tk, os⟩ := s
 dsimp only
 wp_walk
 refine wpAny_askSetting (wpAny_pure ?_)
 dsimp only
 simp only [newObj]
 refine wpAny_bind (wpAny_alloc (wpAny_pure ?_))
 exact wpAny_pure h
theorem call_set_one {ax : Addr} {Q : Value → Shared → Prop}
  (h : ∀ led : Bool, led = !w.params.followText "set-order" → wpAny (model prog w) A.in1.in1 (Builtin.«set.__init__» ⟨[.ref s.heap.objs.size, .ref ax], []⟩) (fun fin s' => match fin with
   | .done f => wants (fun r s₂ => r = .none ∧ Q (.ref s.heap.objs.size) s₂) E (.ok f) s'
   | .again c' => c'.quiet = true ∧ codeAny (model prog w) A.in1 c' (wants (fun r s₂ => r = .none ∧ Q (.ref s.heap.objs.size) s₂) E) s')
   (fun e s' => wants (fun r s₂ => r = .none ∧ Q (.ref s.heap.objs.size) s₂) E (.error e) s') { s with heap := s.heap.push { cls := .type "set", dict := none, data := .set #[] 0 (.fresh 0 0 led) } }) :
  wpAny (model prog w) A (call (.type "set") [.ref ax]) Q E s := by
 (refine x2_0 F.called_set.mro ?_; intro c tl hmro)
 have hmade := F.called_set.made
 have hsub := F.called_set.sub
 refine wpAny_call (codeAny_of_tree ?_)
 show wpAny _ _ (callAny (.type "set") _) _ _ _
 refine wpAny_pure ⟨Code.quiet_builtin _ (by decide +kernel), codeAny_builtin F.entry_type_call ?_⟩
 rw [Around.under_plain (weight_type_call_type "set" [.ref ax] []) rfl]
 have h1 := F.called_set.notType
 have h2 := F.called_set.canCreate
 have hct := F.typeCall_set_1 (.ref ax)
 repeat (any_goals (first | assumption | wp_step))
 refine codeAny_mono (code_set_new1 (.ref ax) (E := E) (Q₁ := fun obj s₁ => ∃ led : Bool, led = (!w.params.followText "set-order") ∧ obj = .ref s.heap.objs.size ∧ s₁ = { s with heap := s.heap.push { cls := .type "set", dict := none, data := .set #[] 0 (.fresh 0 0 led) } }) ⟨_, rfl, rfl, rfl⟩) fun r s₁ hr => ?_
 cases r with
 | error e => exact hr
 | ok fl =>
  cases fl with
  | ret obj =>
   (refine x1_2 hr ?_; clear hr; intro led hled z1 z2; obtain rfl := z1; obtain rfl := z2)
   have hS : (s.heap.push { cls := .type "set", dict := none, data := .set #[] 0 (.fresh 0 0 led) }).get? s.heap.objs.size = some { cls := .type "set", dict := none, data := .set #[] 0 (.fresh 0 0 led) } := Heap.get?_push_size _ rfl
   have hT : Shared.TypeIs { s with heap := s.heap.push { cls := .type "set", dict := none, data := .set #[] 0 (.fresh 0 0 led) } } (.ref s.heap.objs.size) "set" := ⟨_, hS, rfl⟩
   have hli := F.called_set.init.lookup
   have hbi := F.called_set.init.bind (.ref s.heap.objs.size)
   repeat (any_goals (first | assumption | wp_step))
   refine codeAny_mono (codeAny_call_builtin (R := wants (fun r s₂ => r = .none ∧ Q (.ref s.heap.objs.size) s₂) E) F.called_set.init.plain F.entry_set_init (check_set_init_1 hT ?_)) fun r₂ s₂ hr₂ => ?_
   ·exact h led hled
   ·cases r₂ with
    | error e => exact hr₂
    | ok fl₂ =>
     cases fl₂ with
     | ret r =>
      (refine x0_1 hr₂ ?_; clear hr₂; intro z3 hq; obtain rfl := z3)
      repeat (any_goals (first | assumption | wp_step))
     | _ => exact hr₂.elim
  | _ => exact hr.elim
end
end
section
set_option tactic.hygienic false
section
variable {prog : Program} {w : World} {A : Around} {E : Value → Shared → Prop} {s : Shared} {Pv : Addr → Prop}
theorem call_set_lits {ax : Addr} {vs : Array Value} {ws : List Lit} {Q : Value → Shared → Prop} (hh : A.handled = none) (hu : A.units + 10 < cLine) (hls : s.heap.IsList ax vs) (hw : vs.toList.length = ws.length) (hl : ws.length ≤ 3) (hv : ∀ (j : Nat) (l : Lit), ws[j]? = some l → ∃ b, vs[j]? = some (.ref b) ∧ LitAt prog w s.heap l b ∧ Pv b)
  (h : ∀ h' tk es t ls, es.size ≤ ws.length → SetAt prog w Pv h' s.heap.objs.size es t ls → (∀ l, l ∈ ls ↔ l ∈ ws) → (∀ c o, s.heap.get? c = some o → h'.get? c = some o) → Q (.ref s.heap.objs.size) { s with heap := h', toks := tk }) :
  wpAny (model prog w) A (call (.type "set") [.ref ax]) Q E s := by
 refine call_set_one fun led hled => ?_
 have hS : (s.heap.push { cls := .type "set", dict := none, data := .set #[] 0 (.fresh 0 0 led) }).get? s.heap.objs.size = some { cls := .type "set", dict := none, data := .set #[] 0 (.fresh 0 0 led) } := Heap.get?_push_size _ rfl
 have hT : Shared.TypeIs { s with heap := s.heap.push { cls := .type "set", dict := none, data := .set #[] 0 (.fresh 0 0 led) } } (.ref s.heap.objs.size) "set" := ⟨_, hS, rfl⟩
 have pu : ∀ c o, s.heap.get? c = some o → (s.heap.push { cls := .type "set", dict := none, data := .set #[] 0 (.fresh 0 0 led) }).get? c = some o := fun c o e => Heap.get?_push_of_some _ e
 (refine x1_2 hls ?_; clear hls; intro ol hol hcl z1; refine x1_0 z1 ?_; clear z1; intro nl hdl)
 obtain ⟨ocls, odict, odata, oslots⟩ := ol
 simp only at hcl hdl
 subst hcl; subst hdl
 have hol' := pu _ _ hol
 have hsls := F.sub_list_set
 have hslf := F.sub_list_frozenset
 have hne : (Value.type "list" == Value.type "dict") = false := by decide
 have hl1 : (s.heap.push { cls := .type "set", dict := none, data := .set #[] 0 (.fresh 0 0 led) }).IsList ax vs := ⟨_, hol', rfl, nl, rfl⟩
 unfold Builtin.«set.__init__» noKeywords Builtin.Frozenset.updateFrom
 generalize hPI : pyIter = PI
 wp_walk
 subst hPI
 refine wpAny_pyIter_list hl1 ?_
 refine wpAny_bind (wpAny_runValue ?_)
 have hlS : ax < s.heap.objs.size := Heap.lt_size hol
 have hneI : ax ≠ (s.heap.push { cls := .type "set", dict := none, data := .set #[] 0 (.fresh 0 0 led) }).objs.size := by
  rw [Heap.size_push]; exact Nat.ne_of_lt (Nat.lt_succ_of_lt hlS)
 have hDI : s.heap.objs.size ≠ (s.heap.push { cls := .type "set", dict := none, data := .set #[] 0 (.fresh 0 0 led) }).objs.size := by
  rw [Heap.size_push]; exact Nat.ne_of_lt (Nat.lt_succ_self _)
 refine codeAny_mono (loop_tup (A := A.in1.in1) (I := (s.heap.push { cls := .type "set", dict := none, data := .set #[] 0 (.fresh 0 0 led) }).objs.size) (R := fun r s₂ => r = .none ∧ Q (.ref s.heap.objs.size) s₂) (E := fun ww ww => False) (by simp [hh]) ?_ hneI hDI (Nat.ne_of_gt hlS) hw hl ws.length 0 { s with heap := (s.heap.push { cls := .type "set", dict := none, data := .set #[] 0 (.fresh 0 0 led) }).push { cls := .type "list_iterator", data := .fields #[.ref ax, .int 0 0] } } #[] (.fresh 0 0 led) [] (Nat.zero_add _) ⟨_, Heap.get?_push_size _ rfl, rfl, rfl⟩ (hl1.push _) (Nat.le_refl _) ⟨⟨_, Heap.get?_push_of_some _ hS⟩, ⟨rfl, rfl, rfl⟩, fun z => by rw [show (SetTable.fresh 0 0 led).led = led from rfl, hled, z]; rfl, .inl rfl, fun e he => by simp at he, fun l hl => by cases hl⟩ (fun j l e => ?_) (fun l => by simp) fun h' tk es' t' ls' a1 a2 a3 a4 => ⟨rfl, h h' tk es' t' ls' a1 a2 a3 fun c o e => a4 c o ?_ ?_ (Heap.get?_push_of_some _ (pu _ _ e))⟩) fun r s' hr => ?_
 ·show A.units + 1 + 1 + 1 < cLine
  lia
 ·(refine x1_2 (hv j l e) ?_; intro b e1 e2 e3)
  exact ⟨b, e1, lit_keep e2 (fun o e => Heap.get?_push_of_some _ (pu _ _ e)), e3⟩
 ·have := Heap.lt_size e
  rw [Heap.size_push]; exact Nat.ne_of_lt (Nat.lt_succ_of_lt this)
 ·exact Nat.ne_of_lt (Heap.lt_size e)
 ·cases r with
  | error e => exact hr.elim
  | ok fl =>
   cases fl with
   | ret v => exact wpAny_pure (wpAny_pure ⟨rfl, hr.2⟩)
   | _ => exact hr.elim
end
end
section
set_option tactic.hygienic false
theorem si_slot_next : Slot "set_iterator" "__next__" "set_iterator.__next__" :=
 .of (owner := "set_iterator") (n := "__next__") (by rw [typeLookup_type, builtinLookup_eq_fast]; kernel_rfl) (by decide +kernel) (by decide +kernel) (by decide +kernel)
  (by first | exact .inl (by decide +kernel) | exact .inr (by decide +kernel)) (by rw [isSubtype_type]; kernel_rfl)
theorem si_entry_next : entryFor table "set_iterator.__next__" = some Builtin.«set_iterator.__next__» := entryFor_of_tree (by kernel_rfl)
theorem si_owner : Manifest.owners.lookup (String.ofList ['r', 'o', 't', 'a', 'r', 'e', 't', 'i', '_', 't', 'e', 's'].reverse) = some Manifest.sig_set_iterator := by kernel_rfl
theorem si_args_next (a : Value) : argsOk "set_iterator.__next__" ⟨[a], []⟩ := by
 unfold argsOk; rw [signature?_of (id := "set_iterator.__next__") (n := ['_', '_', 't', 'x', 'e', 'n', '_', '_']) (o := ['r', 'o', 't', 'a', 'r', 'e', 't', 'i', '_', 't', 'e', 's']) (by kernel_rfl) si_owner]; kernel_rfl
theorem set_entry_iter : entryFor table "set.__iter__" = some Builtin.«frozenset.__iter__» :=
 entryFor_alias (id' := "frozenset.__iter__") (by kernel_rfl) (by first | rfl | decide +kernel) (by decide +kernel) (by kernel_rfl)
theorem eraseIdx_perm {α : Type} : ∀ {l : List α} {i : Nat} (h : i < l.length), (l[i] :: l.eraseIdx i).Perm l
 | [], _, h => absurd h (Nat.not_lt_zero _)
 | a :: l, 0, _ => .refl _
 | a :: l, i + 1, h => (List.Perm.swap _ _ _).trans (List.Perm.cons a (eraseIdx_perm (l := l) (Nat.lt_of_succ_lt_succ h)))
section
variable {prog : Program} {w : World} {A : Around} {E : Value → Shared → Prop} {s : Shared}
theorem wpAny_choose {src : Source} {n : Nat} {Q : Nat → Shared → Prop} (hn : n ≠ 0) (h : ∀ i dr, i < n → Q i { s with drawn := dr }) : wpAny (model prog w) A (choose src n) Q E s := fun Γ p hp => by
 show Sem.wp _ _ (.choose src n .pure) _ _ _ _
 rw [Sem.wp_choose]
 exact ⟨hn, h _ _ (Nat.mod_lt _ (Nat.pos_of_ne_zero hn))⟩
theorem wpAny_drawOrder {α : Type} : ∀ (n : Nat) (xs : List α) (s : Shared) (Q : List α → Shared → Prop), xs.length = n → (∀ ys dr, ys.Perm xs → Q ys { s with drawn := dr }) → wpAny (model prog w) A (drawOrder n xs) Q E s
 | 0, xs, s, Q, hn, h => by
  unfold drawOrder
  exact wpAny_pure (h [] s.drawn (by rw [List.eq_nil_of_length_eq_zero hn]))
 | n + 1, [], s, Q, hn, h => by simp at hn
 | n + 1, x :: r, s, Q, hn, h => by
  unfold drawOrder
  refine wpAny_bind (wpAny_choose (by simp) fun i dr hi => ?_)
  rw [List.getElem?_eq_getElem hi]
  refine wpAny_bind (wpAny_drawOrder n ((x :: r).eraseIdx i) _ _ (by rw [List.length_eraseIdx_of_lt hi, hn]; rfl) fun ys dr' hp => wpAny_pure ?_)
  exact h _ dr' ((List.Perm.cons _ hp).trans (eraseIdx_perm hi))
end
theorem pick_go {α : Type} (next : Nat → Nat) : ∀ (f k : Nat) (l : List α) (out : Array α), l.length = f → (pickOrder.go next f k l out).toList.Perm (out.toList ++ l)
 | 0, k, l, out, h => by
  unfold pickOrder.go
  rw [List.eq_nil_of_length_eq_zero h, List.append_nil]
 | f + 1, k, l, out, h => by
  have hi : next k % l.length < l.length := Nat.mod_lt _ (by lia)
  unfold pickOrder.go
  rw [List.getElem?_eq_getElem hi]
  refine (pick_go next f (k + 1) _ _ (by rw [List.length_eraseIdx_of_lt hi, h]; rfl)).trans ?_
  rw [Array.toList_push, List.append_assoc]
  exact (eraseIdx_perm hi).append_left _
theorem pick_perm {α : Type} (next : Nat → Nat) (xs : Array α) : (pickOrder next xs).toList.Perm xs.toList := by
 have := pick_go next xs.size 0 xs.toList #[] (by simp)
 simpa [pickOrder] using this
end
section
set_option tactic.hygienic false
noncomputable abbrev siO (first : Value) (i : Nat) (D : Addr) (n ep : Nat) : Obj := { cls := .type "set_iterator", data := .fields #[first, rawInt i, .ref D, rawInt n, rawInt ep] }
noncomputable abbrev setO (es : Array (Int × Value)) (ep : Nat) (t : SetTable) : Obj := { cls := .type "set", dict := none, data := .set es ep t }
section
variable {prog : Program} {w : World} {A : Around} {E : Value → Shared → Prop} {s : Shared} {I D : Addr} {es : Array (Int × Value)} {t : SetTable} {ep : Nat}
theorem siNext_item {slot slot' i : Nat} {x : Value} {Q : Option Value → Shared → Prop} (hI : s.heap.get? I = some (siO (rawInt slot) i D es.size ep)) (hD : s.heap.get? D = some (setO es ep t)) (T : Tab t es.size) (hn : es.size ≤ 7)
  (hnx : ∀ (A : Around) (E : Value → Shared → Prop) (Q : Option (Value × Nat) → Shared → Prop), Q (some (x, slot')) s → wpAny (model prog w) A (setNext D slot i ep) Q E s)
  (hQ : ∀ h', h'.get? I = some (siO (rawInt slot') (i + 1) D es.size ep) → Heap.SameBut I s.heap h' → Q (some x) { s with heap := h' }) : wpAny (model prog w) A (pyNext (.ref I)) Q E s := by
 have hT : s.TypeIs (.ref I) "set_iterator" := ⟨_, hI, rfl⟩
 unfold pyNext
 refine wpAny_bind (wpAny_attempt (wpAny_callSpecial?_slot (name := Str.ofString "__next__") hT si_slot_next (wpAny_call_entry si_slot_next hT si_entry_next ?_ (si_args_next _))))
 show wpAny _ _ (fieldsOf (.ref I) >>= _) _ _ _
 refine wpAny_bind (wpAny_fieldsOf hI rfl ?_)
 show wpAny _ _ (setEntries D >>= _) _ _ _
 refine wpAny_bind ?_
 unfold setEntries
 refine wpAny_bind (state_tup hD T hn (wpAny_pure ?_))
 dsimp only
 rw [if_neg (by simp)]
 show wpAny _ _ (setNext D (Int.toNat (slot : Int)) (Int.toNat (i : Int)) (Int.toNat (ep : Int)) >>= _) _ _ _
 simp only [Int.toNat_natCast]
 refine wpAny_bind (hnx _ _ _ ?_)
 refine wpAny_bind (wpAny_setField_rec hI (by simp) fun h1 e1 s1 => ?_)
 replace e1 : h1.get? I = some (siO (rawInt slot') i D es.size ep) := e1
 refine wpAny_bind (wpAny_setField_rec e1 (by simp) fun h2 e2 s2 => ?_)
 replace e2 : h2.get? I = some (siO (rawInt slot') (i + 1) D es.size ep) := e2
 exact wpAny_pure ⟨x, rfl, wpAny_pure (hQ h2 e2 (s1.trans s2))⟩
theorem siNext_end {slot i : Nat} {Q : Option Value → Shared → Prop} (hh : A.handled = none) (hI : s.heap.get? I = some (siO (rawInt slot) i D es.size ep)) (hD : s.heap.get? D = some (setO es ep t)) (T : Tab t es.size) (hn : es.size ≤ 7)
  (hnx : ∀ (A : Around) (E : Value → Shared → Prop) (Q : Option (Value × Nat) → Shared → Prop), Q none s → wpAny (model prog w) A (setNext D slot i ep) Q E s)
  (hQ : ∀ h', Heap.ExtBut I s.heap h' → Q none { s with heap := h' }) : wpAny (model prog w) A (pyNext (.ref I)) Q E s := by
 have hT : s.TypeIs (.ref I) "set_iterator" := ⟨_, hI, rfl⟩
 unfold pyNext
 refine wpAny_bind (wpAny_attempt (wpAny_callSpecial?_slot (name := Str.ofString "__next__") hT si_slot_next (wpAny_call_entry si_slot_next hT si_entry_next ?_ (si_args_next _))))
 show wpAny _ _ (fieldsOf (.ref I) >>= _) _ _ _
 refine wpAny_bind (wpAny_fieldsOf hI rfl ?_)
 show wpAny _ _ (setEntries D >>= _) _ _ _
 refine wpAny_bind ?_
 unfold setEntries
 refine wpAny_bind (state_tup hD T hn (wpAny_pure ?_))
 dsimp only
 rw [if_neg (by simp)]
 show wpAny _ _ (setNext D (Int.toNat (slot : Int)) (Int.toNat (i : Int)) (Int.toNat (ep : Int)) >>= _) _ _ _
 simp only [Int.toNat_natCast]
 refine wpAny_bind (hnx _ _ _ ?_)
 refine wpAny_bind (wpAny_setField_rec hI (by simp) fun h1 e1 s1 => ?_)
 show wpAny _ _ (newExc (.type "StopIteration") [] >>= _) _ _ _
 refine wpAny_bind ?_
 simp only [newExc, newTuple]
 refine wpAny_bind (wpAny_newObj_type ?_ (by size_fits))
 refine wpAny_bind (m := firstArgMember _ _) (wpAny_of_eq (a := Value.none) (by first | rfl | (simp only [firstArgMember]; rfl)) ?_)
 refine wpAny_newObj_type ?_ (by size_fits)
 simp only [raiseNew]
 refine wpAny_bind (wpAny_handled ?_)
 rw [show A.in1.handled = none from hh]
 refine wpAny_bind (wpAny_pure (wpAny_throw ?_))
 refine wpAny_bind (wpAny_isInstance (T := "StopIteration") (b := true) ⟨_, Heap.get?_push_size _ rfl, rfl⟩ isSubtype_stop ?_)
 exact wpAny_pure (hQ _ ((s1.extBut.push _).push _))
noncomputable abbrev PlAt (h : Heap) (P : Addr) (ps : List Nat) : Prop := h.get? P = some { cls := .type "tuple", data := .seq (ps.map fun i : Nat => rawInt i).toArray }
theorem sdNext_item {P : Addr} {ps : List Nat} {i p : Nat} {x : Value} {h0 : Int} {Q : Option Value → Shared → Prop} (hI : s.heap.get? I = some (siO (.ref P) i D es.size ep)) (hD : s.heap.get? D = some (setO es ep t)) (hP : PlAt s.heap P ps) (T : Tab t es.size) (hn : es.size ≤ 7) (hp : ps[i]? = some p) (hx : es[p]? = some (h0, x))
  (hQ : ∀ h', h'.get? I = some (siO (.ref P) (i + 1) D es.size ep) → Heap.SameBut I s.heap h' → Q (some x) { s with heap := h' }) : wpAny (model prog w) A (pyNext (.ref I)) Q E s := by
 have hT : s.TypeIs (.ref I) "set_iterator" := ⟨_, hI, rfl⟩
 unfold pyNext
 refine wpAny_bind (wpAny_attempt (wpAny_callSpecial?_slot (name := Str.ofString "__next__") hT si_slot_next (wpAny_call_entry si_slot_next hT si_entry_next ?_ (si_args_next _))))
 show wpAny _ _ (fieldsOf (.ref I) >>= _) _ _ _
 refine wpAny_bind (wpAny_fieldsOf hI rfl ?_)
 show wpAny _ _ (setEntries D >>= _) _ _ _
 refine wpAny_bind ?_
 unfold setEntries
 refine wpAny_bind (state_tup hD T hn (wpAny_pure ?_))
 dsimp only
 rw [if_neg (by simp)]
 show wpAny _ _ (seqItems? (.ref P) >>= _) _ _ _
 refine wpAny_bind (wpAny_seqItems hP rfl ?_)
 have hpl : (ps.map fun i : Nat => rawInt i).toArray[(i : Int).toNat]? = some (rawInt p) := by
  rw [Int.toNat_natCast, List.getElem?_toArray, List.getElem?_map, hp]; rfl
 dsimp only
 rw [hpl]
 show wpAny _ _ (setNextDrawn D (Int.toNat (p : Int)) (Int.toNat (ep : Int)) >>= _) _ _ _
 refine wpAny_bind ?_
 unfold setNextDrawn
 refine wpAny_bind (state_tup hD T hn ?_)
 simp only [Int.toNat_natCast]
 rw [if_neg (by simp), hx]
 refine wpAny_pure ?_
 refine wpAny_bind (wpAny_setField_rec hI (by simp) fun h1 e1 s1 => ?_)
 replace e1 : h1.get? I = some (siO (.ref P) (i + 1) D es.size ep) := e1
 exact wpAny_pure ⟨x, rfl, wpAny_pure (hQ h1 e1 s1)⟩
theorem sdNext_end {P : Addr} {ps : List Nat} {i : Nat} {Q : Option Value → Shared → Prop} (hh : A.handled = none) (hI : s.heap.get? I = some (siO (.ref P) i D es.size ep)) (hD : s.heap.get? D = some (setO es ep t)) (hP : PlAt s.heap P ps) (T : Tab t es.size) (hn : es.size ≤ 7) (hp : ps[i]? = none)
  (hQ : ∀ h', Heap.ExtBut I s.heap h' → Q none { s with heap := h' }) : wpAny (model prog w) A (pyNext (.ref I)) Q E s := by
 have hT : s.TypeIs (.ref I) "set_iterator" := ⟨_, hI, rfl⟩
 unfold pyNext
 refine wpAny_bind (wpAny_attempt (wpAny_callSpecial?_slot (name := Str.ofString "__next__") hT si_slot_next (wpAny_call_entry si_slot_next hT si_entry_next ?_ (si_args_next _))))
 show wpAny _ _ (fieldsOf (.ref I) >>= _) _ _ _
 refine wpAny_bind (wpAny_fieldsOf hI rfl ?_)
 show wpAny _ _ (setEntries D >>= _) _ _ _
 refine wpAny_bind ?_
 unfold setEntries
 refine wpAny_bind (state_tup hD T hn (wpAny_pure ?_))
 dsimp only
 rw [if_neg (by simp)]
 show wpAny _ _ (seqItems? (.ref P) >>= _) _ _ _
 refine wpAny_bind (wpAny_seqItems hP rfl ?_)
 have hpl : (ps.map fun i : Nat => rawInt i).toArray[(i : Int).toNat]? = none := by
  rw [Int.toNat_natCast, List.getElem?_toArray, List.getElem?_map, hp]; rfl
 dsimp only
 rw [hpl]
 refine wpAny_bind (wpAny_setField_rec hI (by simp) fun h1 e1 s1 => ?_)
 replace e1 : h1.get? I = some (siO (rawInt 0) i D es.size ep) := e1
 refine wpAny_bind (wpAny_setField_rec e1 (by simp) fun h2 e2 s2 => ?_)
 show wpAny _ _ (newExc (.type "StopIteration") [] >>= _) _ _ _
 refine wpAny_bind ?_
 simp only [newExc, newTuple]
 refine wpAny_bind (wpAny_newObj_type ?_ (by size_fits))
 refine wpAny_bind (m := firstArgMember _ _) (wpAny_of_eq (a := Value.none) (by first | rfl | (simp only [firstArgMember]; rfl)) ?_)
 refine wpAny_newObj_type ?_ (by size_fits)
 simp only [raiseNew]
 refine wpAny_bind (wpAny_handled ?_)
 rw [show A.in1.handled = none from hh]
 refine wpAny_bind (wpAny_pure (wpAny_throw ?_))
 refine wpAny_bind (wpAny_isInstance (T := "StopIteration") (b := true) ⟨_, Heap.get?_push_size _ rfl, rfl⟩ isSubtype_stop ?_)
 exact wpAny_pure (hQ _ (((s1.trans s2).extBut.push _).push _))
end
end
section
set_option tactic.hygienic false
theorem si_slot_iter : Slot "set_iterator" "__iter__" "set_iterator.__iter__" :=
 .of (owner := "set_iterator") (n := "__iter__") (by rw [typeLookup_type, builtinLookup_eq_fast]; kernel_rfl) (by decide +kernel) (by decide +kernel) (by decide +kernel)
  (by first | exact .inl (by decide +kernel) | exact .inr (by decide +kernel)) (by rw [isSubtype_type]; kernel_rfl)
theorem si_entry_iter : entryFor table "set_iterator.__iter__" = some Builtin.«dict_keyiterator.__iter__» := entryFor_alias (id' := "dict_keyiterator.__iter__") (by kernel_rfl) (by first | rfl | decide +kernel) (by decide +kernel) (by kernel_rfl)
theorem si_args_iter (a : Value) : argsOk "set_iterator.__iter__" ⟨[a], []⟩ := by
 unfold argsOk; rw [signature?_of (id := "set_iterator.__iter__") (n := ['_', '_', 'r', 'e', 't', 'i', '_', '_']) (o := ['r', 'o', 't', 'a', 'r', 'e', 't', 'i', '_', 't', 'e', 's']) (by kernel_rfl) si_owner]; kernel_rfl
section
variable {prog : Program} {w : World} {A : Around} {E : Value → Shared → Prop} {s : Shared} {I D P : Addr} {es : Array (Int × Value)} {t : SetTable} {ep : Nat}
theorem si_self {first : Value} {i n : Nat} {Q : Value → Shared → Prop} (hI : s.heap.get? I = some (siO first i D n ep)) (h : Q (.ref I) s) : wpAny (model prog w) A (pyIter (.ref I)) Q E s := by
 have hT : s.TypeIs (.ref I) "set_iterator" := ⟨_, hI, rfl⟩
 refine wpAny_pyIter_slot hT si_slot_iter (wpAny_call_entry si_slot_iter hT si_entry_iter ?_ (si_args_iter _))
 show wpAny _ _ (ret (.ref I)) _ _ s
 exact wpAny_pure ⟨_, rfl, "set_iterator", _, hT, si_slot_next.lookup, h⟩
theorem byText_eq {Q : Bool → Shared → Prop} (h : Q (w.params.followText "set-order") s) : wpAny (model prog w) A setsByText Q E s := by
 unfold setsByText
 exact wpAny_bind (wpAny_askSetting (wpAny_pure h))
theorem next_text {slot i : Nat} {Q : Option (Value × Nat) → Shared → Prop} (hb : w.params.followText "set-order" = true) (hD : s.heap.get? D = some (setO es ep t)) (T : Tab t es.size) (hn : es.size ≤ 7)
  (h : Q (((pickOrder (w.params.setOrder D ep) es)[i]?).map fun e => (e.2, slot)) s) : wpAny (model prog w) A (setNext D slot i ep) Q E s := by
 unfold setNext
 refine wpAny_bind (state_tup hD T hn ?_)
 dsimp only
 refine wpAny_bind (byText_eq ?_)
 rw [if_pos hb, if_neg (by simp)]
 refine wpAny_bind ?_
 unfold setWalk
 refine wpAny_bind (state_tup hD T hn ?_)
 dsimp only
 refine wpAny_bind (byText_eq ?_)
 rw [if_pos hb]
 exact wpAny_bind (wpAny_askSetting (wpAny_pure (wpAny_pure h)))
theorem below_one {k j : Nat} : SetTable.below #[k] j = if k < j then 1 else 0 := by
 unfold SetTable.below
 show SetTable.below.go #[k] j 1 0 1 = _
 unfold SetTable.below.go
 simp only [Nat.zero_add, Nat.zero_lt_one, if_true]
 show (if k < j then SetTable.below.go #[k] j 0 1 1 else SetTable.below.go #[k] j 0 0 0) = _
 rfl
theorem next_led {slot i : Nat} {Q : Option (Value × Nat) → Shared → Prop} (hb : w.params.followText "set-order" = false) (hD : s.heap.get? D = some (setO es ep t)) (T : Tab t es.size) (hn : es.size ≤ 1) (hl : t.led = true)
  (h : Q (match es[SetTable.below t.place slot]?, t.place[SetTable.below t.place slot]? with | some (_, x), some j => some (x, j + 1) | _, _ => none) s) : wpAny (model prog w) A (setNext D slot i ep) Q E s := by
 unfold setNext
 refine wpAny_bind (state_tup hD T (by omega) ?_)
 dsimp only
 refine wpAny_bind (byText_eq ?_)
 rw [hb, if_neg Bool.false_ne_true]
 show wpAny _ _ (if (!t.plain && decide (es.size > 1)) = true then _ else (if (!t.led && !es.isEmpty) = true then _ else pure ()) >>= _) _ _ _
 rw [if_neg (by rw [decide_eq_false (by omega), Bool.and_false]; exact Bool.false_ne_true), if_neg (by rw [hl]; exact Bool.false_ne_true)]
 exact wpAny_bind (wpAny_pure (wpAny_pure h))
theorem walks_text (hh : A.handled = none) (hID : I ≠ D) (hb : w.params.followText "set-order" = true) (T : Tab t es.size) (hn : es.size ≤ 7) :
  Walks prog w A I [I, D] [I] ((pickOrder (w.params.setOrder D ep) es).toList.map (·.2)).length (fun i v => ((pickOrder (w.params.setOrder D ep) es).toList.map (·.2))[i]? = some v) (fun i h => h.get? I = some (siO (rawInt (0 : Nat)) i D es.size ep) ∧ h.get? D = some (setO es ep t)) where
 sub := fun b hb => by simp at hb; simp [hb]
 frame := fun ww ww ww st hk => ⟨hk I (by simp) _ st.1, hk D (by simp) _ st.2⟩
 item := fun i s Q E hi st hQ => by
  have hi' : i < (pickOrder (w.params.setOrder D ep) es).size := by simpa using hi
  have hx := Array.getElem?_eq_getElem hi'
  refine siNext_item (slot := 0) (slot' := 0) (x := (pickOrder (w.params.setOrder D ep) es)[i].2) st.1 st.2 T hn (fun A E Q q => next_text hb st.2 T hn (by rw [hx]; exact q)) fun h' e' hs' => ?_
  refine hQ _ h' s.toks (by rw [List.getElem?_map, Array.getElem?_toList, hx]; rfl) ⟨e', hs'.extBut _ _ hID.symm st.2⟩ fun b o hb e => hs'.extBut b o (fun h => hb (by simp [h])) e
 done := fun s Q E st hQ => by
  refine siNext_end (slot := 0) hh st.1 st.2 T hn (fun A E Q q => next_text hb st.2 T hn (by rw [Array.getElem?_eq_none (by simp)]; exact q)) fun h' he' => hQ h' s.toks fun b o hb e => he' b o (fun h => hb (by simp [h])) e
 self := fun ww ww ww ww st hQ => si_self st.1 hQ
theorem walks_drawn {ps : List Nat} (hh : A.handled = none) (hID : I ≠ D) (hIP : I ≠ P) (hps : ∀ p, p ∈ ps → p < es.size) (T : Tab t es.size) (hn : es.size ≤ 7) :
  Walks prog w A I [I, D, P] [I] (ps.map fun p => (es.getD p (0, Value.none)).2).length (fun i v => (ps.map fun p => (es.getD p (0, Value.none)).2)[i]? = some v) (fun i h => h.get? I = some (siO (.ref P) i D es.size ep) ∧ h.get? D = some (setO es ep t) ∧ PlAt h P ps) where
 sub := fun b hb => by simp at hb; simp [hb]
 frame := fun ww ww ww st hk => ⟨hk I (by simp) _ st.1, hk D (by simp) _ st.2.1, hk P (by simp) _ st.2.2⟩
 item := fun i s Q E hi st hQ => by
  have hi' : i < ps.length := by simpa using hi
  have hp := List.getElem?_eq_getElem hi'
  have hl := hps _ (List.getElem_mem hi')
  have hx : es[ps[i]]? = some ((es.getD ps[i] (0, Value.none)).1, (es.getD ps[i] (0, Value.none)).2) := by
   rw [Array.getElem?_eq_getElem hl]
   simp [Array.getD, hl]
  refine sdNext_item st.1 st.2.1 st.2.2 T hn hp hx fun h' e' hs' => ?_
  refine hQ _ h' s.toks (by rw [List.getElem?_map, hp]; rfl) ⟨e', hs'.extBut _ _ hID.symm st.2.1, hs'.extBut _ _ hIP.symm st.2.2⟩ fun b o hb e => hs'.extBut b o (fun h => hb (by simp [h])) e
 done := fun s Q E st hQ => by
  refine sdNext_end hh st.1 st.2.1 st.2.2 T hn (by rw [List.getElem?_eq_none (by simp)]) fun h' he' => hQ h' s.toks fun b o hb e => he' b o (fun h => hb (by simp [h])) e
 self := fun ww ww ww ww st hQ => si_self st.1 hQ
theorem walks_led (hh : A.handled = none) (hID : I ≠ D) (hb : w.params.followText "set-order" = false) (T : Tab t es.size) (hn : es.size ≤ 1) (hl : t.led = true) :
  ∃ sl : Nat → Nat, sl 0 = 0 ∧ Walks prog w A I [I, D] [I] (es.toList.map (·.2)).length (fun i v => (es.toList.map (·.2))[i]? = some v) (fun i h => h.get? I = some (siO (rawInt (sl i)) i D es.size ep) ∧ h.get? D = some (setO es ep t)) := by
 have hcase : es = #[] ∨ ∃ e, es = #[e] := by
  obtain ⟨l⟩ := es
  match l, hn with
  | [], _ => exact .inl rfl
  | [e], _ => exact .inr ⟨e, rfl⟩
  | _ :: _ :: _, h => simp at h
 rcases hcase with rfl | ⟨e, rfl⟩
 ·refine ⟨fun ww => 0, rfl, fun b hb => by simp at hb; simp [hb], fun ww ww ww st hk => ⟨hk I (by simp) _ st.1, hk D (by simp) _ st.2⟩, fun i s Q E hi => by simp at hi, fun s Q E st hQ => ?_, fun ww ww ww ww st hQ => si_self st.1 hQ⟩
  refine siNext_end (slot := 0) hh st.1 st.2 T (by simp) (fun A E Q q => next_led hb st.2 T (by simp) hl (by simpa using q)) fun h' he' => hQ h' s.toks fun b o hb e => he' b o (fun h => hb (by simp [h])) e
 ·obtain ⟨j, hj⟩ : ∃ j, t.place = #[j] := by
   have := T.pl
   generalize t.place = a at this
   obtain ⟨l⟩ := a
   match l, this with
   | [j], _ => exact ⟨j, rfl⟩
  refine ⟨fun i => if i = 0 then 0 else j + 1, rfl, fun b hb => by simp at hb; simp [hb], fun ww ww ww st hk => ⟨hk I (by simp) _ st.1, hk D (by simp) _ st.2⟩, fun i s Q E hi st hQ => ?_, fun s Q E st hQ => ?_, fun ww ww ww ww st hQ => si_self st.1 hQ⟩
  ·have hi0 : i = 0 := by simpa using hi
   subst hi0
   refine siNext_item (slot := 0) (slot' := j + 1) (x := e.2) st.1 st.2 T (by simp) (fun A E Q q => next_led hb st.2 T (by simp) hl ?_) fun h' e' hs' => ?_
   ·rw [hj, below_one, if_neg (Nat.not_lt_zero _)]
    exact q
   ·exact hQ _ h' s.toks rfl ⟨e', hs'.extBut _ _ hID.symm st.2⟩ fun b o hb e => hs'.extBut b o (fun h => hb (by simp [h])) e
  ·refine siNext_end (slot := j + 1) hh st.1 st.2 T (by simp) (fun A E Q q => next_led hb st.2 T (by simp) hl ?_) fun h' he' => hQ h' s.toks fun b o hb e => he' b o (fun h => hb (by simp [h])) e
   rw [hj, below_one, if_pos (Nat.lt_succ_self _)]
   exact q
end
end
section
set_option tactic.hygienic false
section
variable {prog : Program} {w : World} {A : Around} {E : Value → Shared → Prop} {s : Shared} {D : Addr} {es : Array (Int × Value)} {t : SetTable} {ls : List Lit} {Pv : Addr → Prop}
theorem items_list {l : List Value} {acc : Array Value} (h : ItemsOf (fun i v => l[i]? = some v) acc l.length) : acc.toList = l := by
 (refine x0_1 h ?_; clear h; intro h1 h2)
 refine List.ext_getElem? fun i => ?_
 rw [Array.getElem?_toList]
 cases e : acc[i]? with
 | none =>
  have := Array.getElem?_eq_none_iff.mp e
  rw [List.getElem?_eq_none (by lia)]
 | some v => exact (h2 i v e).symm
theorem places_perm {es : List (Int × Value)} {d : Int × Value} : ∀ {ps : List Nat}, ps.Perm (List.range es.length) → (ps.map fun p => (es.getD p d).2).Perm (es.map (·.2)) := fun {ps} h => by
 refine (h.map _).trans (List.Perm.of_eq ?_)
 refine List.ext_getElem? fun i => ?_
 rw [List.getElem?_map, List.getElem?_map]
 by_cases hi : i < es.length
 ·rw [List.getElem?_range hi, List.getElem?_eq_getElem hi]
  simp [hi]
 ·rw [List.getElem?_eq_none (by simp; lia), List.getElem?_eq_none (by lia)]; rfl
theorem iter_set {Q : Value → Shared → Prop} (hh : A.handled = none) (S : SetAt prog w Pv s.heap D es t ls) (hn : es.size ≤ 7)
  (h : ∀ (I : Addr) (h' : Heap) (fp : List Addr) (l : List Value) (St : Nat → Heap → Prop) (s' : Shared), s'.heap = h' → s'.os = s.os → s'.gens = s.gens → s'.toks = s.toks → Walks prog w A I fp [I] l.length (fun i v => l[i]? = some v) St → St 0 h' → Grows s.heap h' → s.heap.objs.size ≤ I →
   (∀ b, b ∈ fp → b < h'.objs.size ∧ (s.heap.objs.size ≤ b ∨ b = D)) → l.Perm (es.toList.map (·.2)) → Q (.ref I) s') : wpAny (model prog w) A (pyIter (.ref D)) Q E s := by
 obtain ⟨⟨ep, ho⟩, T, hled, hpln, _, _⟩ := S
 have hT : s.TypeIs (.ref D) "set" := ⟨_, ho, rfl⟩
 have hDs : D < s.heap.objs.size := Heap.lt_size ho
 refine wpAny_pyIter_slot hT PySem.F.slot_set_iter (wpAny_call_entry PySem.F.slot_set_iter hT set_entry_iter ?_ (PySem.F.args_set_iter_1 _))
 unfold Builtin.«frozenset.__iter__» Builtin.Frozenset.slot0 slotArgs
 simp only [List.isEmpty_nil, Bool.not_true, Bool.false_eq_true, ↓reduceIte, bind_assoc, List.length_nil, bne_self_eq_false]
 unfold Builtin.Frozenset.addrOf Builtin.Frozenset.sizeOf setEntries
 refine wpAny_bind (wpAny_pure ?_)
 try dsimp only
 refine wpAny_bind (wpAny_pure ?_)
 refine wpAny_bind (wpAny_bind (wpAny_bind (state_tup ho T hn (wpAny_pure (wpAny_pure ?_)))))
 refine wpAny_bind ?_
 unfold setDrawn
 refine wpAny_bind (state_tup ho T hn ?_)
 dsimp only
 refine wpAny_bind (byText_eq (wpAny_pure ?_))
 have pu : ∀ (o : Obj) c o', s.heap.get? c = some o' → (s.heap.push o).get? c = some o' := fun o c o' e => Heap.get?_push_of_some _ e
 have hD1 : D ≠ s.heap.objs.size := Nat.ne_of_lt hDs
 by_cases hb : w.params.followText "set-order" = true
 ·rw [if_neg (by rw [hb]; exact Bool.false_ne_true)]
  refine wpAny_bind (wpAny_pure ?_)
  unfold setEpoch
  refine wpAny_bind (wpAny_bind (state_tup ho T hn (wpAny_pure ?_)))
  unfold newFields
  refine wpAny_bind (wpAny_newObj_type ?_ (by size_fits))
  refine wpAny_pure ⟨_, rfl, "set_iterator", _, ⟨_, Heap.get?_push_size _ rfl, rfl⟩, si_slot_next.lookup, ?_⟩
  exact h _ _ _ _ _ _ rfl rfl rfl rfl (walks_text hh hD1.symm hb T hn) ⟨Heap.get?_push_size _ rfl, pu _ _ _ ho⟩ (pu _) (Nat.le_refl _)
   (fun b hb => by
    rw [Heap.size_push]
    rcases List.mem_cons.mp hb with rfl | hb
    ·exact ⟨Nat.lt_succ_self _, .inl (Nat.le_refl _)⟩
    ·rw [List.mem_singleton.mp hb]; exact ⟨Nat.lt_succ_of_lt hDs, .inr rfl⟩) ((pick_perm _ es).map _)
 ·have hb' : w.params.followText "set-order" = false := by simpa using hb
  by_cases hd : (!t.plain && decide (es.size > 1)) = true
  ·rw [if_pos (by rw [hb']; exact hd)]
   refine wpAny_bind (wpAny_drawOrder es.size _ _ _ (by simp) fun ps dr hp => ?_)
   refine wpAny_bind (wpAny_newTuple ?_ (by rw [List.length_map, hp.length_eq, List.length_range, sizeLine_eq]; lia))
   unfold setEpoch
   refine wpAny_bind (wpAny_bind (state_tup (s := { s with drawn := dr, heap := s.heap.push _ }) (pu _ _ _ ho) T hn (wpAny_pure ?_)))
   unfold newFields
   refine wpAny_bind (wpAny_newObj_type ?_ (by size_fits))
   refine wpAny_pure ⟨_, rfl, "set_iterator", _, ⟨_, Heap.get?_push_size _ rfl, rfl⟩, si_slot_next.lookup, ?_⟩
   have hps : ∀ p, p ∈ ps → p < es.size := fun p hp' => by simpa using hp.mem_iff.mp hp'
   have hp2 : ps.Perm (List.range es.toList.length) := by simpa using hp
   have hI : s.heap.objs.size < (s.heap.push { cls := .type "tuple", data := .seq (ps.map fun i : Nat => rawInt i).toArray }).objs.size := by rw [Heap.size_push]; exact Nat.lt_succ_self _
   refine h _ _ _ (ps.map fun p => (es.getD p (0, Value.none)).2) _ _ rfl rfl rfl rfl (walks_drawn hh (Nat.ne_of_gt (Nat.lt_trans hDs hI)) (Nat.ne_of_gt hI) hps T hn) ⟨Heap.get?_push_size _ rfl, Heap.get?_push_of_some _ (pu _ _ _ ho), Heap.get?_push_of_some _ (Heap.get?_push_size _ rfl)⟩ (fun c o e => Heap.get?_push_of_some _ (pu _ _ _ e)) (Nat.le_of_lt hI)
    (fun b hb => by
     have e : (Heap.push (Heap.push s.heap { cls := .type "tuple", data := .seq (ps.map fun i : Nat => rawInt i).toArray }) (siO (.ref s.heap.objs.size) 0 D es.size ep)).objs.size = s.heap.objs.size + 2 := by rw [Heap.size_push, Heap.size_push]
     simp only [List.mem_cons, List.not_mem_nil, or_false] at hb
     rw [Heap.size_push] at hb
     show b < (Heap.push (Heap.push s.heap _) (siO (.ref s.heap.objs.size) 0 D es.size ep)).objs.size ∧ _
     rw [e]
     rcases hb with rfl | rfl | rfl
     ·exact ⟨Nat.lt_succ_self _, .inl (Nat.le_succ _)⟩
     ·exact ⟨Nat.lt_succ_of_lt (Nat.lt_succ_of_lt hDs), .inr rfl⟩
     ·exact ⟨Nat.lt_succ_of_lt (Nat.lt_succ_self _), .inl (Nat.le_refl _)⟩) ?_
   have := places_perm (d := (0, Value.none)) hp2
   refine (List.Perm.of_eq (List.map_congr_left fun p ww => ?_)).trans this
   simp [Array.getD_eq_getD_getElem?, List.getD_eq_getElem?_getD]
  ·rw [if_neg (by rw [hb']; exact hd)]
   have h1 : es.size ≤ 1 := by
    rcases hpln with z | z
    ·lia
    ·rw [z] at hd
     simp at hd
     exact hd
   refine wpAny_bind (wpAny_pure ?_)
   unfold setEpoch
   refine wpAny_bind (wpAny_bind (state_tup ho T hn (wpAny_pure ?_)))
   unfold newFields
   refine wpAny_bind (wpAny_newObj_type ?_ (by size_fits))
   refine wpAny_pure ⟨_, rfl, "set_iterator", _, ⟨_, Heap.get?_push_size _ rfl, rfl⟩, si_slot_next.lookup, ?_⟩
   (refine x1_1 (walks_led (prog := prog) (I := s.heap.objs.size) (ep := ep) hh hD1.symm hb' T h1 (hled hb')) ?_; intro sl hsl W)
   exact h _ _ _ _ _ _ rfl rfl rfl rfl W ⟨by rw [hsl]; exact Heap.get?_push_size _ rfl, pu _ _ _ ho⟩ (pu _) (Nat.le_refl _)
    (fun b hb => by
     rw [Heap.size_push]
     rcases List.mem_cons.mp hb with rfl | hb
     ·exact ⟨Nat.lt_succ_self _, .inl (Nat.le_refl _)⟩
     ·rw [List.mem_singleton.mp hb]; exact ⟨Nat.lt_succ_of_lt hDs, .inr rfl⟩) (.refl _)
theorem hint_set {Q : Bool → Shared → Prop} (hT : s.TypeIs (.ref D) "set") (h : Q false s) : wpAny (model prog w) A (Builtin.List.listLengthHint (.ref D)) Q E s := by
 unfold Builtin.List.listLengthHint
 refine wpAny_bind (wpAny_specialOf hT PySem.F.slot_set_len.lookup ?_)
 generalize hid : ("set.__len__" : String) = id0
 wp_delta
 rw [show splitId id0 = some ("set", "__len__") from by subst hid; decide +kernel]
 subst hid
 refine wpAny_bind (wpAny_isInstance (T := "set") (b := true) hT (by rw [isSubtype_type]; kernel_rfl) ?_)
 refine wpAny_ite_split (fun hab => absurd hab (by decide)) (fun ww => ?_)
 refine wpAny_ite_split (fun ww => ?_) (fun hab => absurd (by decide +kernel) hab)
 refine wpAny_bind (wpAny_typeOf hT ?_)
 exact wpAny_pure h
end
end
section
set_option tactic.hygienic false
section
variable {prog : Program} {w : World} {A : Around} {E : Value → Shared → Prop} {s : Shared} {D : Addr} {es : Array (Int × Value)} {t : SetTable} {ls : List Lit} {Pv : Addr → Prop}
structure After (s s' : Shared) : Prop where
 os : s'.os = s.os
 gens : s'.gens = s.gens
theorem set_extend {R : Result → Shared → Prop} (hh : A.handled = none) (hS0 : SetAt prog w Pv s.heap D es t ls) (hn : es.size ≤ 7) (S : Addr) (hSD : S ≠ D) (res : Value) (c₀ : Nat) (hS : s.heap.get? S = some { cls := .type "list", data := .seq #[] c₀ })
  (hR : ∀ s' acc' c', After s s' → (∀ b o, b ≠ S → s.heap.get? b = some o → s'.heap.get? b = some o) → s'.heap.get? S = some { cls := .type "list", dict := none, data := .seq acc' c', slots := #[] } → acc'.toList.Perm (es.toList.map (·.2)) → R (.ok (.ret res)) s') :
  wpAny (model prog w) A.in1 (Builtin.List.listExtendWith (.ref S) (.ref D) res)
   (fun fin s' => match fin with | .done f => R (.ok f) s' | .again c' => c'.quiet = true ∧ codeAny (model prog w) A c' R s') (fun e s' => R (.error e) s') s := by
 (refine x1_0 hS0.ob ?_; intro ep ho)
 have hT : ∀ s' : Shared, s'.heap.get? D = some { cls := .type "set", dict := none, data := .set es ep t } → s'.TypeIs (.ref D) "set" := fun s' e => ⟨_, e, rfl⟩
 have hSs : S < s.heap.objs.size := Heap.lt_size hS
 unfold Builtin.List.listExtendWith
 refine wpAny_bind (wpAny_typeOf (T := "set") (hT s ho) ?_)
 have h1 : Builtin.List.listSameRef (.ref S) (.ref D) = false := by simp [Builtin.List.listSameRef, hSD]
 have h2 : (Value.type "set" == Value.type "list") = false := by decide
 have h3 : (Value.type "set" == Value.type "tuple") = false := by decide
 simp only [h1, h2, h3, Bool.or_false, Bool.false_eq_true, if_false]
 refine wpAny_bind (iter_set (A := A.in1) hh hS0 hn fun I h' fp l St s1 e1 a1 a2 a3 W st gr hI hfp hl => ?_)
 subst e1
 have ll : l.length ≤ sizeLine := by
  have e : l.length = es.size := by simpa using hl.length_eq
  rw [sizeLine_eq, e]; lia
 have hSf : S ∉ fp := fun hm => by
  rcases (hfp S hm).2 with z | z
  ·exact absurd hSs (Nat.not_lt.mpr z)
  ·exact hSD z
 have key : ∀ (h : Heap) (c₁ tk : Nat), St 0 h → (∀ b o, b ≠ S → s.heap.get? b = some o → h.get? b = some o) →
   h.get? S = some { cls := .type "list", data := .seq #[] c₁ } → codeAny (model prog w) A (.builtin "list.extend.loop" ⟨[.ref S, .ref I, res], []⟩) R { s1 with heap := h, toks := tk } := by
  intro h c₁ tk hst hk hS₁
  refine codeAny_extend_loopS W.toS ll S hSf res l.length 0 _ #[] c₁ rfl (Nat.zero_le _) hst hS₁ (ItemsOf.nil _) fun s' acc' c' hm hS' hacc => ?_
  rw [Moved.eq_with hm]
  refine hR _ acc' c' ⟨a1, a2⟩ (fun b o hb e => hm.heap b o (fun hmem => ?_) (hk b o hb e)) hS' (by rw [items_list hacc]; exact hl)
  rcases List.mem_cons.mp hmem with e' | hmem
  ·exact hb e'
  ·rw [List.mem_singleton.mp hmem] at e
   exact absurd (Heap.lt_size e) (Nat.not_lt.mpr hI)
 have hS₁ := gr _ _ hS
 refine wpAny_bind (wpAny_holding (hint_set (hT s1 (gr _ _ ho)) ?_))
 refine wpAny_ite_split (fun ww => ?_) (fun ww => wpAny_pure ⟨plainId_quiet PySem.F.plain_extend_loop _, key _ c₀ _ st (fun b o ww e => gr _ _ e) hS₁⟩)
 refine wpAny_bind (wpAny_rule ?_)
 refine wpAny_bind ?_
 show wpAny _ _ (updateSeq S (·.push .none) >>= fun ww => updateSeq S (·.pop)) _ _ _
 refine wpAny_bind (wpAny_updateSeq hS₁ rfl ?_)
 have hS₂ := Heap.get?_update_self (Obj.mapSeq (·.push Value.none)) hS₁ rfl
 refine wpAny_updateSeq (hz := by seq_fits) hS₂ rfl ?_
 have hS₃ := Heap.get?_update_self (Obj.mapSeq (·.pop)) hS₂ rfl
 refine wpAny_pure ⟨plainId_quiet PySem.F.plain_extend_loop _, key _ _ _ ?_ (fun b o hb e => ?_) hS₃⟩
 ·refine W.frame 0 _ _ st fun b hb o e => ?_
  have hbS : b ≠ S := fun h => hSf (h ▸ hb)
  exact (Heap.get?_update_other _ _ (Ne.symm hbS)).trans ((Heap.get?_update_other _ _ (Ne.symm hbS)).trans e)
 ·exact (Heap.get?_update_other _ _ (Ne.symm hb)).trans ((Heap.get?_update_other _ _ (Ne.symm hb)).trans (gr _ _ e))
theorem SetAt.keep' (hS : SetAt prog w Pv s.heap D es t ls) {h' : Heap} (gr : Grows s.heap h') : SetAt prog w Pv h' D es t ls :=
 let ⟨⟨ep, ho⟩, a, b, c, d, e⟩ := hS
 ⟨⟨ep, gr _ _ ho⟩, a, b, c, fun x hx => x2_2 (d x hx) fun b l h1 h2 h3 => ⟨b, l, h1, lit_keep h2 fun o => gr _ _, h3⟩, fun l hl => let ⟨x, hx, b, h1, h2⟩ := e l hl; ⟨x, hx, b, h1, lit_keep h2 fun o => gr _ _⟩⟩
theorem set_collect {R : List Value → Shared → Prop} (hh : A.handled = none) (hS0 : SetAt prog w Pv s.heap D es t ls) (hn : es.size ≤ 7)
  (h : ∀ (s' : Shared) (vs : List Value), After s s' → Grows s.heap s'.heap → vs.Perm (es.toList.map (·.2)) → R vs s') :
  wpAny (model prog w) A (collect (.ref D)) R E s := by
 unfold collect
 refine wpAny_bind (wpAny_runValue (codeAny_builtin entry_proto_collect' ?_))
 rw [Around.under_plainId PySem.F.plain_proto_collect _]
 show wpAny _ A.in1 (newList [] >>= fun l => again (.builtin "list.__iadd__" ⟨[l, .ref D], []⟩)) _ _ s
 refine wpAny_bind (wpAny_newObj_type ?_)
 refine wpAny_pure ⟨plainId_quiet PySem.F.plain_list_iadd _, codeAny_builtin entry_list_iadd' ?_⟩
 rw [Around.under_plainId PySem.F.plain_list_iadd _]
 have hS₁ : (s.heap.push { cls := .type "list", data := .seq ([] : List Value).toArray }).get? s.heap.objs.size = some { cls := .type "list", data := .seq #[] } := Heap.get?_push_size _ rfl
 show wpAny _ A.in1 (Builtin.List.listExtendWith (.ref s.heap.objs.size) (.ref D) (.ref s.heap.objs.size)) _ _ _
 have gr : Grows s.heap (s.heap.push { cls := .type "list", data := .seq ([] : List Value).toArray }) := Grows.push _ _
 (refine x1_0 hS0.ob ?_; intro ep ho)
 have key := set_extend (A := A) (s := { s with heap := s.heap.push { cls := .type "list", data := .seq ([] : List Value).toArray } })
  (R := fun (q : Result) (s' : Shared) => ∃ (acc' : Array Value) (c' : Nat), q = .ok (.ret (.ref s.heap.objs.size)) ∧ After s s' ∧
   Grows s.heap s'.heap ∧ s'.heap.get? s.heap.objs.size = some { cls := .type "list", dict := none, data := .seq acc' c', slots := #[] } ∧ acc'.toList.Perm (es.toList.map (·.2)))
  hh (SetAt.keep' hS0 gr) hn s.heap.objs.size (Nat.ne_of_gt (Heap.lt_size ho)) (.ref s.heap.objs.size) 0 hS₁
  (fun s' acc' c' ha hk hS' hacc => ⟨acc', c', rfl, ⟨ha.1, ha.2⟩, fun b o e => hk b o (Nat.ne_of_lt (Heap.lt_size e)) (gr _ _ e), hS', hacc⟩)
 refine wpAny_mono key (fun fin s' x => ?_) fun e s' x => ?_
 ·cases fin with
  | done f =>
   (refine x2_4 x ?_; clear x; intro acc' c' e ha hk hS' hacc)
   cases e
   show wpAny _ A (load s.heap.objs.size >>= _) _ _ _
   refine wpAny_bind (wpAny_load hS' ?_)
   exact wpAny_pure (h s' _ ha hk hacc)
  | again c₁ =>
   refine ⟨x.1, codeAny_mono x.2 fun q s₂ y => ?_⟩
   (refine x2_1 y ?_; clear y; intro acc' c' z1 z2; obtain rfl := z1; refine x0_3 z2 ?_; clear z2; intro ha hk hS' hacc)
   show wpAny _ A (load s.heap.objs.size >>= _) _ _ _
   refine wpAny_bind (wpAny_load hS' ?_)
   exact wpAny_pure (h s₂ _ ha hk hacc)
 ·(refine x2_1 x ?_; clear x; intro ww ww e' ww)
  cases e'
end
end
section
set_option tactic.hygienic false
noncomputable def kasAll (n : Nat) (ok : Array Nat → Bool) : KasT (Array Nat) → Bool
 | .ret p => ok p
 | .ask i j k => decide (i < n) && decide (j < n) && kasAll n ok (k true) && kasAll n ok (k false)
theorem kas_all {cmp : Nat → Nat → (Bool → Shared → Prop) → Shared → Prop} {n : Nat} {ok : Array Nat → Bool} {Q : Array Nat → Shared → Prop} {s : Shared}
  (hc : ∀ i j C, i < n → j < n → (∀ b, C b s) → cmp i j C s) (hQ : ∀ p, ok p = true → Q p s) : ∀ (t : KasT (Array Nat)), kasAll n ok t = true → t.kasWp cmp Q s
 | .ret p, h => hQ p h
 | .ask i j k, h => by
  simp only [kasAll, Bool.and_eq_true, decide_eq_true_eq] at h
  (refine x0_1 h ?_; clear h; intro z1 h4; (refine x0_1 z1 ?_; clear z1; intro z1 h3; obtain ⟨h1, h2⟩ := z1))
  refine hc i j _ h1 h2 fun b => ?_
  cases b with
  | true => exact kas_all hc hQ (k true) h3
  | false => exact kas_all hc hQ (k false) h4
theorem kas_two : kasAll 2 (fun p => p.toList.isPerm (List.range 2)) (kas_sort 2) = true := by decide +kernel
theorem kas_three : kasAll 3 (fun p => p.toList.isPerm (List.range 3)) (kas_sort 3) = true := by decide +kernel
theorem getD_range {α : Type} {vs : List α} {d : α} : (List.range vs.length).map (fun i => vs.getD i d) = vs := by
 refine List.ext_getElem? fun i => ?_
 rw [List.getElem?_map]
 by_cases hi : i < vs.length
 ·rw [List.getElem?_range hi, List.getElem?_eq_getElem hi]
  simp [hi]
 ·rw [List.getElem?_eq_none (by simp; omega), List.getElem?_eq_none (by omega)]; rfl
section
variable {prog : Program} {w : World} {A : Around} {E : Value → Shared → Prop} {s : Shared}
theorem lit_lt {x y : Addr} {l l' : Lit} (hx : LitAt prog w s.heap l x) (hy : LitAt prog w s.heap l' y) {Q : Bool → Shared → Prop} (h : ∀ c, Q c s) : wpAny (model prog w) A (keyLt' (tuples' true) (.ref x) (.ref y)) Q E s := by
 (refine x5_2 (lit_inv hx) ?_; clear hx; intro o n t1 t2 t3 ho ww hd; refine x5_2 (lit_inv hy) ?_; clear hy; intro o' n' u1 u2 u3 ho' ww hd')
 refine kat_lt ho hd ho' hd' ?_
 refine kat_cons (wpAny_eqBool_int (kat_go (fun e => kat_yes ?_) fun e => kat_no (oneLt_int (h _))))
 refine kat_cons (wpAny_eqBool_str (kat_go (fun e => kat_yes ?_) fun e => kat_no (kat_one _ _ (PyProof.Rows.lt_str (h _)))))
 exact kat_cons (wpAny_eqBool_int (kat_go (fun e => kat_yes (kat_nil (h _))) fun e => kat_no (kat_one _ _ (PyProof.Rows.lt_int (h _)))))
theorem kind_lits {vs : List Value} {Q : SortKind → Shared → Prop} (h2 : 2 ≤ vs.length) (hv : ∀ v, v ∈ vs → ∃ b l, v = .ref b ∧ LitAt prog w s.heap l b) (h : Q (tuples' true) s) : wpAny (model prog w) A (keyKind' vs.toArray) Q E s := by
 obtain ⟨fs, hf, hi⟩ : ∃ fs : List Value, KatTups s.heap vs fs ∧ fs.length = vs.length ∧ ∀ v, v ∈ fs → ∃ i t, v = .int i t := by
  clear h2 h
  induction vs with
  | nil => exact ⟨[], trivial, rfl, fun v hv => by cases hv⟩
  | cons v vs ih =>
   (refine x1_2 (ih fun v hv' => hv v (List.mem_cons_of_mem _ hv')) ?_; intro fs hf hl hi)
   (refine x2_1 (hv v (List.mem_cons_self ..)) ?_; intro b l z10 z11; obtain rfl := z10; refine x5_2 (lit_inv z11) ?_; clear z11; intro o n t1 t2 t3 ho hc hd)
   refine ⟨_ :: fs, KatTups.cons ho hc hd rfl hf, by simp [hl], fun v hv => ?_⟩
   rcases List.mem_cons.mp hv with rfl | hv
   ·exact ⟨_, _, rfl⟩
   ·exact hi v hv
 refine kat_kind (T := .type "int") hf (by omega) (fun v hv => ?_) (by decide) h
 (refine x2_0 (hi.2 v hv) ?_; intro i t z14; obtain rfl := z14)
 exact Looks.now
theorem sort_lits {a : Addr} {n : Nat} {P : PySem.Fin → Shared → Prop} {vs : List Value} (ho : s.heap.get? a = some (seqObj "list" vs.toArray n)) (hv : ∀ v, v ∈ vs → ∃ b l, v = .ref b ∧ LitAt prog w s.heap l b) (hl : vs.length ≤ 3)
  (h : ∀ (s' : Shared) (out : List Value) (e : Nat), After s s' → out.Perm vs → s'.heap.get? a = some (seqObj "list" out.toArray e) → (∀ c o, c ≠ a → s.heap.get? c = some o → s'.heap.get? c = some o) → P (.done (.ret .none)) s') :
  wpAny (model prog w) A (Builtin.«list.sort» ⟨[.ref a], []⟩) P E s := by
 have ha : a < s.heap.objs.size := Heap.lt_size ho
 have s1 := Heap.SameBut.update s.heap a (Obj.mapSeq fun ww => (#[] : Array Value))
 obtain ⟨e1, ho1⟩ : ∃ e1, (s.heap.update a (Obj.mapSeq fun ww => (#[] : Array Value))).get? a = some (seqObj "list" #[] e1) := ⟨_, get?_update_seq ho fun ww => #[]⟩
 rw [list_sort_plain]
 refine wpAny_bind (listItems_at ho rfl ?_)
 refine wpAny_bind (listUpdate_at ho rfl ?_ (by rw [List.size_toArray, sizeLine_eq]; omega) (Nat.zero_le _))
 refine wpAny_bind (seqEpoch_at ho1 rfl ?_)
 refine wpAny_bind (wpAny_newTuple ?_ (by show vs.length ≤ _; rw [sizeLine_eq]; omega))
 refine wpAny_bind (wpAny_newList ?_ (Nat.zero_le _))
 refine wpAny_holding ?_
 have up : ∀ c o, c ≠ a → s.heap.get? c = some o → (((s.heap.update a (Obj.mapSeq fun ww => (#[] : Array Value))).push (seqObj "tuple" vs.toArray 0)).push (seqObj "list" #[] 0)).get? c = some o := fun c o hc e =>
  Heap.get?_push_of_some _ (Heap.get?_push_of_some _ (s1.extBut _ _ hc e))
 have ho2 : (((s.heap.update a (Obj.mapSeq fun ww => (#[] : Array Value))).push (seqObj "tuple" vs.toArray 0)).push (seqObj "list" #[] 0)).get? a = some (seqObj "list" #[] e1) := Heap.get?_push_of_some _ (Heap.get?_push_of_some _ ho1)
 have hne : ∀ b l, LitAt prog w s.heap l b → b ≠ a := fun b l hk e => by
  (refine x3_2 hk ?_; clear hk; intro o items n ho' hc ww)
  rw [e, ho] at ho'
  cases ho'
  simp at hc
 show wpAny (model prog w) A _ P E { s with heap := ((s.heap.update a (Obj.mapSeq fun ww => (#[] : Array Value))).push (seqObj "tuple" vs.toArray 0)).push (seqObj "list" #[] 0) }
 generalize ((s.heap.update a (Obj.mapSeq fun ww => (#[] : Array Value))).push (seqObj "tuple" vs.toArray 0)).push (seqObj "list" #[] 0) = H at up ho2
 have hv2 : ∀ v, v ∈ vs → ∃ b l, v = .ref b ∧ LitAt prog w H l b := fun v hm => x2_1 (hv v hm) fun b l e hk => ⟨b, l, e, lit_keep hk fun o => up _ _ (hne _ _ hk)⟩
 dsimp only
 have fin : ∀ (st' : SortSt) (out : List Value), (arrOf st').map (·.2) = out.toArray → failedOf st' = none → out.Perm vs → wpAny (model prog w) A (do
   let touched := (← seqEpoch a) != e1
   Builtin.List.listUpdate (.ref a) fun ww => (arrOf st').map (·.2)
   if let some e := failedOf st' then rule "list.sort.comparison-raised"; throw e
   if touched then rule "list.sort.modified"; raiseError "ValueError" "list modified during sort"
   ret .none) P E { s with heap := H } := fun st' out hout hf hp => by
  have hz := hp.length_eq
  refine wpAny_bind (seqEpoch_at ho2 rfl ?_)
  rw [hout]
  refine wpAny_bind (listUpdate_at ho2 rfl ?_ (Nat.zero_le _) (by rw [List.size_toArray, sizeLine_eq]; omega))
  rw [hf]
  simp only [bne_self_eq_false, Bool.false_eq_true, if_false]
  obtain ⟨c2, hc2⟩ : ∃ c2, (H.update a (Obj.mapSeq fun ww => out.toArray)).get? a = some (seqObj "list" out.toArray c2) := ⟨_, get?_update_seq ho2 fun ww => out.toArray⟩
  exact wpAny_pure (h _ out c2 ⟨rfl, rfl⟩ hp hc2 fun c o hc e => (Heap.SameBut.update H a (Obj.mapSeq fun ww => out.toArray)).extBut _ _ hc (up c o hc e))
 by_cases h2 : vs.toArray.size < 2
 ·rw [if_pos h2, if_pos h2]
  refine wpAny_bind (wpAny_pure ?_)
  rw [StateT.run_pure]
  refine wpAny_bind (wpAny_pure ?_)
  dsimp only
  refine fin (SortSt.mk' general' (vs.toArray.zip vs.toArray) #[] 7 none) vs ?_ rfl (.refl _)
  show Array.map (·.2) (vs.toArray.zip vs.toArray) = vs.toArray
  apply Array.toList_inj.mp
  rw [Array.toList_map]
  simp [List.map_snd_zip]
 ·rw [if_neg h2, if_neg h2]
  rw [List.size_toArray] at h2
  refine wpAny_bind (kind_lits (s := { s with heap := H }) (by omega) hv2 ?_)
  refine wpAny_bind (wpAny_mono (kat_run (E := E) (ks := vs) (vs := vs) (κ := tuples' true) (s := { s with heap := H }) (Q := fun st' s' => s' = { s with heap := H } ∧ ∃ p : Array Nat, p.toList.Perm (List.range vs.length) ∧ arrOf st' = p.map (kas_item (vs.toArray.zip vs.toArray)) ∧ failedOf st' = none)
   (G := fun p s' => s' = { s with heap := H } ∧ p.toList.Perm (List.range vs.length)) rfl (by omega) (by omega) (fun p st' s' a1 a2 a3 a4 => ⟨a4.1, p, a4.2, a2, a3⟩) ?_) ?_ fun ww ww x => x)
  ·have hk : kasAll vs.length (fun p => p.toList.isPerm (List.range vs.length)) (kas_sort vs.length) = true := by
    rcases (show vs.length = 2 ∨ vs.length = 3 by omega) with z | z
    ·rw [z]; exact kas_two
    ·rw [z]; exact kas_three
   refine kas_all (n := vs.length) (fun i j C hi hj hC => ?_) (fun p hp => ⟨rfl, List.isPerm_iff.mp hp⟩) _ hk
   have gi : ∀ {i}, i < vs.length → ∃ b l, vs.getD i Value.none = .ref b ∧ LitAt prog w H l b := fun {i} hi => hv2 _ (by
    rw [List.getD_eq_getElem?_getD, List.getElem?_eq_getElem hi]
    exact List.getElem_mem hi)
   (refine x2_1 (gi hi) ?_; intro b l e hk)
   (refine x2_1 (gi hj) ?_; intro b' l' e' hk')
   unfold kas_ask
   rw [e, e']
   exact lit_lt (s := { s with heap := H }) hk hk' hC
  ·(intro z0r; obtain ⟨⟨⟩, st'⟩ := z0r; intro s'; intro z2r; (refine x0_1 z2r ?_; clear z2r; intro z15 z16; obtain rfl := z15; refine x1_2 z16 ?_; clear z16; intro p hp har hf))
   dsimp only
   refine fin st' (p.toList.map fun i => vs.getD i Value.none) (kat_snds rfl har) hf ((hp.map _).trans (List.Perm.of_eq getD_range))
end
end
section
set_option tactic.hygienic false
theorem lits_at {prog : Program} {w : World} {F : FH} {h : Heap} (hF : ∀ a o, F a = some o → h.get? a = some o) : ∀ {ws : List Lit} {vs : List Value}, RdAll F vs (ws.map Lit.d) → ∀ (j : Nat) (l : Lit), ws[j]? = some l → ∃ b, vs[j]? = some (.ref b) ∧ LitAt prog w h l b
 | [], _, _, j, l, e => by simp at e
 | l :: ws, _, .cons r _, 0, l', e => by
  cases e
  (refine x2_1 (lit_rd (prog := prog) (w := w) r) ?_; intro a o z1 z2; obtain rfl := z1; refine x0_1 z2 ?_; clear z2; intro e1 e2)
  exact ⟨a, rfl, e2 h (hF _ _ e1)⟩
 | l :: ws, _, .cons _ r, j + 1, l', e => lits_at hF r j l' e
theorem lits_in {F : FH} : ∀ {ws : List Lit} {vs : List Value}, RdAll F vs (ws.map Lit.d) → ∀ v, v ∈ vs → ∃ l, l ∈ ws ∧ Rd F v l.d
 | [], _, .nil, v, hv => by cases hv
 | l :: ws, _, .cons r rs, v, hv => by
  rcases List.mem_cons.mp hv with rfl | hv
  ·exact ⟨l, List.mem_cons_self .., r⟩
  ·(refine x1_1 (lits_in rs v hv) ?_; intro l' h1 h2)
   exact ⟨l', List.mem_cons_of_mem _ h1, h2⟩
theorem lits_of {F : FH} {P : Lit → Prop} : ∀ {vs : List Value}, (∀ v, v ∈ vs → ∃ l, P l ∧ Rd F v l.d) → ∃ ws : List Lit, RdAll F vs (ws.map Lit.d) ∧ ws.length = vs.length ∧ ∀ l, l ∈ ws → P l
 | [], _ => ⟨[], .nil, rfl, fun l h => by cases h⟩
 | v :: vs, h => by
  (refine x1_1 (h v (List.mem_cons_self ..)) ?_; intro l hl r)
  (refine x1_2 (lits_of fun v hv => h v (List.mem_cons_of_mem _ hv)) ?_; intro ws h1 h2 h3)
  exact ⟨l :: ws, .cons r h1, by simp [h2], fun l' hl' => by
   rcases List.mem_cons.mp hl' with rfl | hl'
   ·exact hl
   ·exact h3 l' hl'⟩
theorem lit_uniq {prog : Program} {w : World} {h : Heap} {l l' : Lit} {b : Addr} (h1 : LitAt prog w h l b) (h2 : LitAt prog w h l' b) : l = l' := by
 (refine x3_3 h1 ?_; clear h1; intro o items n ho ww hd hi)
 (refine x3_3 h2 ?_; clear h2; intro o' items' n' ho' ww hd' hi')
 rw [ho] at ho'
 cases ho'
 rw [hd] at hd'
 cases hd'
 exact lk3_inj (hi.inj hi')
section
variable {g : G KK} {k : Nat} {sc : Scope} {m : Loc} {σ : AH}
theorem EvW.sortedSet {p p' : Pos} {e : Expr} {pos pos' : Pos} {Q : AV → AH → Prop} (hx : sc.names.lookup ("sorted" : Str) = some .globalImplicit) (hx' : sc.names.lookup ("set" : Str) = some .globalImplicit)
  (hp : ∀ env, backTo pos (starEach [.Call (.Name "set" p') [e] [] pos'] env) = [(false, eval (.Call (.Name "set" p') [e] [] pos') env)]) (hp' : ∀ env, backTo pos' (starEach [e] env) = [(false, eval e env)])
  (h : EvW g k sc m σ e (fun a σ1 => ∃ ws : List Lit, a = .d (.list (ws.map Lit.d)) ∧ ws.length ≤ 3 ∧ ∀ ws' : List Lit, (∀ l, l ∈ ws' ↔ l ∈ ws) → ws'.length ≤ 3 → Q (.d (.list (ws'.map Lit.d))) σ1)) :
  EvW g k sc m σ (.Call (.Name "sorted" p) [.Call (.Name "set" p') [e] [] pos'] [] pos) Q := by
 intro A env W s R eo X Fm
 refine Call_Name (hp env) ((gb_sorted (g := g) hx) A env s p _ eo X.base' ?_)
 refine PySem.Calls.callWith_builtin rfl (evalArgs_plain (spliced_cons ?_))
 refine Call_Name (hp' env) ((gb_set (g := g) hx') A env s p' _ eo X.base' ?_)
 refine PyProof.Rows.callWith_type rfl (evalArgs_plain (spliced_cons (h.then R eo X Fm fun v s1 W1 σ1 a st pp Fm1 vr h1 => spliced_nil ?_)))
 (refine x1_1 h1 ?_; clear h1; intro ws z3 z4; obtain rfl := z3; refine x0_1 z4 ?_; clear z4; intro hl q)
 have X1 := st.abs
 change Rd W1.F v (.list (ws.map Lit.d)) at vr
 refine x4_4 vr.inv ?_
 clear vr
 intro a1 o1 vs1 n1 zv e1 hc1 hd1 r1
 subst zv
 have hl1 : s1.heap.IsList a1 vs1 := ⟨o1, X1.keepF _ _ e1, hc1, n1, hd1⟩
 have hz : vs1.toList.length = ws.length := by rw [r1.length, List.length_map]
 have R0 := R.units
 refine call_set_lits (Pv := fun b => ∃ l, l ∈ ws ∧ Rd W1.F (.ref b) l.d) R.handled (by have := R.units; unfold cLine; lia) hl1 hz hl (fun j l e => by
  (refine x1_1 (lits_at (prog := g.prog) (w := g.w) (h := s1.heap) X1.keepF r1 j l e) ?_; intro b h1 h2)
  exact ⟨b, by rw [← Array.getElem?_toList]; exact h1, h2, l, List.mem_of_getElem? e, by
   have := r1.get (k := j) (d := l.d) (by rw [List.getElem?_map, e]; rfl)
   (refine x1_1 this ?_; clear this; intro u e3 e4)
   rw [h1] at e3
   cases e3
   exact e4⟩) fun h' tk es t ls hsz hS hm gr => ?_
 refine spliced_nil ?_
 have hw : ∀ b l, Rd W1.F (.ref b) l.d → ∀ H : Heap, Grows s1.heap H → LitAt g.prog g.w H l b := fun b l r H gr => by
  (refine x2_2 (lit_rd (prog := g.prog) (w := g.w) r) ?_; intro a o e e1 e2)
  cases e
  exact e2 H (gr _ _ (X1.keepF _ _ e1))
 refine Calls.call_function_entry kind_sorted plain_sorted entry_sorted (args_sorted1 _) ?_
 unfold Builtin.«sorted»
 refine wpAny_bind (m := checkCount "sorted" 1 1 _) (wpAny_pure ?_)
 refine wpAny_bind (set_collect (A := A.in1) (s := { s1 with heap := h', toks := tk }) R.handled hS (by lia) fun s2 xs ha gr2 hp => ?_)
 have hxl : xs.length = es.size := by simpa using hp.length_eq
 have hxs : ∀ v, v ∈ xs → ∃ b l, v = .ref b ∧ l ∈ ws ∧ Rd W1.F (.ref b) l.d := fun v hv => by
  (refine x1_1 (List.mem_map.mp (hp.mem_iff.mp hv)) ?_; intro e he z5; obtain rfl := z5)
  (refine x2_3 (hS.els e he) ?_; intro b l e1 e2 e3 z6; refine x1_1 z6 ?_; clear z6; intro l' e4 e5)
  exact ⟨b, l', e1, e4, e5⟩
 refine wpAny_bind (wpAny_newList ?_ (by rw [hxl, sizeLine_eq]; lia))
 have gr3 : Grows s1.heap (s2.heap.push (seqObj "list" xs.toArray 0)) := fun c o e => Heap.get?_push_of_some _ (gr2 _ _ (gr _ _ e))
 have hoL : (s2.heap.push (seqObj "list" xs.toArray 0)).get? s2.heap.objs.size = some (seqObj "list" xs.toArray 0) := Heap.get?_push_size _ rfl
 refine wpAny_bind (wpAny_holding (wpAny_call_entry slot_list_sort ⟨_, hoL, rfl⟩ entry_list_sort (sort_lits (s := { s2 with heap := s2.heap.push (seqObj "list" xs.toArray 0) }) hoL (fun v hv => by
  (refine x2_1 (hxs v hv) ?_; intro b l z7 z8; obtain rfl := z7; refine x0_1 z8 ?_; clear z8; intro e1 e2)
  exact ⟨b, l, rfl, hw _ _ e2 _ gr3⟩) (by lia) fun s3 out ep ha3 hp3 hat3 hk3 => ⟨_, rfl, ?_⟩) (args_list_sort _)))
 refine wpAny_pure ⟨_, rfl, ?_⟩
 have lt' : ∀ {b o}, s1.heap.get? b = some o → b < s2.heap.objs.size := fun eb => Heap.lt_size (gr2 _ _ (gr _ _ eb))
 have gr4 : Grows s1.heap s3.heap := fun c o e => hk3 c o (Nat.ne_of_lt (lt' e)) (gr3 _ _ e)
 have X2 := X1.grows gr4
 have nF : W1.F s2.heap.objs.size = Option.none := by
  cases e : W1.F s2.heap.objs.size with
  | none => rfl
  | some o => exact absurd (lt' (X1.keepF _ _ e)) (Nat.lt_irrefl _)
 have nP : W1.P s2.heap.objs.size = Option.none := by
  cases e : W1.P s2.heap.objs.size with
  | none => rfl
  | some o => exact absurd (lt' (X1.keepP _ _ e)) (Nat.lt_irrefl _)
 have nO : ∀ j, ¬ Owns W1 σ1 j s2.heap.objs.size := fun j q => by ((refine x1_0 (X1.owned q) ?_; intro o e); exact absurd (lt' e) (Nat.lt_irrefl _))
 have X3 := X2.addF hat3 nF nP nO
 have l3 := X2.leF nF (seqObj "list" out.toArray ep)
 obtain ⟨ws', w1, w2, w3⟩ := lits_of (F := W1.F) (P := fun l => l ∈ ws) (vs := out) fun v hv => by
  (refine x2_1 (hxs v (hp3.mem_iff.mp hv)) ?_; intro b l z9 z10; obtain rfl := z9; refine x0_1 z10 ?_; clear z10; intro e1 e2)
  exact ⟨l, e1, e2⟩
 refine ⟨_, σ1, .d (.list (ws'.map Lit.d)), ⟨X3, st.le.trans l3, (ha3.os.trans ha.os).trans st.os, (ha3.gens.trans ha.gens).trans st.gens⟩, pp, Rd.list (Wd.addF_at _ _ _) rfl rfl (RdAll.mono l3.F w1), q ws' (fun l => ⟨w3 l, fun hl => ?_⟩) ?_⟩
 ·(refine x1_1 (hS.all l ((hm l).mpr hl)) ?_; intro e he z11; refine x1_1 z11 ?_; clear z11; intro b e1 e2)
  have hin : e.2 ∈ out := hp3.mem_iff.mpr (hp.mem_iff.mpr (List.mem_map_of_mem he))
  (refine x1_1 (lits_in w1 _ hin) ?_; intro l' h1 h2)
  rw [e1] at h2
  rw [lit_uniq e2 (hw _ _ h2 _ gr)]
  exact h1
 ·rw [w2, hp3.length_eq, hxl]
  lia
end
end
section
set_option tactic.hygienic false
section
variable (g : G KK) {A : Nat → Prop} {σ : AH} {S k : Nat} {ss : SS}
noncomputable abbrev cfl (ps ns : List Nat) (w : AV) : List (Str × AV) := [("number", .d (.int (-1))), ("scope", .d (.tuple (mks ps ++ mks ns))), ("strength", .d (.str "values")), ("positives", .d (.tuple (mks ps))), ("negatives", .d (.tuple (mks ns))), ("wanted", w)]
theorem c_Clause_init {ps ns : List Nat} {Q : AV → AH → Prop} (h1 : ps.length ≤ 100) (h2 : ns.length ≤ 100)
  (q : ∀ σ' w ws, σ'.next = w + 1 → σ.next < w → σ'.get σ.next = some (.inst 338 (cfl ps ns (.r w))) → σ'.get w = some (.list ((ws : List Lit).map Lit.d)) → (∀ j, j < σ.next → σ'.get j = σ.get j) → (∀ l, l ∈ ws ↔ l ∈ ps.map l1 ++ ns.map l0) → ws.length ≤ 200 → Q (.d .none) σ') :
  CodeW g (k + 6) (.ref 316) [.r σ.next, .d (.tuple (mks ps)), .d (.tuple (mks ns))] (σ.push (.inst 338 [])) Q := by
 refine cf3 "self" "positives" "negatives" (by kernel_rfl) (by kernel_rfl) (fun ww ww ww => rfl) rfl ?_
 refine aa ?_
 refine rw_expr (fun ww => rfl) ?_
 refine ec_init .Propagator (f := 262) (by kernel_rfl) (by kernel_rfl) (by kernel_rfl) (by kernel_rfl) (by kernel_rfl) (by intro env; rfl) (by intro env; rfl) ?_
 refine zc rfl (zn (h := zc rfl (aj (ec .tuple (by kernel_rfl) (fun ww => rfl) (zc rfl (zn (h := sn (CallW.tupleT (ec .tuple (by kernel_rfl) (fun ww => rfl) (zc rfl (zn (h := sn (CallW.tupleT ?_)))))))))))))
 refine BinW.cat (by simp; lia) ?_
 refine zc rfl (eS (sn ?_))
 refine (c_Prop_init g (by kernel_rfl) (by kernel_rfl) (by kernel_rfl) (by kernel_rfl) gP fun σ1 hn hg hk => ?_).call
 refine ls_of rfl (aa (rw_sta (fun ww => rfl) (ec .tuple (by kernel_rfl) (fun ww => rfl) (zc rfl (zn (h := sn (CallW.tupleT (zn (h := zsa (hl := Nat.le_of_ble_eq_true rfl) (q := aa (rw_sta (fun ww => rfl) (ec .tuple (by kernel_rfl) (fun ww => rfl) (zc rfl (zn (h := sn (CallW.tupleT (zn (h := zsa (hl := Nat.le_of_ble_eq_true rfl) (q := aa (rw_sta (fun ww => rfl) (EvW.lst0 (zn (h := zsa (hl := Nat.le_of_ble_eq_true rfl) (q := aa ?_))))))))))))))))))))))))
 simp only [AH.next_set, hn, AH.next_push]
 refine rw_for (noFree (by kernel_rfl)) (fun ww ww => rfl) ?_
 refine src_of ?_
 refine aj ?_
 refine rv_comp (by kernel_rfl) (fun ww ww => rfl) ?_
 refine src_of ?_
 refine ae (fun ww => rfl) (zn (h := za (q := ?_)))
 refine ⟨_, .inr rfl, ?_⟩
 refine cF (fun x : Nat => .int (x : Nat)) (fun x => some (l1 x).d) (fun ww => True) ps (by simp; lia) trivial ?_ ?_
 ·intro a ha m ww
  refine aN (by kernel_rfl) (IfsW.nil (jt (ec .is_one (by kernel_rfl) (fun ww => rfl) (zc rfl (zn (h := sn ?_))))))
  exact (c_is_one g ⟨rfl, trivial, _, rfl, rfl⟩).call
 intro m' ww
 refine rv_comp (by kernel_rfl) (fun ww ww => rfl) ?_
 refine src_of ?_
 refine ae (fun ww => rfl) (zn (h := za (q := ?_)))
 refine ⟨_, .inr rfl, ?_⟩
 refine cF (fun x : Nat => .int (x : Nat)) (fun x => some (l0 x).d) (fun ww => True) ns (by simp; lia) trivial ?_ ?_
 ·intro a ha m ww
  refine aN (by kernel_rfl) (IfsW.nil (jt (ec .is_nought (by kernel_rfl) (fun ww => rfl) (zc rfl (zn (h := sn ?_))))))
  exact (c_is_nought g ⟨rfl, trivial, _, rfl, rfl⟩).call
 intro m'' ww
 refine BinW.catL rfl rfl (by simp [fmS]; lia) ?_
 refine ⟨_, .inl rfl, ?_⟩
 rw [List.nil_append, List.nil_append, fmS, fmS, show ps.map (fun x => (l1 x).d) ++ ns.map (fun x => (l0 x).d) = (ps.map l1 ++ ns.map l0).map Lit.d by rw [List.map_append, List.map_map, List.map_map]; rfl]
 refine ForL.over Lit.d (ps.map l1 ++ ns.map l0) (fun done m σ' => ∃ ws : List Lit, m "self" = some (.r σ.next) ∧ σ'.next = σ.next + 2 ∧ σ'.get σ.next = some (.inst 338 (cfl ps ns (.r (σ.next + 1)))) ∧ σ'.get (σ.next + 1) = some (.list (ws.map Lit.d)) ∧
  (∀ j, j < σ.next → σ'.get j = σ.get j) ∧ (∀ l, l ∈ ws ↔ l ∈ done) ∧ ws.length ≤ done.length) ?_ ?_ ?_
 ·refine ⟨[], by walk_at "lk", by simp only [AH.next_set, AH.next_push, hn], gS, ?_, fun j hj => ?_, fun l => Iff.rfl, Nat.le_refl _⟩
  ·exact ah (by lia) (if_pos (by simp only [AH.next_set, hn, AH.next_push]))
  ·exact ah (by lia) (al (by simp only [AH.next_set, hn, AH.next_push]; lia) (ah (by lia) (ah (by lia) ((hk j (by lia)).trans (AH.get_push_old hj)))))
 ·(intro m; intro σ'; intro z2r; (refine x1_6 z2r ?_; clear z2r; intro ws e0 e1 e2 e3 e4 e5 e6))
  refine xn ?_
  exact q σ' (σ.next + 1) ws e1 (by lia) e2 e3 e4 e5 (by simp at e6; lia)
 ·(intro done; intro l; intro rest; intro hd; intro m; intro σ'; intro z6r; (refine x1_6 z6r ?_; clear z6r; intro ws e0 e1 e2 e3 e4 e5 e6))
  refine as_n (by kernel_rfl) (aa (ri (ad rfl (zn (h := ae (fun ww => rfl) (zn (h := za (q := ?_))))))))
  refine CmpW.notInL (x := l.d) rfl (.r e3) l.shp.of Lit.shp_all ?_
  refine ab ?_
  have hlen : done.length + 1 ≤ 200 := by
   have := congrArg List.length hd
   simp at this; lia
  by_cases h : l ∈ ws
  ·rw [(Lit.any_eqv ws l).mpr h]
   refine jf ?_
   refine xn (xn ?_)
   refine ⟨ws, by walk_at "lk", e1, e2, e3, e4, fun l' => ?_, by simp; lia⟩
   rw [List.mem_append, List.mem_singleton, e5]
   constructor
   ·exact .inl
   ·rintro (h' | rfl)
    ·exact h'
    ·exact (e5 l').mp h
  ·rw [show ((ws.map Lit.d).any fun y => PyData.eqv y l.d) = false by
    rw [Bool.eq_false_iff]; exact fun z => h ((Lit.any_eqv ws l).mp z)]
   refine jt ?_
   refine aa (rw_expr (fun ww => rfl) (EvW.append (by walk_at "mf") (ae (fun ww => rfl) (zn (h := za (q := ?_))))))
   refine ⟨_, _, rfl, e3, ?_⟩
   refine zc rfl (zn (h := sn ?_))
   refine ⟨_, _, rfl, e3, by simp; lia, ?_⟩
   refine ls_of rfl (xn (xn ?_))
   refine ⟨ws ++ [l], by walk_at "lk", e1, ah (by lia) e2, ?_, fun j hj => ah (by lia) (e4 j hj), fun l' => ?_, by simp; lia⟩
   ·rw [List.map_append]; exact gS
   ·rw [List.mem_append, List.mem_append, e5]
end
end
section
set_option tactic.hygienic false
theorem Ends.of {A A' : Nat → Prop} {σ σ1 : AH} {S : Nat} {P : Bool → SS → Prop} {Q : AV → AH → Prop} (q : Ends A σ S P Q) (hA : ∀ i, A i → A' i) (f : Fr A σ σ1) : Ends A' σ1 S P Q := fun b ss' σ' h f' p =>
 q b ss' σ' (h.mono hA) (fun i hi => (f' i (hA i hi)).trans (f i hi)) p
theorem Ends.imp {A : Nat → Prop} {σ : AH} {S : Nat} {P P' : Bool → SS → Prop} {Q : AV → AH → Prop} (q : Ends A σ S P Q) (h : ∀ b ss, P' b ss → P b ss) : Ends A σ S P' Q := fun b ss' σ' a c p => q b ss' σ' a c (h _ _ p)
theorem Lit.all_ok {l : Lit} {p : Int × Int} {dm : List (Int × Int)} (hx : dm[l.x]? = some p) (h : ∀ v, p.1 ≤ v → v ≤ p.2 → l.sat v) : ∀ pt, Inb pt dm → l.ok pt := fun pt k => by
 (refine x1_0 (get_lt k.1 hx) ?_; intro v hv)
 have := k.2 _ _ _ hv hx
 unfold Lit.ok; rw [getD_of hv]; exact h v this.1 this.2
theorem Lit.none_ok {l : Lit} {p : Int × Int} {dm : List (Int × Int)} (hx : dm[l.x]? = some p) (h : ∀ v, p.1 ≤ v → v ≤ p.2 → ¬ l.sat v) : ∀ pt, Inb pt dm → ¬ l.ok pt := fun pt k => by
 (refine x1_0 (get_lt k.1 hx) ?_; intro v hv)
 have := k.2 _ _ _ hv hx
 unfold Lit.ok; rw [getD_of hv]; exact h v this.1 this.2
section
variable (g : G KK) {A : Nat → Prop} {σ : AH} {S k : Nat} {ss : SS}
noncomputable abbrev lits (ws : List Lit) : AV := .d (.list (ws.map Lit.d))
theorem c_ClauseOf {ps ns : List Nat} {Q : AV → AH → Prop} (h1 : ps.length ≤ 100) (h2 : ns.length ≤ 100)
  (q : ∀ σ' ws, σ.next < σ'.next → σ'.get σ.next = some (.inst 338 (cfl ps ns (lits ws))) → (∀ j, j < σ.next → σ'.get j = σ.get j) → (∀ l, l ∈ ws ↔ l ∈ ps.map l1 ++ ns.map l0) → ws.length ≤ 200 → Q (.r σ.next) σ') :
  CodeW g (k + 7) (.ref 338) [.d (.tuple (mks ps)), .d (.tuple (mks ns))] σ Q := by
 refine CodeW.settle (CodeW.new (fI := 316) (by kernel_rfl) (by kernel_rfl) (by kernel_rfl) (c_Clause_init g h1 h2 fun σ' w ws e1 e2 e3 e4 e5 e6 e7 => ⟨rfl, ?_⟩))
 refine ⟨σ.next, w, 338, _, _, _, e3, e4, .same (.same (.same (.same (.same (.sw .nil))))), q _ ws ?_ gS (fun j hj => ?_) e6 e7⟩
 ·show σ.next < σ'.next; lia
 ·exact ah (by lia) ((if_neg (by lia)).trans (e5 j hj))
noncomputable def pcl (ws : List Lit) (pt : List Int) : Prop := ∃ l, l ∈ ws ∧ l.ok pt
theorem c_Clause_prop {p : Nat} {ps ns : List Nat} {ws : List Lit} {Q : AV → AH → Prop} (h : St A σ S ss) (hA : A p) (hp : σ.get p = some (.inst 338 (cfl ps ns (lits ws)))) (hw : ∀ l, l ∈ ws → l.x < ss.dm.length) (hl : ws.length ≤ 200)
  (q : Ends A σ S (PropR (pcl ws) ss) Q) : CodeW g (k + 12) (.ref 321) [.r p, .r S] σ Q := by
 have hdom := h.2.1
 have hpn : p < σ.next := by (refine x0_1 h ?_; clear h; intro z1 r; (refine x5_0 z1 ?_; clear z1; intro m n cl fs es h)); exact (h.a p hA).1
 have hg : ∀ l, l ∈ ws → ∃ d : Int × Int, ss.dm[l.x]? = some d ∧ d.1 ≤ d.2 ∧ d.2 ≤ d.1 + 1 := fun l hl => ⟨_, List.getElem?_eq_getElem (hw l hl), hdom _ (List.getElem_mem _)⟩
 refine cf2 "self" "store" (by kernel_rfl) (by kernel_rfl) (fun ww ww => rfl) rfl ?_
 refine aa (rq (by kernel_rfl) (fun ww => rfl) (EvW.lst0 (aa ?_)))
 refine rw_for (noFree (by kernel_rfl)) (fun ww ww => rfl) ?_
 refine src_of ?_
 refine ae (fun ww => rfl) (zn (h := za (q := ?_)))
 refine ⟨_, .inl rfl, ?_⟩
 refine ForL.over Lit.d ws (fun done m σ' => ∃ os : List Lit, m "self" = some (.r p) ∧ m "store" = some (.r S) ∧ m "opened" = some (.r σ.next) ∧ σ'.get σ.next = some (.list (os.map Lit.d)) ∧ St (fun i => A i ∨ i = σ.next) σ' S ss ∧ Fr A σ σ' ∧
  (∀ l, l ∈ os → l ∈ done ∧ ∃ d : Int × Int, ss.dm[l.x]? = some d ∧ d.1 < d.2) ∧ (∀ l, l ∈ done → l ∈ os ∨ ∀ pt, Inb pt ss.dm → ¬ l.ok pt) ∧ os.length ≤ done.length) ?_ ?_ ?_
 ·exact ⟨[], by walk_at "lk", by walk_at "lk", by walk_at "lk", gP, h.push _, fun i hi => al (by (refine x0_1 h ?_; clear h; intro z2 r; (refine x5_0 z2 ?_; clear z2; intro m n cl fs es h)); exact (h.a i hi).1) rfl, fun l hl => (by cases hl), fun l hl => (by cases hl), Nat.le_refl _⟩
 ·(intro m; intro σ'; intro z2r; (refine x1_8 z2r ?_; clear z2r; intro os e1 e2 e3 e4 e5 e6 e7 e8 e9))
  have hp' : σ'.get p = some (.inst 338 (cfl ps ns (lits ws))) := (e6 p hA).trans hp
  have nos : os ≠ [] → Sgl ss.dm → False := by
   intro hne s
   cases os with
   | nil => exact hne rfl
   | cons l r =>
    (refine x0_1 (e7 l (List.mem_cons_self ..)) ?_; intro ww z3; refine x1_1 z3 ?_; clear z3; intro d hd hlt)
    have := s d (List.mem_of_getElem? hd)
    lia
  refine aa (ri (ad rfl (ec .len (by kernel_rfl) (fun ww => rfl) (zc rfl (zn (h := sn ?_))))))
  refine CallW.lenL (.r e4) (by rw [List.length_map]; lia) ?_
  refine ei (CmpW.gt (ab ?_))
  by_cases h1 : 1 < os.length
  ·refine jd (by rw [List.length_map]; lia) ?_
   refine aa (ag (EvW.bool ?_))
   exact q.of (A' := A) (fun ww h => h) e6 true ss σ' (e5.mono fun i hi => .inl hi) (fun ww ww => rfl) (.kept fun s => (nos (by intro z; rw [z] at h1; simp at h1) s).elim)
  ·refine jn (by rw [List.length_map]; lia) ?_
   refine xn (aa (rq (by kernel_rfl) (fun ww => rfl) (ec .tuple (by kernel_rfl) (fun ww => rfl) (zc rfl ?_))))
   refine rv_comp (by kernel_rfl) (fun ww ww => rfl) ?_
   refine src_of ?_
   refine ae (fun ww => rfl) (zn (h := za (q := ?_)))
   refine ⟨_, .inl rfl, ?_⟩
   refine cF Lit.d (fun l => if ((os.map Lit.d).any fun y => PyData.eqv y l.d) = true then none else some l.neg.d) (fun m => m "opened" = some (.r σ.next)) ws (by simp; lia) (by walk_at "lk") ?_ ?_
   ·intro l hl m hm
    refine aN (by kernel_rfl) (IfsW.one (ad rfl (zn (h := zn (h := ?_)))))
    refine CmpW.notInL (x := l.d) rfl (.r e4) l.shp.of Lit.shp_all ?_
    refine ab ?_
    cases hb : ((os.map Lit.d).any fun y => PyData.eqv y l.d)
    ·refine jt ?_
     refine ec .negation (by kernel_rfl) (fun ww => rfl) (zc rfl (zn (h := sn ?_)))
     exact (c_negation g ⟨rfl, by walk_at "lk", _, rfl, if_neg Bool.false_ne_true⟩).call
    ·exact jf ⟨rfl, by walk_at "lk", if_pos rfl⟩
   ·intro m' hm'
    rw [List.nil_append]
    refine sn ?_
    refine cL rfl (Nat.le_trans (List.length_filterMap_le _ _) (by lia)) ?_
    refine aa (ag (rv_ifx (ad rfl (ec .len (by kernel_rfl) (fun ww => rfl) (zc rfl (zn (h := sn ?_)))))))
    refine CallW.lenL (.r e4) (by rw [List.length_map]; lia) ?_
    refine ei (qi (ab ?_))
    have hlen : ∀ os : List Lit, (ws.filterMap fun l => if ((os.map Lit.d).any fun y => PyData.eqv y l.d) = true then none else some l.neg.d).length ≤ 1000 := fun os => Nat.le_trans (List.length_filterMap_le _ _) (by lia)
    (refine x3_0 e5.get ?_; intro ww ww ww hs)
    have qq := q.of (A' := fun i => A i ∨ i = σ.next) (fun i hi => .inl hi) e6
    rcases os with _ | ⟨l, _ | ⟨l2, r⟩⟩
    ·refine jn (by simp) ?_
     refine em .fail (fun ww => rfl) (fun ww => rfl) (zn (h := zm (q := zc rfl (zn (h := sn ?_)))))
     refine (c_Store_fail g e5 fun σ2 a b => qq _ _ _ a b (.failed fun pt hpt => ?_)).call
     (intro z0r; (refine x1_1 z0r ?_; clear z0r; intro l hl ho))
     rcases e8 l hl with z | z
     ·cases z
     ·exact z pt hpt ho
    ·refine jd (by simp) ?_
     refine em .strike (fun ww => rfl) (fun ww => rfl) (zn (h := zm (q := zc rfl (af (zn (h := ei ?_))))))
     refine SubW.lst (d := l.d) (by intro o i; rfl) (.r e4) (by decide) (by decide) rfl ?_
     refine zc rfl (zn (h := sn ?_))
     have hlw : l ∈ ws := (e7 l (List.mem_cons_self ..)).1
     (refine x1_1 (hg l hlw) ?_; intro d hd hv)
     refine (c_Store_strike g e5 hd (hlen _) (qq.imp fun b ss' E => .strike E hd hv (fun pt hpt => ?_) fun s pt hpt ho => ⟨l, hlw, ho⟩)).call
     (intro z0r; (refine x1_1 z0r ?_; clear z0r; intro l' hl' ho))
     rcases e8 l' hl' with z | z
     ·cases List.mem_singleton.mp z; exact ho
     ·exact (z pt hpt ho).elim
    ·exact (h1 (by simp)).elim
 ·(intro done; intro l; intro rest; intro hd; intro m; intro σ'; intro z6r; (refine x1_8 z6r ?_; clear z6r; intro os e1 e2 e3 e4 e5 e6 e7 e8 e9))
  have hlw : l ∈ ws := by rw [hd]; simp
  have hlen : done.length + 1 ≤ 200 := by
   have := congrArg List.length hd
   simp at this; lia
  (refine x1_1 (hg l hlw) ?_; intro d hgd hv)
  (refine x0_1 (id e5) ?_; intro z4 r5; (refine x5_0 z4 ?_; clear z4; intro mm nn cl fs es e5'))
  have hs := e5'.s
  refine as_n (by kernel_rfl) (aa (rq (by kernel_rfl) (fun ww => rfl) (em .holds (fun ww => rfl) (fun ww => rfl) (zn (h := zm (q := zc rfl (zn (h := sn ?_))))))))
  rcases Lit.said_cases (l := l) hv.1 hv.2 with ⟨e, z⟩ | ⟨e, z⟩ | ⟨e, z⟩
  ·refine (c_Store_holds g e5 hgd ?_).call
   rw [e]
   refine aa (ri (ad rfl (zn (h := ei (qi (ab ?_))))))
   refine jd rfl ?_
   refine aa (ag (EvW.bool ?_))
   exact q.of (A' := A) (fun ww h => h) e6 true ss σ' (e5.mono fun i hi => .inl hi) (fun ww ww => rfl) (.kept fun s pt hpt => ⟨l, hlw, Lit.all_ok hgd z pt hpt⟩)
  ·refine (c_Store_holds g e5 hgd ?_).call
   rw [e]
   refine aa (ri (ad rfl (zn (h := ei (qi (ab ?_))))))
   refine jn (by decide) ?_
   refine xn (aa (ri (ad rfl (zn (h := ei (qi (ab ?_)))))))
   refine jn (by decide) ?_
   refine xn (xn ?_)
   refine ⟨os, by walk_at "lk", by walk_at "lk", by walk_at "lk", e4, e5, e6, fun l' hl' => ⟨List.mem_append_left _ (e7 l' hl').1, (e7 l' hl').2⟩, fun l' hl' => ?_, by simp; lia⟩
   rcases List.mem_append.mp hl' with hl' | hl'
   ·exact e8 l' hl'
   ·cases List.mem_singleton.mp hl'
    exact .inr (Lit.none_ok hgd z)
  ·refine (c_Store_holds g e5 hgd ?_).call
   rw [e]
   refine aa (ri (ad rfl (zn (h := ei (qi (ab ?_))))))
   refine jn (by decide) ?_
   refine xn (aa (ri (ad rfl (zn (h := ei (qi (ab ?_)))))))
   refine jd rfl ?_
   refine aa (rw_expr (fun ww => rfl) (EvW.append (by walk_at "mf") (zn (h := ?_))))
   refine ⟨_, _, rfl, e4, ?_⟩
   refine zc rfl (zn (h := sn ?_))
   refine ⟨_, _, rfl, e4, by simp; lia, ?_⟩
   refine ls_of rfl (xn (xn ?_))
   refine ⟨os ++ [l], by walk_at "lk", by walk_at "lk", by walk_at "lk", ?_, e5.set (.inr rfl) _, fun i hi => ?_, fun l' hl' => ?_, fun l' hl' => ?_, by simp; lia⟩
   ·rw [List.map_append]; exact gS
   ·have : i < σ.next := by (refine x0_1 h ?_; clear h; intro z5 r; (refine x5_0 z5 ?_; clear z5; intro m n cl fs es h)); exact (h.a i hi).1
    exact ah (by lia) (e6 i hi)
   ·rcases List.mem_append.mp hl' with hl' | hl'
    ·exact ⟨List.mem_append_left _ (e7 l' hl').1, (e7 l' hl').2⟩
    ·cases List.mem_singleton.mp hl'
     exact ⟨by simp, d, hgd, z⟩
   ·rcases List.mem_append.mp hl' with hl' | hl'
    ·rcases e8 l' hl' with y | y
     ·exact .inl (List.mem_append_left _ y)
     ·exact .inr y
    ·exact .inl (List.mem_append_right _ hl')
end
end
section
set_option tactic.hygienic false
section
variable (g : G KK) {A : Nat → Prop} {σ : AH} {S k : Nat} {ss : SS}
noncomputable abbrev jfl (sm : List Nat) (b : Nat) (ws : List Lit) (goal : Lit) : List (Str × AV) := [("number", .d (.int (-1))), ("scope", .d (.tuple (mks sm ++ [.int (b : Nat)]))), ("strength", .d (.str "values")), ("some", .d (.tuple (mks sm))), ("b", .d (.int (b : Nat))), ("wanted", lits ws), ("goal", .d goal.d)]
noncomputable def pjo (ws : List Lit) (goal : Lit) (pt : List Int) : Prop := (∀ l, l ∈ ws → l.ok pt) ↔ goal.ok pt
theorem Lit.neg_ok (l : Lit) (pt : List Int) : l.neg.ok pt ↔ ¬ l.ok pt := by
 unfold Lit.ok
 rw [l.neg_sat, l.neg_x]
theorem c_Joint_prop {C p : Nat} {sm : List Nat} {b : Nat} {ws : List Lit} {goal : Lit} {Q : AV → AH → Prop} (h : St A σ S ss) (hA : A p) (hp : σ.get p = some (.inst C (jfl sm b ws goal)))
  (hC : clsOk (KK g.w.params) C = true) (h1 : attrOk (KK g.w.params) C "wanted" = true) (h2 : attrOk (KK g.w.params) C "goal" = true)
  (hw : ∀ l, l ∈ ws → l.x < ss.dm.length) (hgo : goal.x < ss.dm.length) (hl : ws.length ≤ 200)
  (q : Ends A σ S (PropR (pjo ws goal) ss) Q) : CodeW g (k + 12) (.ref 359) [.r p, .r S] σ Q := by
 have hdom := h.2.1
 have hpn : p < σ.next := h.lt hA
 have hg : ∀ l, l ∈ ws → ∃ d : Int × Int, ss.dm[l.x]? = some d ∧ d.1 ≤ d.2 ∧ d.2 ≤ d.1 + 1 := fun l hl => ⟨_, List.getElem?_eq_getElem (hw l hl), hdom _ (List.getElem_mem _)⟩
 obtain ⟨dg, hdg, hvg⟩ : ∃ d : Int × Int, ss.dm[goal.x]? = some d ∧ d.1 ≤ d.2 ∧ d.2 ≤ d.1 + 1 := ⟨_, List.getElem?_eq_getElem hgo, hdom _ (List.getElem_mem _)⟩
 refine cf2 "self" "store" (by kernel_rfl) (by kernel_rfl) (fun ww ww => rfl) rfl ?_
 (refine x3_0 h.get ?_; intro ww ww ww hs)
 refine aa (ri (ad rfl (em .holds (fun ww => rfl) (fun ww => rfl) (zn (h := zm (q := zc rfl (ae (fun ww => rfl) (zn (h := za (q := sn ?_))))))))))
 refine (c_Store_holds g h hdg ?_).call
 by_cases hg1 : goal.said dg.1 dg.2 = 1
 ·rw [hg1]
  have gok : ∀ pt, Inb pt ss.dm → goal.ok pt := by
   rcases Lit.said_cases (l := goal) hvg.1 hvg.2 with ⟨e, z⟩ | ⟨e, z⟩ | ⟨e, z⟩
   ·exact Lit.all_ok hdg z
   ·rw [e] at hg1; exact absurd hg1 (by decide)
   ·rw [e] at hg1; exact absurd hg1 (by decide)
  refine ei (qi (ab ?_))
  refine jd rfl ?_
  refine aa ?_
  refine rw_for (noFree (by kernel_rfl)) (fun ww ww => rfl) ?_
  refine src_of ?_
  refine ae (fun ww => rfl) (zn (h := za (q := ?_)))
  refine ⟨_, .inl rfl, ?_⟩
  refine ForL.over Lit.d ws (fun done m σ' => ∃ ss', m "self" = some (.r p) ∧ m "store" = some (.r S) ∧ St A σ' S ss' ∧ Fr A σ σ' ∧ Adv ss ss' ∧ (∀ pt, Inb pt ss.dm → pjo ws goal pt → Inb pt ss'.dm) ∧ ∀ l, l ∈ done → ∀ pt, Inb pt ss'.dm → l.ok pt) ?_ ?_ ?_
  ·exact ⟨ss, by walk_at "lk", by walk_at "lk", h, fun ww ww => rfl, Adv.refl ss, fun pt hpt ww => hpt, fun l hl => by cases hl⟩
  ·(intro m; intro σ'; intro z2r; (refine x1_6 z2r ?_; clear z2r; intro ss' e1 e2 e3 e4 e5 e6 e7))
   refine aa (ag (EvW.bool ?_))
   refine q true ss' σ' e3 e4 ⟨e5, fun hb => (by cases hb), fun ww => e6, fun ww s pt hpt => ?_⟩
   have := e5.sgl e3.2.1 s
   exact ⟨fun ww => gok pt hpt, fun ww l hl => e7 l hl pt (by rw [this]; exact hpt)⟩
  ·(intro done; intro l; intro rest; intro hd; intro m; intro σ'; intro z6r; (refine x1_6 z6r ?_; clear z6r; intro ss' e1 e2 e3 e4 e5 e6 e7))
   have hlw : l ∈ ws := by rw [hd]; simp
   have hx : l.x < ss'.dm.length := by rw [e5.len]; exact hw l hlw
   have hx' := List.getElem?_eq_getElem hx
   have hv := e3.2.1 _ (List.getElem_mem hx)
   (refine x3_0 e3.get ?_; intro ww ww ww hs)
   have hp' := (e4 p hA).trans hp
   refine as_n (by kernel_rfl) (aa (ri (rt_not (rt_plain (fun ww ww => rfl) (em .strike (fun ww => rfl) (fun ww => rfl) (zn (h := zm (q := zc rfl (zn (h := zc rfl (ai (zc rfl (ae (fun ww => rfl) (zn (h := za (q := sn ?_))))))))))))))))
   walk_at "frz"
   refine sn ?_
   refine (c_Store_strike g e3 hx' (by simp) fun b ss2 σ2 f1 f2 E => ?_).call
   cases b with
   | false =>
    refine ab ?_
    refine jt ?_
    refine aa (ag (EvW.bool ?_))
    refine q false ss2 σ2 f1 (fun i hi => (f2 i hi).trans (e4 i hi)) ⟨e5.trans (E.adv hx' hv), fun ww pt hpt hP => ?_, fun hb => (by cases hb), fun hb => (by cases hb)⟩
    exact E.no hx' hv pt (e6 pt hpt hP) (hP.mpr (gok pt hpt) l hlw)
   | true =>
    refine ab ?_
    refine jf ?_
    refine xn (xn ?_)
    have Y := (E.yes hx' hv).2
    refine ⟨ss2, by walk_at "lk", by walk_at "lk", f1, fun i hi => (f2 i hi).trans (e4 i hi), e5.trans (E.adv hx' hv), fun pt hpt hP => (Y pt).mpr ⟨e6 pt hpt hP, hP.mpr (gok pt hpt) l hlw⟩, fun l' hl' pt hpt => ?_⟩
    rcases List.mem_append.mp hl' with hl' | hl'
    ·exact e7 l' hl' pt ((Y pt).mp hpt).1
    ·cases List.mem_singleton.mp hl'; exact ((Y pt).mp hpt).2
 ·refine ei (qi (ab ?_))
  refine jn hg1 ?_
  refine xn (aa (rq (by kernel_rfl) (fun ww => rfl) (EvW.lst0 (aa ?_))))
  refine rw_for (noFree (by kernel_rfl)) (fun ww ww => rfl) ?_
  refine src_of ?_
  refine ae (fun ww => rfl) (zn (h := za (q := ?_)))
  refine ⟨_, .inl rfl, ?_⟩
  refine ForL.over Lit.d ws (fun done m σ' => ∃ os : List Lit, m "self" = some (.r p) ∧ m "store" = some (.r S) ∧ m "opened" = some (.r σ.next) ∧ σ'.get σ.next = some (.list (os.map Lit.d)) ∧ St (fun i => A i ∨ i = σ.next) σ' S ss ∧ Fr A σ σ' ∧
   (∀ l, l ∈ os → l ∈ done ∧ ∃ d : Int × Int, ss.dm[l.x]? = some d ∧ d.1 < d.2) ∧ (∀ l, l ∈ done → l ∈ os ∨ ∀ pt, Inb pt ss.dm → l.ok pt) ∧ os.length ≤ done.length) ?_ ?_ ?_
  ·exact ⟨[], by walk_at "lk", by walk_at "lk", by walk_at "lk", gP, h.push _, fun i hi => al (h.lt hi) rfl, fun l hl => (by cases hl), fun l hl => (by cases hl), Nat.le_refl _⟩
  ·(intro m; intro σ'; intro z2r; (refine x1_8 z2r ?_; clear z2r; intro os e1 e2 e3 e4 e5 e6 e7 e8 e9))
   have hp' : σ'.get p = some (.inst C (jfl sm b ws goal)) := (e6 p hA).trans hp
   (refine x3_0 e5.get ?_; intro ww ww ww hs)
   have nos : os ≠ [] → Sgl ss.dm → False := by
    intro hne s
    cases os with
    | nil => exact hne rfl
    | cons l r =>
     (refine x0_1 (e7 l (List.mem_cons_self ..)) ?_; intro ww z1; refine x1_1 z1 ?_; clear z1; intro d hd hlt)
     have := s d (List.mem_of_getElem? hd)
     lia
   refine aa (rq (by kernel_rfl) (fun ww => rfl) (ec .tuple (by kernel_rfl) (fun ww => rfl) (zc rfl ?_)))
   refine rv_comp (by kernel_rfl) (fun ww ww => rfl) ?_
   refine src_of ?_
   refine ae (fun ww => rfl) (zn (h := za (q := ?_)))
   refine ⟨_, .inl rfl, ?_⟩
   refine cF Lit.d (fun l => if ((os.map Lit.d).any fun y => PyData.eqv y l.d) = true then none else some l.d) (fun m => m "opened" = some (.r σ.next)) ws (by simp; lia) (by walk_at "lk") ?_ ?_
   ·intro l hl m hm
    refine aN (by kernel_rfl) (IfsW.one (ad rfl (zn (h := zn (h := ?_)))))
    refine CmpW.notInL (x := l.d) rfl (.r e4) l.shp.of Lit.shp_all ?_
    refine ab ?_
    cases hb : ((os.map Lit.d).any fun y => PyData.eqv y l.d)
    ·refine jt ?_
     refine zn (h := ?_)
     exact ⟨rfl, by walk_at "lk", _, rfl, if_neg Bool.false_ne_true⟩
    ·exact jf ⟨rfl, by walk_at "lk", if_pos rfl⟩
   ·intro m' hm'
    have hlen : ∀ os : List Lit, (ws.filterMap fun l => if ((os.map Lit.d).any fun y => PyData.eqv y l.d) = true then none else some l.d).length ≤ 200 := fun os => Nat.le_trans (List.length_filterMap_le _ _) hl
    have qq := q.of (A' := fun i => A i ∨ i = σ.next) (fun i hi => .inl hi) e6
    have kept : os ≠ [] → Q (.d (.bool true)) σ' := fun hne => qq true ss σ' e5 (fun ww ww => rfl) (.kept fun s => (nos hne s).elim)
    rw [List.nil_append]
    refine sn ?_
    refine cL rfl (Nat.le_trans (hlen os) (by lia)) ?_
    refine aa (ri (ad rfl (ec .len (by kernel_rfl) (fun ww => rfl) (zc rfl (zn (h := sn ?_))))))
    have e9' : os.length ≤ 200 := Nat.le_trans e9 hl
    refine CallW.lenL (.r e4) (by rw [List.length_map]; lia) ?_
    refine ei (qi (ab ?_))
    by_cases h0 : os.length = 0
    ·have z : os = [] := List.eq_nil_of_length_eq_zero h0
     subst z
     refine jd (by simp) ?_
     refine aa (ag (em .strike (fun ww => rfl) (fun ww => rfl) (zn (h := zm (q := zc rfl (ae (fun ww => rfl) (zn (h := za (q := zc rfl (zn (h := sn ?_)))))))))))
     have all : ∀ l, l ∈ ws → ∀ pt, Inb pt ss.dm → l.ok pt := fun l hl => by
      rcases e8 l hl with z | z
      ·cases z
      ·exact z
     refine (c_Store_strike g e5 hdg (Nat.le_trans (hlen _) (by lia)) (qq.imp fun b ss' E => .strike E hdg hvg (fun pt hpt hP => hP.mp fun l hl => all l hl pt hpt) fun s pt hpt ho => ⟨fun ww => ho, fun ww l hl => all l hl pt hpt⟩)).call
    ·refine jn (by rw [List.length_map]; lia) ?_
     have ne : os ≠ [] := fun z => h0 (by rw [z]; rfl)
     refine xn (aa (ri (rt_and (ad rfl (ec .len (by kernel_rfl) (fun ww => rfl) (zc rfl (zn (h := sn ?_))))))))
     refine CallW.lenL (.r e4) (by rw [List.length_map]; lia) ?_
     refine ei (qi (ab ?_))
     by_cases h1 : os.length = 1
     ·refine jd (by rw [List.length_map]; lia) ?_
      refine rt_and (ad rfl (em .holds (fun ww => rfl) (fun ww => rfl) (zn (h := zm (q := zc rfl (ae (fun ww => rfl) (zn (h := za (q := sn ?_)))))))))
      refine (c_Store_holds g e5 hdg ?_).call
      refine rv_un (ei (UnW.neg (qi (ab ?_))))
      by_cases hg2 : goal.said dg.1 dg.2 = -1
      ·refine jd hg2 ?_
       refine TsW.and0 (jt (aa (ag (em .strike (fun ww => rfl) (fun ww => rfl) (zn (h := zm (q := zc rfl (ec .negation (by kernel_rfl) (fun ww => rfl) (zc rfl (af (zn (h := ei ?_))))))))))))
       have gno : ∀ pt, Inb pt ss.dm → ¬ goal.ok pt := by
        rcases Lit.said_cases (l := goal) hvg.1 hvg.2 with ⟨e, z⟩ | ⟨e, z⟩ | ⟨e, z⟩
        ·rw [e] at hg2; exact absurd hg2 (by decide)
        ·exact Lit.none_ok hdg z
        ·rw [e] at hg2; exact absurd hg2 (by decide)
       obtain ⟨l, rfl⟩ : ∃ l, os = [l] := len1 h1
       refine SubW.lst (d := l.d) (by intro o i; rfl) (.r e4) (by decide) (by decide) rfl ?_
       refine sn ?_
       refine (c_negation g ?_).call
       refine zc rfl (aj (zn (h := ai (zc rfl (ec .negation (by kernel_rfl) (fun ww => rfl) (zc rfl (ae (fun ww => rfl) (zn (h := za (q := sn ?_))))))))))
       refine (c_negation g ?_).call
       refine sn ?_
       walk_at "frz"
       refine BinW.cat (by have := hlen [l]; simp at this ⊢; lia) ?_
       refine sn ?_
       have hlw : l ∈ ws := (e7 l (List.mem_cons_self ..)).1
       (refine x1_1 (hg l hlw) ?_; intro d hd hv)
       refine (c_Store_strike g (l := l.neg) e5 (by rw [Lit.neg_x]; exact hd) (by have := hlen [l]; simp at this ⊢; lia) (qq.imp fun b ss' E => .strike E (by rw [Lit.neg_x]; exact hd) hv (fun pt hpt hP => ?_) fun s => (nos ne s).elim)).call
       rw [Lit.neg_ok]
       intro ho
       refine gno pt hpt (hP.mp fun l' hl' => ?_)
       rcases e8 l' hl' with z | z
       ·cases List.mem_singleton.mp z; exact ho
       ·exact z pt hpt
      ·refine jn hg2 ?_
       refine jf (xn (aa (ag (EvW.bool ?_))))
       exact kept ne
     ·refine jn (by rw [List.length_map]; lia) ?_
      refine jf (xn (aa (ag (EvW.bool ?_))))
      exact kept ne
  ·(intro done; intro l; intro rest; intro hd; intro m; intro σ'; intro z6r; (refine x1_8 z6r ?_; clear z6r; intro os e1 e2 e3 e4 e5 e6 e7 e8 e9))
   have hlw : l ∈ ws := by rw [hd]; simp
   have hp' : σ'.get p = some (.inst C (jfl sm b ws goal)) := (e6 p hA).trans hp
   have hlen : done.length + 1 ≤ 200 := by
    have := congrArg List.length hd
    simp at this; lia
   (refine x1_1 (hg l hlw) ?_; intro d hgd hv)
   (refine x3_0 e5.get ?_; intro ww ww ww hs)
   refine as_n (by kernel_rfl) (aa (rq (by kernel_rfl) (fun ww => rfl) (em .holds (fun ww => rfl) (fun ww => rfl) (zn (h := zm (q := zc rfl (zn (h := sn ?_))))))))
   refine (c_Store_holds g e5 hgd ?_).call
   rcases Lit.said_cases (l := l) hv.1 hv.2 with ⟨e, z⟩ | ⟨e, z⟩ | ⟨e, z⟩
   ·rw [e]
    refine aa (ri (ad rfl (zn (h := rv_un (ei (UnW.neg (qi (ab ?_))))))))
    refine jn (by decide) ?_
    refine xn (aa (ri (ad rfl (zn (h := ei (qi (ab ?_)))))))
    refine jn (by decide) ?_
    refine xn (xn ?_)
    refine ⟨os, by walk_at "lk", by walk_at "lk", by walk_at "lk", e4, e5, e6, fun l' hl' => ⟨List.mem_append_left _ (e7 l' hl').1, (e7 l' hl').2⟩, fun l' hl' => ?_, by simp; lia⟩
    rcases List.mem_append.mp hl' with hl' | hl'
    ·exact e8 l' hl'
    ·cases List.mem_singleton.mp hl'
     exact .inr (Lit.all_ok hgd z)
   ·rw [e]
    refine aa (ri (ad rfl (zn (h := rv_un (ei (UnW.neg (qi (ab ?_))))))))
    refine jd rfl ?_
    refine aa (ag (em .strike (fun ww => rfl) (fun ww => rfl) (zn (h := zm (q := zc rfl (ec .negation (by kernel_rfl) (fun ww => rfl) (zc rfl (ae (fun ww => rfl) (zn (h := za (q := sn ?_)))))))))))
    refine (c_negation g ?_).call
    refine zc rfl (ai (zc rfl (ec .negation (by kernel_rfl) (fun ww => rfl) (zc rfl (zn (h := sn ?_))))))
    refine (c_negation g ?_).call
    refine sn ?_
    walk_at "frz"
    refine sn ?_
    refine (c_Store_strike g (l := goal.neg) e5 (by rw [Lit.neg_x]; exact hdg) (by simp) ((q.of (A' := fun i => A i ∨ i = σ.next) (fun i hi => .inl hi) e6).imp fun b ss' E => .strike E (by rw [Lit.neg_x]; exact hdg) hvg (fun pt hpt hP => ?_) fun s pt hpt ho => ?_)).call
    ·rw [Lit.neg_ok]
     exact fun hgk => Lit.none_ok hgd z pt hpt (hP.mpr hgk l hlw)
    ·rw [Lit.neg_ok] at ho
     exact ⟨fun hall => (Lit.none_ok hgd z pt hpt (hall l hlw)).elim, fun hgk => (ho hgk).elim⟩
   ·rw [e]
    refine aa (ri (ad rfl (zn (h := rv_un (ei (UnW.neg (qi (ab ?_))))))))
    refine jn (by decide) ?_
    refine xn (aa (ri (ad rfl (zn (h := ei (qi (ab ?_)))))))
    refine jd rfl ?_
    refine aa (rw_expr (fun ww => rfl) (EvW.append (by walk_at "mf") (zn (h := ?_))))
    refine ⟨_, _, rfl, e4, ?_⟩
    refine zc rfl (zn (h := sn ?_))
    refine ⟨_, _, rfl, e4, by simp; lia, ?_⟩
    refine ls_of rfl (xn (xn ?_))
    refine ⟨os ++ [l], by walk_at "lk", by walk_at "lk", by walk_at "lk", ?_, e5.set (.inr rfl) _, fun i hi => ah (Nat.ne_of_lt (h.lt hi)) (e6 i hi), fun l' hl' => ?_, fun l' hl' => ?_, by simp; lia⟩
    ·rw [List.map_append]; exact gS
    ·rcases List.mem_append.mp hl' with hl' | hl'
     ·exact ⟨List.mem_append_left _ (e7 l' hl').1, (e7 l' hl').2⟩
     ·cases List.mem_singleton.mp hl'
      exact ⟨by simp, d, hgd, z⟩
    ·rcases List.mem_append.mp hl' with hl' | hl'
     ·rcases e8 l' hl' with y | y
      ·exact .inl (List.mem_append_left _ y)
      ·exact .inr y
     ·exact .inl (List.mem_append_right _ hl')
end
end
section
set_option tactic.hygienic false
local macro_rules | `(tactic| walk_at "slice") => `(tactic| with_reducible first | refine EvW.takeT ?_ | refine EvW.dropT ?_)
theorem mem_int {ns : List Int} {v : Int} : ((ns.map PyData.int).any fun y => PyData.eqv y (.int v)) = true ↔ v ∈ ns := by
 rw [List.any_map, List.any_eq_true]
 constructor
 ·(intro z0r; (refine x1_1 z0r ?_; clear z0r; intro x hx h))
  have : PyData.eqv (.int x) (.int v) = true := h
  rw [eqvI] at this
  rw [← of_decide_eq_true this]; exact hx
 ·intro h
  exact ⟨v, h, by show PyData.eqv (.int v) (.int v) = true; rw [eqvI]; simp⟩
theorem shp_ints {ns : List Int} : shaped (.tuple (ns.map .int)) = true := Shp.of (Shp.tuple (n := 0) fun d hd => by
 (refine x1_1 (List.mem_map.mp hd) ?_; intro l ww z1; obtain rfl := z1)
 exact Shp.int)
section
variable (g : G KK) {A : Nat → Prop} {σ : AH} {S k : Nat} {ss : SS}
theorem c_Clause_told {p : Nat} {ps ns : List Nat} {ws : List Lit} {Q : AV → AH → Prop} (hp : σ.get p = some (.inst 338 (cfl ps ns (lits ws)))) (q : Q (.d (.tuple [.str "clause", .tuple (mks ps), .tuple (mks ns)])) σ) : CodeW g (k + 1) (.ref 335) [.r p] σ Q := by
 refine cf1 "self" (by kernel_rfl) (by kernel_rfl) (fun ww => rfl) rfl ?_
 refine aa (ag (ai (zc rfl (eS (zc rfl (ae (fun ww => rfl) (zn (h := za (q := zc rfl (ae (fun ww => rfl) (zn (h := za (q := sn ?_)))))))))))))
 walk_at "frz"
 exact q
theorem c_Clause_check {p : Nat} {ps ns : List Nat} {ws : List Lit} {vs : List Int} {Q : AV → AH → Prop} (hp : σ.get p = some (.inst 338 (cfl ps ns (lits ws)))) (hl : ps.length ≤ 100) (hv : vs.length ≤ 1000)
  (q : ∀ b, (b = true ↔ 1 ∈ vs.take ps.length ∨ 0 ∈ vs.drop ps.length) → Q (.d (.bool b)) σ) : CodeW g (k + 1) (.ref 328) [.r p, .d (.tuple (vs.map .int))] σ Q := by
 refine cf2 "self" "values" (by kernel_rfl) (by kernel_rfl) (fun ww ww => rfl) rfl ?_
 refine aa (rq (by kernel_rfl) (fun ww => rfl) (ec .len (by kernel_rfl) (fun ww => rfl) (zc rfl (ae (fun ww => rfl) (zn (h := za (q := sn ?_)))))))
 refine CallW.lenT (by simp; lia) ?_
 rw [List.length_map]
 refine aa (ag (rv_or (rv_cmp rfl (ei (EvW.takeT (zn (h := ?_)))))))
 refine ⟨_, rfl, by simp; lia, ?_⟩
 refine zn (h := ?_)
 refine ⟨_, rfl, ?_⟩
 rw [← List.map_take]
 refine CmpW.inT (x := .int 1) rfl rfl rfl shp_ints ?_
 refine ab ?_
 cases e : (((vs.take ps.length).map PyData.int).any fun y => PyData.eqv y (.int 1))
 ·refine jf ?_
  refine EvW.and1 (rv_cmp rfl (ei (EvW.dropT (zn (h := ?_)))))
  refine ⟨_, rfl, by simp; lia, ?_⟩
  refine zn (h := ?_)
  refine ⟨_, rfl, ?_⟩
  rw [← List.map_drop]
  refine CmpW.inT (x := .int 0) rfl rfl rfl shp_ints ?_
  refine q _ ?_
  rw [mem_int, or_iff_right]
  intro z
  rw [mem_int.mpr z] at e
  cases e
 ·refine jt ?_
  exact q true ⟨fun ww => .inl (mem_int.mp e), fun ww => rfl⟩
theorem c_Joint_init {C i b : Nat} {sm : List Nat} {ws : List Lit} {goal : Lit} {Q : AV → AH → Prop} (hC : clsOk (KK g.w.params) C = true) (hn : (["number", "scope", "strength", "some", "b", "wanted", "goal"].all fun x => attrOk (KK g.w.params) C (Str.ofString x)) = true)
  (h : σ.get i = some (.inst C [])) (hl : sm.length ≤ 100) (hw : ws.length ≤ 3)
  (q : ∀ σ' ws', σ'.next = σ.next → σ'.get i = some (.inst C (jfl sm b ws' goal)) → (∀ j, j ≠ i → σ'.get j = σ.get j) → (∀ l, l ∈ ws' ↔ l ∈ ws) → ws'.length ≤ 3 → Q (.d .none) σ') :
  CodeW g (k + 6) (.ref 354) [.r i, .d (.tuple (mks sm)), .d (.int (b : Nat)), lits ws, .d goal.d] σ Q := by
 simp only [List.all_cons, List.all_nil, Bool.and_true, Bool.and_eq_true] at hn
 (refine x0_6 hn ?_; clear hn; intro n1 n2 n3 n4 n5 n6 n7)
 refine cf5 "self" "some" "b" "wanted" "goal" (by kernel_rfl) (by kernel_rfl) (fun ww ww ww ww ww => rfl) rfl ?_
 refine aa ?_
 refine rw_expr (fun ww => rfl) ?_
 refine ec_init .Propagator (f := 262) (by kernel_rfl) (by kernel_rfl) (by kernel_rfl) (by kernel_rfl) (by kernel_rfl) (by intro env; rfl) (by intro env; rfl) ?_
 refine zc rfl (zn (h := zc rfl (aj (ec .tuple (by kernel_rfl) (fun ww => rfl) (zc rfl (zn (h := sn (CallW.tupleT (ai (zc rfl (zn (h := sn ?_))))))))))))
 walk_at "frz"
 refine BinW.cat (by simp; lia) ?_
 refine zc rfl (eS (sn ?_))
 refine (c_Prop_init g hC n1 n2 n3 h fun σ1 en eg ek => ?_).call
 refine ls_of rfl (aa (rw_sta (fun ww => rfl) (ec .tuple (by kernel_rfl) (fun ww => rfl) (zc rfl (zn (h := sn (CallW.tupleT (zn (h := zsa (hl := Nat.le_of_ble_eq_true rfl) (q := aa (rw_sta (fun ww => rfl) (zn (h := zn (h := zsa (hl := Nat.le_of_ble_eq_true rfl) (q := aa (rw_sta (fun ww => rfl) ?_))))))))))))))))
 refine EvW.sortedSet (by kernel_rfl) (by kernel_rfl) (by intro env; rfl) (by intro env; rfl) ?_
 refine zn (h := ?_)
 refine ⟨ws, rfl, hw, fun ws' hm hl' => ?_⟩
 refine zn (h := zsa (hl := Nat.le_of_ble_eq_true rfl) (q := aa (rw_sta (fun ww => rfl) (zn (h := zn (h := zsa (hl := Nat.le_of_ble_eq_true rfl) (q := xn ?_)))))))
 exact q _ ws' en gS (fun j hj => ah hj (ah hj (ah hj (ah hj (ek j hj))))) hm hl'
theorem c_AllOf {b : Nat} {sm : List Nat} {Q : AV → AH → Prop} (hl : sm.length ≤ 3)
  (q : ∀ σ' ws', σ.next < σ'.next → σ'.get σ.next = some (.inst 393 (jfl sm b ws' (l1 b))) → (∀ j, j < σ.next → σ'.get j = σ.get j) → (∀ l, l ∈ ws' ↔ l ∈ sm.map l1) → ws'.length ≤ 3 → Q (.r σ.next) σ') :
  CodeW g (k + 8) (.ref 393) [.d (.tuple (mks sm)), .d (.int (b : Nat))] σ Q := by
 refine CodeW.new (fI := 376) (by kernel_rfl) (by kernel_rfl) (by kernel_rfl) ?_
 refine cf3 "self" "some" "b" (by kernel_rfl) (by kernel_rfl) (fun ww ww ww => rfl) rfl ?_
 refine aa ?_
 refine rw_expr (fun ww => rfl) ?_
 refine ec_init .Joint (f := 354) (by kernel_rfl) (by kernel_rfl) (by kernel_rfl) (by kernel_rfl) (by kernel_rfl) (by intro env; rfl) (by intro env; rfl) ?_
 refine zc rfl (zn (h := zc rfl (zn (h := zc rfl (zn (h := zc rfl ?_))))))
 refine rv_comp (by kernel_rfl) (fun ww ww => rfl) ?_
 refine src_of ?_
 refine zn (h := ?_)
 refine ⟨_, .inr rfl, ?_⟩
 refine cF (fun x : Nat => .int (x : Nat)) (fun x => some (l1 x).d) (fun ww => True) sm (by simp; lia) trivial ?_ ?_
 ·intro a ha m ww
  refine aN (by kernel_rfl) (IfsW.nil (jt (ec .is_one (by kernel_rfl) (fun ww => rfl) (zc rfl (zn (h := sn ?_))))))
  exact (c_is_one g ⟨rfl, trivial, _, rfl, rfl⟩).call
 intro m' ww
 rw [List.nil_append, fmS, show sm.map (fun x => (l1 x).d) = (sm.map l1).map Lit.d by rw [List.map_map]; rfl]
 refine zc rfl (ec .is_one (by kernel_rfl) (fun ww => rfl) (zc rfl (zn (h := sn ?_))))
 refine (c_is_one g ?_).call
 refine sn ?_
 refine (c_Joint_init g (by kernel_rfl) (by kernel_rfl) gP (by lia) (by simpa using hl) fun σ' ws' e1 e2 e3 e4 e5 => ?_).call
 refine ls_of rfl (xn ?_)
 exact ⟨rfl, q σ' ws' (by rw [e1]; exact Nat.lt_succ_self _) e2 (fun j hj => (e3 j (Nat.ne_of_lt hj)).trans (AH.get_push_old hj)) e4 e5⟩
end
end
section
set_option tactic.hygienic false
local macro_rules | `(tactic| walk_at "slice") => `(tactic| with_reducible refine EvW.initT ?_)
theorem eqvB {a b : Bool} : PyData.eqv (.bool a) (.bool b) = true ↔ a = b := by
 cases a <;> cases b <;> simp [PyData.eqv]
section
variable (g : G KK) {A : Nat → Prop} {σ : AH} {S k : Nat} {ss : SS}
theorem c_AnyOf {b : Nat} {sm : List Nat} {Q : AV → AH → Prop} (hl : sm.length ≤ 3)
  (q : ∀ σ' ws', σ.next < σ'.next → σ'.get σ.next = some (.inst 424 (jfl sm b ws' (l0 b))) → (∀ j, j < σ.next → σ'.get j = σ.get j) → (∀ l, l ∈ ws' ↔ l ∈ sm.map l0) → ws'.length ≤ 3 → Q (.r σ.next) σ') :
  CodeW g (k + 8) (.ref 424) [.d (.tuple (mks sm)), .d (.int (b : Nat))] σ Q := by
 refine CodeW.new (fI := 407) (by kernel_rfl) (by kernel_rfl) (by kernel_rfl) ?_
 refine cf3 "self" "some" "b" (by kernel_rfl) (by kernel_rfl) (fun ww ww ww => rfl) rfl ?_
 refine aa ?_
 refine rw_expr (fun ww => rfl) ?_
 refine ec_init .Joint (f := 354) (by kernel_rfl) (by kernel_rfl) (by kernel_rfl) (by kernel_rfl) (by kernel_rfl) (by intro env; rfl) (by intro env; rfl) ?_
 refine zc rfl (zn (h := zc rfl (zn (h := zc rfl (zn (h := zc rfl ?_))))))
 refine rv_comp (by kernel_rfl) (fun ww ww => rfl) ?_
 refine src_of ?_
 refine zn (h := ?_)
 refine ⟨_, .inr rfl, ?_⟩
 refine cF (fun x : Nat => .int (x : Nat)) (fun x => some (l0 x).d) (fun ww => True) sm (by simp; lia) trivial ?_ ?_
 ·intro a ha m ww
  refine aN (by kernel_rfl) (IfsW.nil (jt (ec .is_nought (by kernel_rfl) (fun ww => rfl) (zc rfl (zn (h := sn ?_))))))
  exact (c_is_nought g ⟨rfl, trivial, _, rfl, rfl⟩).call
 intro m' ww
 rw [List.nil_append, fmS, show sm.map (fun x => (l0 x).d) = (sm.map l0).map Lit.d by rw [List.map_map]; rfl]
 refine zc rfl (ec .is_nought (by kernel_rfl) (fun ww => rfl) (zc rfl (zn (h := sn ?_))))
 refine (c_is_nought g ?_).call
 refine sn ?_
 refine (c_Joint_init g (by kernel_rfl) (by kernel_rfl) gP (by lia) (by simpa using hl) fun σ' ws' e1 e2 e3 e4 e5 => ?_).call
 refine ls_of rfl (xn ?_)
 exact ⟨rfl, q σ' ws' (by rw [e1]; exact Nat.lt_succ_self _) e2 (fun j hj => (e3 j (Nat.ne_of_lt hj)).trans (AH.get_push_old hj)) e4 e5⟩
theorem c_All_check {p : Nat} {vs : List Int} {v : Int} {Q : AV → AH → Prop} (hv : vs.length ≤ 1000)
  (q : ∀ b, (b = true ↔ (0 ∉ vs ↔ v = 1)) → Q (.d (.bool b)) σ) : CodeW g (k + 1) (.ref 383) [.r p, .d (.tuple (vs.map .int ++ [.int v]))] σ Q := by
 refine cf2 "self" "values" (by kernel_rfl) (by kernel_rfl) (fun ww ww => rfl) rfl ?_
 refine aa (ag (rv_cmp rfl (rv_cmp rfl (ei (EvW.initT (zn (h := ?_)))))))
 refine ⟨_, _, rfl, by simp; lia, ?_⟩
 refine rv_un (ei (UnW.neg ?_))
 refine ⟨rfl, ?_⟩
 refine CmpW.notInT (x := .int 0) rfl rfl rfl shp_ints ?_
 refine rv_cmp rfl (af (zn (h := rv_un (ei (UnW.neg ?_)))))
 refine SubW.tl (by intro o i; rfl) (by simp; lia) ?_
 refine ei (qi ?_)
 refine CmpW.eq (x := .bool _) (y := .bool _) rfl rfl rfl rfl ?_
 refine q _ ?_
 rw [eqvB]
 cases e : ((vs.map PyData.int).any fun y => PyData.eqv y (.int 0))
 ·have h : ¬ 0 ∈ vs := fun h => by rw [mem_int.mpr h] at e; cases e
  simp [h]
 ·have h : 0 ∈ vs := mem_int.mp e
  simp [h]
theorem c_Any_check {p : Nat} {vs : List Int} {v : Int} {Q : AV → AH → Prop} (hv : vs.length ≤ 1000)
  (q : ∀ b, (b = true ↔ (1 ∈ vs ↔ v = 1)) → Q (.d (.bool b)) σ) : CodeW g (k + 1) (.ref 414) [.r p, .d (.tuple (vs.map .int ++ [.int v]))] σ Q := by
 refine cf2 "self" "values" (by kernel_rfl) (by kernel_rfl) (fun ww ww => rfl) rfl ?_
 refine aa (ag (rv_cmp rfl (rv_cmp rfl (ei (EvW.initT (zn (h := ?_)))))))
 refine ⟨_, _, rfl, by simp; lia, ?_⟩
 refine rv_un (ei (UnW.neg ?_))
 refine ⟨rfl, ?_⟩
 refine CmpW.inT (x := .int 1) rfl rfl rfl shp_ints ?_
 refine rv_cmp rfl (af (zn (h := rv_un (ei (UnW.neg ?_)))))
 refine SubW.tl (by intro o i; rfl) (by simp; lia) ?_
 refine ei (qi ?_)
 refine CmpW.eq (x := .bool _) (y := .bool _) rfl rfl rfl rfl ?_
 refine q _ ?_
 rw [eqvB]
 cases e : ((vs.map PyData.int).any fun y => PyData.eqv y (.int 1))
 ·have h : ¬ 1 ∈ vs := fun h => by rw [mem_int.mpr h] at e; cases e
  simp [h, eq_comm]
 ·have h : 1 ∈ vs := mem_int.mp e
  simp [h]
theorem c_All_told {p b : Nat} {sm : List Nat} {ws : List Lit} {goal : Lit} {Q : AV → AH → Prop} (hp : σ.get p = some (.inst 393 (jfl sm b ws goal))) (q : Q (.d (.tuple [.str "and", .tuple (mks sm), .int (b : Nat)])) σ) : CodeW g (k + 1) (.ref 390) [.r p] σ Q := by
 refine cf1 "self" (by kernel_rfl) (by kernel_rfl) (fun ww => rfl) rfl ?_
 refine aa (ag (ai (zc rfl (eS (zc rfl (ae (fun ww => rfl) (zn (h := za (q := zc rfl (ae (fun ww => rfl) (zn (h := za (q := sn ?_)))))))))))))
 walk_at "frz"
 exact q
theorem c_Any_told {p b : Nat} {sm : List Nat} {ws : List Lit} {goal : Lit} {Q : AV → AH → Prop} (hp : σ.get p = some (.inst 424 (jfl sm b ws goal))) (q : Q (.d (.tuple [.str "or", .tuple (mks sm), .int (b : Nat)])) σ) : CodeW g (k + 1) (.ref 421) [.r p] σ Q := by
 refine cf1 "self" (by kernel_rfl) (by kernel_rfl) (fun ww => rfl) rfl ?_
 refine aa (ag (ai (zc rfl (eS (zc rfl (ae (fun ww => rfl) (zn (h := za (q := zc rfl (ae (fun ww => rfl) (zn (h := za (q := sn ?_)))))))))))))
 walk_at "frz"
 exact q
end
end
section
set_option tactic.hygienic false
theorem perm_sum {α : Type} {l l' : List α} (h : l.Perm l') (f : α → Int) : (l.map f).sum = (l'.map f).sum := by
 induction h with
 | nil => rfl
 | cons x _ ih => simp [ih]
 | swap x y l => simp; lia
 | trans _ _ ih1 ih2 => exact ih1.trans ih2
noncomputable def cnt3 (a b c x : Nat) : Nat := [(a : Int), b, c].countP (· == (x : Int))
theorem cnt3_eq (a b c x : Nat) : cnt3 a b c x = (if a = x then 1 else 0) + (if b = x then 1 else 0) + (if c = x then 1 else 0) := by
 unfold cnt3
 simp only [List.countP_cons, List.countP_nil]
 have h : ∀ u : Nat, (((u : Int) == (x : Int)) = true) = (u = x) := fun u => by simp; lia
 simp only [h]; lia
noncomputable def odd0 (a b c : Nat) : List Nat := [a, b, c].filter fun x => !decide ((cnt3 a b c x : Int) = 2)
noncomputable def par (odd : List Nat) (a b c : Nat) : Prop := (∀ f : Nat → Int, (odd.map f).sum % 2 = (f a + f b + f c) % 2) ∧ (∀ x, x ∈ odd → x = a ∨ x = b ∨ x = c) ∧ odd.length ≤ 3
theorem par_of {odd : List Nat} {a b c : Nat} (h : odd.Perm (odd0 a b c)) (h3 : ¬ (cnt3 a b c a : Int) = 3) : par odd a b c := by
 refine ⟨fun f => ?_, fun x hx => ?_, ?_⟩
 ·rw [perm_sum h]
  unfold odd0
  simp only [cnt3_eq] at h3 ⊢
  by_cases h1 : a = b
  ·subst h1
   by_cases h2 : c = a
   ·subst h2; simp at h3
   ·have h2' : ¬ a = c := fun z => h2 z.symm
    simp [h2, h2']; lia
  ·have h1' : ¬ b = a := fun z => h1 z.symm
   by_cases h2 : c = a
   ·subst h2
    simp [h1, h1']; lia
   ·have h2' : ¬ a = c := fun z => h2 z.symm
    by_cases h4 : c = b
    ·subst h4
     simp [h1, h1']; lia
    ·have h4' : ¬ b = c := fun z => h4 z.symm
     simp [h1, h1', h2, h2', h4, h4']; lia
 ·have := h.mem_iff.mp hx
  unfold odd0 at this
  have := (List.mem_filter.mp this).1
  simpa using this
 ·rw [h.length_eq]
  exact List.length_filter_le _ _
theorem par_three {a b c : Nat} (h3 : (cnt3 a b c a : Int) = 3) : par [a] a b c := by
 rw [cnt3_eq] at h3
 have h1 : b = a := by
  apply Classical.byContradiction; intro h
  rw [if_pos rfl, if_neg h] at h3; split at h3 <;> lia
 have h2 : c = a := by
  apply Classical.byContradiction; intro h
  rw [if_pos rfl, if_pos h1, if_neg h] at h3; lia
 subst h1; subst h2
 exact ⟨fun f => by simp; lia, fun x hx => .inl (List.mem_singleton.mp hx), by simp⟩
theorem filterMap_if {α β : Type} (p : α → Prop) [DecidablePred p] (h : α → β) : ∀ l : List α, l.filterMap (fun x => if p x then none else some (h x)) = (l.filter fun x => !decide (p x)).map h
 | [] => rfl
 | a :: r => by
  by_cases hp : p a
  ·simp [hp, filterMap_if p h r]
  ·simp [hp, filterMap_if p h r]
theorem nats_of {ns' : List Int} {l : List Nat} (h : ns'.Perm (l.map fun x : Nat => (x : Int))) : ∃ l' : List Nat, l'.Perm l ∧ ns' = l'.map fun x : Nat => (x : Int) := by
 refine ⟨ns'.map Int.toNat, ?_, ?_⟩
 ·have := h.map Int.toNat
  rw [List.map_map] at this
  have e : (Int.toNat ∘ fun x : Nat => (x : Int)) = id := by funext x; simp
  rw [e, List.map_id] at this
  exact this
 ·rw [List.map_map]
  have : ∀ x ∈ ns', ((fun x : Nat => (x : Int)) ∘ Int.toNat) x = x := fun x hx => by
   (refine x1_1 (List.mem_map.mp (h.mem_iff.mp hx)) ?_; intro y ww z1; obtain rfl := z1)
   simp
  rw [List.map_congr_left this]; simp
end
section
set_option tactic.hygienic false
section
variable (g : G KK) {A : Nat → Prop} {σ : AH} {S k : Nat} {ss : SS}
noncomputable abbrev xfl (a b c : Nat) (odd : List Nat) : List (Str × AV) := [("number", .d (.int (-1))), ("scope", .d (.tuple (mks [a, b, c]))), ("strength", .d (.str "values")), ("odd", .d (.list (mks odd)))]
theorem c_Xor {a b c : Nat} {Q : AV → AH → Prop}
  (q : ∀ σ' odd, σ.next < σ'.next → σ'.get σ.next = some (.inst 462 (xfl a b c odd)) → (∀ j, j < σ.next → σ'.get j = σ.get j) → par odd a b c → Q (.r σ.next) σ') :
  CodeW g (k + 6) (.ref 462) [.d (.int (a : Nat)), .d (.int (b : Nat)), .d (.int (c : Nat))] σ Q := by
 refine CodeW.new (fI := 438) (by kernel_rfl) (by kernel_rfl) (by kernel_rfl) ?_
 refine cf4 "self" "a" "b" "c" (by kernel_rfl) (by kernel_rfl) (fun ww ww ww ww => rfl) rfl ?_
 refine aa ?_
 refine rw_expr (fun ww => rfl) ?_
 refine ec_init .Propagator (f := 262) (by kernel_rfl) (by kernel_rfl) (by kernel_rfl) (by kernel_rfl) (by kernel_rfl) (by intro env; rfl) (by intro env; rfl) ?_
 refine zc rfl (zn (h := zc rfl (ai (zc rfl (zn (h := zc rfl (zn (h := zc rfl (zn (h := sn ?_))))))))))
 walk_at "frz"
 refine zc rfl (eS (sn ?_))
 refine (c_Prop_init g (by kernel_rfl) (by kernel_rfl) (by kernel_rfl) (by kernel_rfl) gP fun σ1 en eg ek => ?_).call
 refine ls_of rfl (aa (rw_sta (fun ww => rfl) ?_))
 refine EvW.call (gb_sorted (by kernel_rfl)) (by kernel_rfl) (by intro env; rfl) ?_
 refine zc rfl ?_
 refine rv_comp (by kernel_rfl) (fun ww ww => rfl) ?_
 refine src_of ?_
 refine ai (zc rfl (zn (h := zc rfl (zn (h := zc rfl (zn (h := sn ?_)))))))
 walk_at "frz"
 refine ⟨_, .inr rfl, ?_⟩
 refine cF (fun x : Nat => .int (x : Nat)) (fun x => if (cnt3 a b c x : Int) = 2 then none else some (.int (x : Nat))) (fun m => m "a" = some (.d (.int (a : Nat))) ∧ m "b" = some (.d (.int (b : Nat))) ∧ m "c" = some (.d (.int (c : Nat)))) [a, b, c] (by simp) ⟨by walk_at "lk", by walk_at "lk", by walk_at "lk"⟩ ?_ ?_
 ·intro x hx m hm
  (refine x0_2 hm ?_; clear hm; intro h1 h2 h3)
  refine aN (by kernel_rfl) (IfsW.one (ad rfl ?_))
  refine EvW.countT (by intro env; rfl) rfl (by intro env; rfl) (by intro env; rfl) ?_
  refine zc rfl (zn (h := zc rfl (zn (h := zc rfl (zn (h := sn ?_))))))
  refine ⟨[(a : Int), b, c], rfl, by simp, ?_⟩
  refine zn (h := ?_)
  refine ⟨_, rfl, ?_⟩
  refine ei (CmpW.neI (ab ?_))
  by_cases h : (cnt3 a b c x : Int) = 2
  ·refine jn (fun z => z h) ⟨rfl, ⟨by walk_at "lk", by walk_at "lk", by walk_at "lk"⟩, if_pos h⟩
  ·refine jd h ?_
   refine zn (h := ?_)
   exact ⟨rfl, ⟨by walk_at "lk", by walk_at "lk", by walk_at "lk"⟩, _, rfl, if_neg h⟩
 intro m' ww
 rw [List.nil_append, filterMap_if (fun x => (cnt3 a b c x : Int) = 2) (fun x => PyData.int (x : Nat)) [a, b, c]]
 refine sn ?_
 refine CallW.sortedL (ns := (odd0 a b c).map fun x : Nat => (x : Int)) ?_ ?_ fun ns' h1 h2 => ?_
 ·show AsD _ _ (.list (List.map PyData.int ((odd0 a b c).map fun x : Nat => (x : Int))))
  rw [List.map_map]; exact rfl
 ·rw [List.length_map]
  exact Nat.lt_of_le_of_lt (List.length_filter_le _ _) (Nat.le_of_ble_eq_true rfl : 4 ≤ 64)
 (refine x1_1 (nats_of h1) ?_; intro odd hp z1; obtain rfl := z1)
 rw [show List.map PyData.int (odd.map fun x : Nat => (x : Int)) = mks odd by rw [List.map_map]; rfl]
 refine zn (h := zsa (hl := Nat.le_of_ble_eq_true rfl) (q := aa (ri (ad rfl ?_))))
 refine EvW.countT (by intro env; rfl) rfl (by intro env; rfl) (by intro env; rfl) ?_
 refine zc rfl (zn (h := zc rfl (zn (h := zc rfl (zn (h := sn ?_))))))
 refine ⟨[(a : Int), b, c], rfl, by simp, ?_⟩
 refine zn (h := ?_)
 refine ⟨_, rfl, ?_⟩
 refine ei (qi (ab ?_))
 by_cases h : (cnt3 a b c a : Int) = 3
 ·refine jd h ?_
  refine aa (rw_sta (fun ww => rfl) ?_)
  refine EvW.lst ?_
  refine zc rfl (zn (h := sn ?_))
  walk_at "frz"
  refine zn (h := zsa (hl := Nat.le_of_ble_eq_true rfl) (q := xn (xn ?_)))
  exact ⟨rfl, q _ [a] (by rw [AH.next_set, AH.next_set, en]; exact Nat.lt_succ_self _) gS (fun j hj => ah (Nat.ne_of_lt hj) (ah (Nat.ne_of_lt hj) ((ek j (Nat.ne_of_lt hj)).trans (AH.get_push_old hj)))) (par_three h)⟩
 ·refine jn h ?_
  refine xn (xn ?_)
  exact ⟨rfl, q _ odd (by rw [AH.next_set, en]; exact Nat.lt_succ_self _) gS (fun j hj => ah (Nat.ne_of_lt hj) ((ek j (Nat.ne_of_lt hj)).trans (AH.get_push_old hj))) (par_of hp h)⟩
end
end
section
set_option tactic.hygienic false
noncomputable def at0 (pt : List Int) (x : Nat) : Int := pt.getD x 0
noncomputable def pxo (odd : List Nat) (pt : List Int) : Prop := (odd.map (at0 pt)).sum % 2 = 0
noncomputable def Bx (dm : List (Int × Int)) : Prop := ∀ x, x < 3 → ∃ p, dm[x]? = some p ∧ 0 ≤ p.1 ∧ p.2 ≤ 1
theorem Inb.at {pt : List Int} {dm : List (Int × Int)} (h : Inb pt dm) {x : Nat} {p : Int × Int} (hx : dm[x]? = some p) : p.1 ≤ at0 pt x ∧ at0 pt x ≤ p.2 := by
 (refine x1_0 (get_lt h.1 hx) ?_; intro v hv)
 have := h.2 _ _ _ hv hx
 unfold at0; rw [getD_of hv]; exact this
theorem l1_ok {x : Nat} {pt : List Int} : (l1 x).ok pt ↔ 1 ≤ at0 pt x := Iff.rfl
theorem l0_ok {x : Nat} {pt : List Int} : (l0 x).ok pt ↔ at0 pt x ≤ 0 := Iff.rfl
section
variable (g : G KK) {A : Nat → Prop} {σ : AH} {S k : Nat} {ss : SS}
theorem c_Xor_told {p a b c : Nat} {odd : List Nat} {Q : AV → AH → Prop} (hp : σ.get p = some (.inst 462 (xfl a b c odd))) (q : Q (.d (.tuple [.str "xor", .int (a : Nat), .int (b : Nat), .int (c : Nat)])) σ) : CodeW g (k + 1) (.ref 459) [.r p] σ Q := by
 refine cf1 "self" (by kernel_rfl) (by kernel_rfl) (fun ww => rfl) rfl ?_
 refine aa (ag (aj (ai (zc rfl (eS (sn ?_))))))
 walk_at "frz"
 refine ae (fun ww => rfl) (zn (h := za (q := ?_)))
 refine BinW.cat (by simp) ?_
 exact q
theorem c_Xor_check {p : Nat} {u v w : Int} {Q : AV → AH → Prop} (q : ∀ b, (b = true ↔ (u ≠ v ↔ w = 1)) → Q (.d (.bool b)) σ) : CodeW g (k + 1) (.ref 452) [.r p, .d (.tuple [.int u, .int v, .int w])] σ Q := by
 refine cf2 "self" "values" (by kernel_rfl) (by kernel_rfl) (fun ww ww => rfl) rfl ?_
 refine aa (ag (rv_cmp rfl (rv_cmp rfl (af (zn (h := ei (ak (fun ww ww => rfl) (by simp) (af (zn (h := ei (SubW.t1 (fun ww ww => rfl) (by simp) (CmpW.neI (rv_cmp rfl (af (zn (h := ei (SubW.t2 (fun ww ww => rfl) (by simp) (ei (qi ?_)))))))))))))))))))
 refine CmpW.eq (x := .bool _) (y := .bool _) rfl rfl rfl rfl ?_
 refine q _ ?_
 rw [eqvB]
 by_cases h1 : u = v <;> by_cases h2 : w = 1 <;> simp [h1, h2]
theorem c_Xor_prop {p a b c : Nat} {odd : List Nat} {Q : AV → AH → Prop} (h : St A σ S ss) (hA : A p) (hp : σ.get p = some (.inst 462 (xfl a b c odd))) (hB : Bx ss.dm) (ho : ∀ x, x ∈ odd → x < 3) (hl : odd.length ≤ 3)
  (q : Ends A σ S (PropR (pxo odd) ss) Q) : CodeW g (k + 12) (.ref 445) [.r p, .r S] σ Q := by
 have hdom := h.2.1
 have hpn := h.lt hA
 refine cf2 "self" "store" (by kernel_rfl) (by kernel_rfl) (fun ww ww => rfl) rfl ?_
 refine aa ?_
 refine StW.swapped (ns := ["opened", "reasons", "total"]) (isVarsS (by kernel_rfl)) (by intro env; rfl) (by walk_at "he") ?_
 refine TpW.display ?_
 refine zc rfl (EvW.lst0 (zc rfl (EvW.lst0 (zc rfl (ei (sn ?_))))))
 refine ⟨by simp, rfl, ?_⟩
 dsimp only [List.reverse, List.reverseAux, uA]
 rw [AH.next_push]
 refine aa ?_
 refine rw_for (noFree (by kernel_rfl)) (fun ww ww => rfl) ?_
 refine src_of ?_
 refine ae (fun ww => rfl) (zn (h := za (q := ?_)))
 refine ⟨_, .inl rfl, ?_⟩
 refine ForL.over (fun x : Nat => .int (x : Nat)) odd (fun done m σ' => ∃ (os : List Nat) (rs : List PyData) (t : Int), m "self" = some (.r p) ∧ m "store" = some (.r S) ∧ m "opened" = some (.r σ.next) ∧ m "reasons" = some (.r (σ.next + 1)) ∧ m "total" = some (.d (.int t)) ∧
  σ'.get σ.next = some (.list (mks os)) ∧ σ'.get (σ.next + 1) = some (.list rs) ∧ St (fun i => A i ∨ i = σ.next ∨ i = σ.next + 1) σ' S ss ∧ Fr A σ σ' ∧ rs.length ≤ done.length ∧ os.length ≤ done.length ∧
  (∀ x, x ∈ os → x ∈ done ∧ ∃ d : Int × Int, ss.dm[x]? = some d ∧ d.1 < d.2) ∧ (∀ pt, Inb pt ss.dm → (done.map (at0 pt)).sum = t + (os.map (at0 pt)).sum)) ?_ ?_ ?_
 ·refine ⟨[], [], 0, by walk_at "lk", by walk_at "lk", by walk_at "lk", by walk_at "lk", by walk_at "lk", al (Nat.lt_succ_self _) gP, gP, ((h.push _).push _).mono fun i hi => ?_, fun i hi => al (Nat.lt_succ_of_lt (h.lt hi)) (al (h.lt hi) rfl), Nat.le_refl _, Nat.le_refl _, fun x hx => (by cases hx), fun pt ww => rfl⟩
  rcases hi with hi | hi | hi
  ·exact Or.inl (Or.inl hi)
  ·exact Or.inl (Or.inr hi)
  ·exact Or.inr hi
 ·(intro m; intro σ'; intro z2r; (refine x3_12 z2r ?_; clear z2r; intro os rs t e1 e2 e3 e4 e5 e6 e7 e8 e9 e10 e11 e12 e13))
  (refine x3_0 e8.get ?_; intro ww ww ww hs)
  have nos : os ≠ [] → Sgl ss.dm → False := by
   intro hne s
   cases os with
   | nil => exact hne rfl
   | cons l r =>
    (refine x0_1 (e12 l (List.mem_cons_self ..)) ?_; intro ww z1; refine x1_1 z1 ?_; clear z1; intro d hd hlt)
    have := s d (List.mem_of_getElem? hd)
    lia
  have qq := q.of (A' := fun i => A i ∨ i = σ.next ∨ i = σ.next + 1) (fun i hi => Or.inl hi) e9
  have hm2 : t.fmod 2 = t % 2 := Int.fmod_eq_emod_of_nonneg t (by decide)
  have hlo : os.length ≤ 3 := Nat.le_trans e11 hl
  have hlr : rs.length ≤ 3 := Nat.le_trans e10 hl
  have P : ∀ pt, Inb pt ss.dm → (pxo odd pt ↔ (t + (os.map (at0 pt)).sum) % 2 = 0) := fun pt hpt => by unfold pxo; rw [e13 pt hpt]
  refine aa (ri (ad rfl (ec .len (by kernel_rfl) (fun ww => rfl) (zc rfl (zn (h := sn ?_))))))
  refine CallW.lenL (.r e6) (by rw [List.length_map]; lia) ?_
  rw [List.length_map]
  refine ei (CmpW.gt (ab ?_))
  by_cases h1 : 1 < os.length
  ·refine jd (by lia) ?_
   refine aa (ag (EvW.bool ?_))
   exact qq true ss σ' e8 (fun ww ww => rfl) (.kept fun s => (nos (fun z => by rw [z] at h1; simp at h1) s).elim)
  ·refine jn (by lia) ?_
   refine xn (aa (ri (ad rfl (ec .len (by kernel_rfl) (fun ww => rfl) (zc rfl (zn (h := sn ?_)))))))
   refine CallW.lenL (.r e6) (by rw [List.length_map]; lia) ?_
   rw [List.length_map]
   refine ei (qi (ab ?_))
   by_cases h0 : os.length = 0
   ·refine jd (by lia) ?_
    have z : os = [] := List.eq_nil_of_length_eq_zero h0
    subst z
    refine aa (ag (rv_ifx (ad rfl (aj (zn (h := ei ?_))))))
    refine BinW.mod (by decide) ?_
    refine ei (qi (ab ?_))
    rw [hm2]
    by_cases hm : t % 2 = 0
    ·refine jd hm ?_
     refine EvW.bool ?_
     exact qq true ss σ' e8 (fun ww ww => rfl) (.kept fun s pt hpt => (P pt hpt).mpr (by simpa using hm))
    ·refine jn hm ?_
     refine em .fail (fun ww => rfl) (fun ww => rfl) (zn (h := zm (q := zc rfl (ec .tuple (by kernel_rfl) (fun ww => rfl) (zc rfl (zn (h := sn ?_)))))))
     refine cL (.r e7) (by lia) ?_
     refine sn ?_
     exact (c_Store_fail g e8 fun σ2 a b => qq _ _ _ a b (.failed fun pt hpt hP => hm (by simpa using (P pt hpt).mp hP))).call
   ·refine jn (by lia) ?_
    obtain ⟨x, rfl⟩ : ∃ x, os = [x] := by
     match (generalizing := false) os, h0, h1 with
     | [x], _, _ => exact ⟨x, rfl⟩
     | [], h0, _ => exact (h0 rfl).elim
     | _ :: _ :: _, _, h1 => exact (h1 (by simp)).elim
    have ne : [x] ≠ [] := by simp
    (refine x0_1 (e12 x (List.mem_cons_self ..)) ?_; intro hxo ww)
    (refine x1_2 (hB x (ho x hxo)) ?_; intro d hdx hd0 hd1)
    have hv := hdom d (List.mem_of_getElem? hdx)
    refine xn (aa (rq (by kernel_rfl) (fun ww => rfl) (rv_ifx (ad rfl (aj (zn (h := ei ?_)))))))
    refine BinW.mod (by decide) ?_
    refine ei (qi (ab ?_))
    rw [hm2]
    by_cases hm : t % 2 = 1
    ·refine jd hm ?_
     refine ec .is_one (by kernel_rfl) (fun ww => rfl) (zc rfl (af (zn (h := ei ?_))))
     refine SubW.lst (d := .int (x : Nat)) (by intro o i; rfl) (.r e6) (by decide) (by decide) rfl ?_
     refine sn ?_
     refine (c_is_one g ?_).call
     refine aa (ag (em .strike (fun ww => rfl) (fun ww => rfl) (zn (h := zm (q := zc rfl (zn (h := zc rfl (ec .tuple (by kernel_rfl) (fun ww => rfl) (zc rfl (zn (h := sn ?_)))))))))))
     refine cL (.r e7) (by lia) ?_
     refine sn ?_
     refine (c_Store_strike g (l := l1 x) e8 hdx (by lia) (qq.imp fun b ss' E => .strike E hdx hv (fun pt hpt hP => ?_) fun s => (nos ne s).elim)).call
     have := hpt.at hdx
     have := (P pt hpt).mp hP
     simp at this
     exact l1_ok.mpr (by lia)
    ·refine jn hm ?_
     refine ec .is_nought (by kernel_rfl) (fun ww => rfl) (zc rfl (af (zn (h := ei ?_))))
     refine SubW.lst (d := .int (x : Nat)) (by intro o i; rfl) (.r e6) (by decide) (by decide) rfl ?_
     refine sn ?_
     refine (c_is_nought g ?_).call
     refine aa (ag (em .strike (fun ww => rfl) (fun ww => rfl) (zn (h := zm (q := zc rfl (zn (h := zc rfl (ec .tuple (by kernel_rfl) (fun ww => rfl) (zc rfl (zn (h := sn ?_)))))))))))
     refine cL (.r e7) (by lia) ?_
     refine sn ?_
     refine (c_Store_strike g (l := l0 x) e8 hdx (by lia) (qq.imp fun b ss' E => .strike E hdx hv (fun pt hpt hP => ?_) fun s => (nos ne s).elim)).call
     have := hpt.at hdx
     have := (P pt hpt).mp hP
     simp at this
     exact l0_ok.mpr (by lia)
 ·(intro done; intro x; intro rest; intro hd; intro m; intro σ'; intro z6r; (refine x3_12 z6r ?_; clear z6r; intro os rs t e1 e2 e3 e4 e5 e6 e7 e8 e9 e10 e11 e12 e13))
  (refine x3_0 e8.get ?_; intro ww ww ww hs)
  (refine x1_2 (hB x (ho x (by rw [hd]; simp))) ?_; intro d hdx hd0 hd1)
  have hv := hdom d (List.mem_of_getElem? hdx)
  refine as_n (by kernel_rfl) (aa (ri (rt_plain (fun ww ww => rfl) (em .is_fixed (fun ww => rfl) (fun ww => rfl) (zn (h := zm (q := zc rfl (zn (h := sn ?_)))))))))
  refine (c_Store_is_fixed g e8 hdx ?_).call
  refine ab ?_
  by_cases hf : d.1 = d.2
  ·refine jd hf ?_
   refine aa (rq (by kernel_rfl) (fun ww => rfl) (aj (zn (h := em .value (fun ww => rfl) (fun ww => rfl) (zn (h := zm (q := zc rfl (zn (h := sn ?_)))))))))
   refine (c_Store_value g e8 hdx ?_).call
   refine BinW.add (aa (rw_expr (fun ww => rfl) (EvW.append (by walk_at "mf") (zn (h := ?_)))))
   refine ⟨_, _, rfl, e7, ?_⟩
   refine zc rfl (rv_ifx (ad rfl (em .value (fun ww => rfl) (fun ww => rfl) (zn (h := zm (q := zc rfl (zn (h := sn ?_))))))))
   refine (c_Store_value g e8 hdx ?_).call
   refine ei (qi (ab ?_))
   have fin : ∀ (m' : Loc) (r : PyData), m' "self" = some (.r p) → m' "store" = some (.r S) → m' "opened" = some (.r σ.next) → m' "reasons" = some (.r (σ.next + 1)) → m' "total" = some (.d (.int (t + d.1))) →
     ∃ (os : List Nat) (rs' : List PyData) (t : Int), m' "self" = some (.r p) ∧ m' "store" = some (.r S) ∧ m' "opened" = some (.r σ.next) ∧ m' "reasons" = some (.r (σ.next + 1)) ∧ m' "total" = some (.d (.int t)) ∧
     (σ'.set (σ.next + 1) (.list (rs ++ [r]))).get σ.next = some (.list (mks os)) ∧ (σ'.set (σ.next + 1) (.list (rs ++ [r]))).get (σ.next + 1) = some (.list rs') ∧ St (fun i => A i ∨ i = σ.next ∨ i = σ.next + 1) (σ'.set (σ.next + 1) (.list (rs ++ [r]))) S ss ∧ Fr A σ (σ'.set (σ.next + 1) (.list (rs ++ [r]))) ∧ rs'.length ≤ (done ++ [x]).length ∧ os.length ≤ (done ++ [x]).length ∧
     (∀ x', x' ∈ os → x' ∈ (done ++ [x]) ∧ ∃ d : Int × Int, ss.dm[x']? = some d ∧ d.1 < d.2) ∧ (∀ pt, Inb pt ss.dm → ((done ++ [x]).map (at0 pt)).sum = t + (os.map (at0 pt)).sum) := by
    intro m' r l1 l2 l3 l4 l5
    refine ⟨os, rs ++ [r], t + d.1, l1, l2, l3, l4, l5, ah (by lia) e6, gS, e8.set (Or.inr (Or.inr rfl)) _, fun i hi => ah (by have := h.lt hi; lia) (e9 i hi), by simp; lia, by simp; lia, fun x' hx' => ⟨List.mem_append_left _ (e12 x' hx').1, (e12 x' hx').2⟩, fun pt hpt => ?_⟩
    have := hpt.at hdx
    have := e13 pt hpt
    simp; lia
   by_cases h1 : d.1 = 1
   ·refine jd h1 ?_
    refine ec .is_one (by kernel_rfl) (fun ww => rfl) (zc rfl (zn (h := sn ?_)))
    refine (c_is_one g ?_).call
    refine sn ?_
    refine ⟨_, _, rfl, e7, by have := congrArg List.length hd; simp at this; lia, ?_⟩
    refine ls_of rfl (xn (xn ?_))
    exact fin _ _ (by walk_at "lk") (by walk_at "lk") (by walk_at "lk") (by walk_at "lk") (by walk_at "lk")
   ·refine jn h1 ?_
    refine ec .is_nought (by kernel_rfl) (fun ww => rfl) (zc rfl (zn (h := sn ?_)))
    refine (c_is_nought g ?_).call
    refine sn ?_
    refine ⟨_, _, rfl, e7, by have := congrArg List.length hd; simp at this; lia, ?_⟩
    refine ls_of rfl (xn (xn ?_))
    exact fin _ _ (by walk_at "lk") (by walk_at "lk") (by walk_at "lk") (by walk_at "lk") (by walk_at "lk")
  ·refine jn hf ?_
   refine aa (rw_expr (fun ww => rfl) (EvW.append (by walk_at "mf") (zn (h := ?_))))
   refine ⟨_, _, rfl, e6, ?_⟩
   refine zc rfl (zn (h := sn ?_))
   refine ⟨_, _, rfl, e6, by rw [List.length_map]; have := congrArg List.length hd; simp at this; lia, ?_⟩
   refine ls_of rfl (xn (xn ?_))
   refine ⟨os ++ [x], rs, t, by walk_at "lk", by walk_at "lk", by walk_at "lk", by walk_at "lk", by walk_at "lk", ?_, ah (by lia) e7, e8.set (Or.inr (Or.inl rfl)) _, fun i hi => ah (by have := h.lt hi; lia) (e9 i hi), by simp; lia, by simp; lia, fun x' hx' => ?_, fun pt hpt => ?_⟩
   ·rw [show mks (os ++ [x]) = mks os ++ [.int (x : Nat)] from List.map_append]; exact gS
   ·rcases List.mem_append.mp hx' with hx' | hx'
    ·exact ⟨List.mem_append_left _ (e12 x' hx').1, (e12 x' hx').2⟩
    ·cases List.mem_singleton.mp hx'
     exact ⟨by simp, d, hdx, by lia⟩
   ·have := e13 pt hpt
    simp; lia
end
end
section
set_option tactic.hygienic false
noncomputable def dmat (dm : List (Int × Int)) (x : Nat) : Int × Int := dm.getD x (0, 0)
theorem dmat_of {dm : List (Int × Int)} {x : Nat} {p : Int × Int} (h : dm[x]? = some p) : dmat dm x = p := by simp [dmat, h]
noncomputable def mnv (b : Int) (p : Int × Int) : Int := min (b * p.1) (b * p.2)
theorem mnv_le {b v : Int} {p : Int × Int} (h1 : p.1 ≤ v) (h2 : v ≤ p.2) : mnv b p ≤ b * v := by
 unfold mnv
 rcases Int.le_total 0 b with hb | hb
 ·exact Int.le_trans (Int.min_le_left _ _) (Int.mul_le_mul_of_nonneg_left h1 hb)
 ·refine Int.le_trans (Int.min_le_right _ _) ?_
  exact Int.mul_le_mul_of_nonpos_left hb h2
noncomputable abbrev Prt := List (Int × Nat)
noncomputable def rs (pr : Prt) (pt : List Int) : Int := (pr.map fun p => p.1 * at0 pt p.2).sum
noncomputable def lst (pr : Prt) (sign : Int) (dm : List (Int × Int)) : Int := (pr.map fun p => mnv (sign * p.1) (dmat dm p.2)).sum
theorem lst_le {sign : Int} {dm : List (Int × Int)} {pt : List Int} (h : Inb pt dm) : ∀ {pr : Prt}, (∀ p, p ∈ pr → p.2 < dm.length) → lst pr sign dm ≤ sign * rs pr pt
 | [], _ => by simp [lst, rs]
 | p :: r, hx => by
  have ih := lst_le (sign := sign) h (pr := r) fun q hq => hx q (List.mem_cons_of_mem _ hq)
  have e := List.getElem?_eq_getElem (hx p (List.mem_cons_self ..))
  have a := h.at e
  have b := mnv_le (b := sign * p.1) a.1 a.2
  unfold lst rs at *
  simp only [List.map_cons, List.sum_cons]
  rw [dmat_of e, Int.mul_add, ← Int.mul_assoc]
  lia
theorem lst_eq {sign : Int} {dm : List (Int × Int)} {pt : List Int} (h : Inb pt dm) (s : Sgl dm) : ∀ {pr : Prt}, (∀ p, p ∈ pr → p.2 < dm.length) → lst pr sign dm = sign * rs pr pt
 | [], _ => by simp [lst, rs]
 | p :: r, hx => by
  have ih := lst_eq (sign := sign) h s (pr := r) fun q hq => hx q (List.mem_cons_of_mem _ hq)
  have e := List.getElem?_eq_getElem (hx p (List.mem_cons_self ..))
  have a := h.at e
  have c := s _ (List.mem_of_getElem? e)
  have b : mnv (sign * p.1) (dm[p.2]'(hx p (List.mem_cons_self ..))) = sign * p.1 * at0 pt p.2 := by
   unfold mnv
   rw [← c]
   have : at0 pt p.2 = (dm[p.2]'(hx p (List.mem_cons_self ..))).1 := by lia
   rw [this]; exact Int.min_self _
  unfold lst rs at *
  simp only [List.map_cons, List.sum_cons]
  rw [dmat_of e, Int.mul_add, ← Int.mul_assoc, ih, b]
end
section
set_option tactic.hygienic false
noncomputable abbrev pD (p : Int × Nat) : PyData := .tuple [.int p.1, .int (p.2 : Nat)]
noncomputable abbrev rfl_ (kd : Str) (pr : Prt) (c : Int) : List (Str × AV) := [("kind", .d (.str kd)), ("parts", .d (.list (pr.map pD))), ("c", .d (.int c))]
structure Rok (pr : Prt) (dm : List (Int × Int)) : Prop where
 x : ∀ p, p ∈ pr → p.2 < dm.length
 a : ∀ p, p ∈ pr → -1000 ≤ p.1 ∧ p.1 ≤ 1000
 l : pr.length ≤ 10
 b : ∀ p, p ∈ dm → -10 ≤ p.1 ∧ p.2 ≤ 10
section
variable (g : G KK) {A : Nat → Prop} {σ : AH} {S k i : Nat} {ss : SS} {kd : Str} {pr : Prt} {c : Int}
theorem Rok.at {dm : List (Int × Int)} (R : Rok pr dm) {p : Int × Nat} (h : p ∈ pr) : ∃ d, dm[p.2]? = some d ∧ dmat dm p.2 = d ∧ -10 ≤ d.1 ∧ d.2 ≤ 10 := by
 have e := List.getElem?_eq_getElem (R.x p h)
 exact ⟨_, e, dmat_of e, R.b _ (List.mem_of_getElem? e)⟩
theorem c_Row_least {sign : Int} {Q : AV → AH → Prop} (h : St A σ S ss) (hp : σ.get i = some (.inst 541 (rfl_ kd pr c))) (R : Rok pr ss.dm) (q : Q (.d (.int (lst pr sign ss.dm))) σ) : CodeW g (k + 4) (.ref 486) [.r i, .r S, .d (.int sign)] σ Q := by
 (refine x3_0 h.get ?_; intro ww ww ww hs)
 refine cf3 "self" "store" "sign" (by kernel_rfl) (by kernel_rfl) (fun ww ww ww => rfl) rfl ?_
 refine aa (ag (ec .sum (by kernel_rfl) (fun ww => rfl) (zc rfl ?_)))
 refine rv_comp (by kernel_rfl) (fun ww ww => rfl) ?_
 refine src_of ?_
 refine ae (fun ww => rfl) (zn (h := za (q := ?_)))
 refine ⟨_, .inl rfl, ?_⟩
 refine cF pD (fun p => some (.int (mnv (sign * p.1) (dmat ss.dm p.2)))) (fun m => m "store" = some (.r S) ∧ m "sign" = some (.d (.int sign))) pr (by have := R.l; simp; lia) ⟨by walk_at "lk", by walk_at "lk"⟩ ?_ ?_
 ·intro p hpr m hm
  (refine x0_1 hm ?_; clear hm; intro h1 h2)
  (refine x1_3 (R.at hpr) ?_; intro d e1 e2 e3 e4)
  have ha := R.a p hpr
  have hd := h.2.1 d (List.mem_of_getElem? e1)
  refine ac2 (by kernel_rfl) (by kernel_rfl) (IfsW.nil (jt (ec .min (by kernel_rfl) (fun ww => rfl) (zc rfl (aj (aj (zn (h := zn (h := ?_)))))))))
  refine BinW.mul (by lia) ?_
  refine em .low (fun ww => rfl) (fun ww => rfl) (zn (h := zm (q := zc rfl (zn (h := sn ?_)))))
  refine (c_Store_low g h e1 ?_).call
  refine BinW.mul (by lia) ?_
  refine zc rfl (aj (aj (zn (h := zn (h := ?_)))))
  refine BinW.mul (by lia) ?_
  refine em .high (fun ww => rfl) (fun ww => rfl) (zn (h := zm (q := zc rfl (zn (h := sn ?_)))))
  refine (c_Store_high g h e1 ?_).call
  refine BinW.mul (by lia) ?_
  refine sn (CallW.min2 ?_)
  exact ⟨rfl, ⟨by walk_at "lk", by walk_at "lk"⟩, _, rfl, by rw [e2]; rfl⟩
 intro m' ww
 rw [List.nil_append, fmS, show pr.map (fun p => PyData.int (mnv (sign * p.1) (dmat ss.dm p.2))) = (pr.map fun p => mnv (sign * p.1) (dmat ss.dm p.2)).map .int by rw [List.map_map]; rfl]
 refine sn ?_
 exact CallW.sumL rfl q
noncomputable def endD (dm : List (Int × Int)) (p : Int × Nat) : PyData := .tuple [.int (dmat dm p.2).1, .int (dmat dm p.2).2]
theorem c_Row_ends {Q : AV → AH → Prop} (h : St A σ S ss) (hp : σ.get i = some (.inst 541 (rfl_ kd pr c))) (R : Rok pr ss.dm) (q : Q (.d (.list (pr.map (endD ss.dm)))) σ) : CodeW g (k + 4) (.ref 505) [.r i, .r S] σ Q := by
 (refine x3_0 h.get ?_; intro ww ww ww hs)
 refine cf2 "self" "store" (by kernel_rfl) (by kernel_rfl) (fun ww ww => rfl) rfl ?_
 refine aa (ag ?_)
 refine rv_comp (by kernel_rfl) (fun ww ww => rfl) ?_
 refine src_of ?_
 refine ae (fun ww => rfl) (zn (h := za (q := ?_)))
 refine ⟨_, .inl rfl, ?_⟩
 refine cF pD (fun p => some (endD ss.dm p)) (fun m => m "store" = some (.r S)) pr (by have := R.l; simp; lia) (by walk_at "lk") ?_ ?_
 ·intro p hpr m hm
  (refine x1_3 (R.at hpr) ?_; intro d e1 e2 e3 e4)
  refine ac2 (by kernel_rfl) (by kernel_rfl) (IfsW.nil (jt (ai (zc rfl (em .low (fun ww => rfl) (fun ww => rfl) (zn (h := zm (q := zc rfl (zn (h := sn ?_))))))))))
  refine (c_Store_low g h e1 ?_).call
  refine zc rfl (em .high (fun ww => rfl) (fun ww => rfl) (zn (h := zm (q := zc rfl (zn (h := sn ?_))))))
  refine (c_Store_high g h e1 ?_).call
  refine sn ?_
  walk_at "frz"
  exact ⟨rfl, by walk_at "lk", _, rfl, by unfold endD; rw [e2]⟩
 intro m' ww
 rw [List.nil_append, fmS]
 exact q
theorem c_Row_bounds {sign but : Int} {Q : AV → AH → Prop} (h : St A σ S ss) (hA : A i) (hp : σ.get i = some (.inst 541 (rfl_ kd pr c))) (R : Rok pr ss.dm) (q : ∀ ds, ds.length ≤ 10 → Q (.d (.tuple ds)) σ) : CodeW g (k + 4) (.ref 493) [.r i, .r S, .d (.int sign), .d (.int but)] σ Q := by
 have hpn := h.lt hA
 refine CodeW.gc ?_
 refine cf4 "self" "store" "sign" "but" (by kernel_rfl) (by kernel_rfl) (fun ww ww ww ww => rfl) rfl ?_
 refine aa (rq (by kernel_rfl) (fun ww => rfl) (EvW.lst0 (aa ?_)))
 refine rw_for (noFree (by kernel_rfl)) (fun ww ww => rfl) ?_
 refine src_of ?_
 refine ae (fun ww => rfl) (zn (h := za (q := ?_)))
 refine ⟨_, .inl rfl, ?_⟩
 refine ForL.over pD pr (fun done m σ' => ∃ ds, m "self" = some (.r i) ∧ m "store" = some (.r S) ∧ m "sign" = some (.d (.int sign)) ∧ m "but" = some (.d (.int but)) ∧ m "found" = some (.r σ.next) ∧ σ'.get σ.next = some (.list ds) ∧ ds.length ≤ done.length ∧ St (fun i => A i ∨ i = σ.next) σ' S ss ∧ ∀ j, j < σ.next → σ'.get j = σ.get j) ?_ ?_ ?_
 ·exact ⟨[], by walk_at "lk", by walk_at "lk", by walk_at "lk", by walk_at "lk", by walk_at "lk", gP, Nat.le_refl _, h.push _, fun j hj => al hj rfl⟩
 ·(intro m; intro σ'; intro z2r; (refine x1_8 z2r ?_; clear z2r; intro ds e1 e2 e3 e4 e5 e6 e7 e8 e9))
  have := R.l
  refine aa (ag (ec .tuple (by kernel_rfl) (fun ww => rfl) (zc rfl (zn (h := sn ?_)))))
  exact cL (.r e6) (by lia) ⟨_, rfl, e9, q _ (by lia)⟩
 ·(intro done; intro p; intro rest; intro hd; intro m; intro σ'; intro z6r; (refine x1_8 z6r ?_; clear z6r; intro ds e1 e2 e3 e4 e5 e6 e7 e8 e9))
  have hpr : p ∈ pr := by rw [hd]; simp
  (refine x1_3 (R.at hpr) ?_; intro d x1 x2 x3 x4)
  have ha := R.a p hpr
  (refine x3_0 e8.get ?_; intro ww ww ww hs)
  have hdl : done.length + 1 ≤ 10 := by have := congrArg List.length hd; have := R.l; simp at *; lia
  have fin : ∀ (m' : Loc) r, m' "self" = some (.r i) → m' "store" = some (.r S) → m' "sign" = some (.d (.int sign)) → m' "but" = some (.d (.int but)) → m' "found" = some (.r σ.next) →
    ∃ ds', m' "self" = some (.r i) ∧ m' "store" = some (.r S) ∧ m' "sign" = some (.d (.int sign)) ∧ m' "but" = some (.d (.int but)) ∧ m' "found" = some (.r σ.next) ∧ (σ'.set σ.next (.list (ds ++ [r]))).get σ.next = some (.list ds') ∧ ds'.length ≤ (done ++ [p]).length ∧ St (fun i => A i ∨ i = σ.next) (σ'.set σ.next (.list (ds ++ [r]))) S ss ∧ ∀ j, j < σ.next → (σ'.set σ.next (.list (ds ++ [r]))).get j = σ.get j :=
   fun m' r l1 l2 l3 l4 l5 => ⟨ds ++ [r], l1, l2, l3, l4, l5, gS, by simp; lia, e8.set (Or.inr rfl) _, fun j hj => ah (Nat.ne_of_lt hj) (e9 j hj)⟩
  refine at2 (by kernel_rfl) (by kernel_rfl) (aa (ri (ad rfl (zn (h := zn (h := CmpW.neI (ab ?_)))))))
  by_cases hb : (p.2 : Int) ≠ but
  ·refine jd hb ?_
   refine aa (rw_expr (fun ww => rfl) (EvW.append (by walk_at "mf") (zn (h := ?_))))
   refine ⟨_, _, rfl, e6, ?_⟩
   refine zc rfl (rv_ifx (ad rfl (aj (zn (h := zn (h := ?_))))))
   refine BinW.mul (by lia) ?_
   refine ei (CmpW.gt (ab ?_))
   by_cases hz : 0 < sign * p.1
   ·refine jd hz ?_
    refine ai (zc rfl (zn (h := zc rfl (eS (zc rfl (em .low (fun ww => rfl) (fun ww => rfl) (zn (h := zm (q := zc rfl (zn (h := sn ?_)))))))))))
    refine (c_Store_low g e8 x1 ?_).call
    refine sn ?_
    walk_at "frz"
    refine sn ?_
    refine ⟨_, _, rfl, e6, by lia, ?_⟩
    refine ls_of rfl (xn (xn ?_))
    exact fin _ _ (by walk_at "lk") (by walk_at "lk") (by walk_at "lk") (by walk_at "lk") (by walk_at "lk")
   ·refine jn hz ?_
    refine ai (zc rfl (zn (h := zc rfl (eS (zc rfl (em .high (fun ww => rfl) (fun ww => rfl) (zn (h := zm (q := zc rfl (zn (h := sn ?_)))))))))))
    refine (c_Store_high g e8 x1 ?_).call
    refine sn ?_
    walk_at "frz"
    refine sn ?_
    refine ⟨_, _, rfl, e6, by lia, ?_⟩
    refine ls_of rfl (xn (xn ?_))
    exact fin _ _ (by walk_at "lk") (by walk_at "lk") (by walk_at "lk") (by walk_at "lk") (by walk_at "lk")
  ·refine jn hb ?_
   refine xn (xn ?_)
   exact ⟨ds, by walk_at "lk", by walk_at "lk", by walk_at "lk", by walk_at "lk", by walk_at "lk", e6, by simp; lia, e8, e9⟩
end
end
section
set_option tactic.hygienic false
theorem Rok.adv {pr : Prt} {ss ss' : SS} (R : Rok pr ss.dm) (h : Adv ss ss') : Rok pr ss'.dm := by
 refine ⟨fun p hp => by rw [h.len]; exact R.x p hp, R.a, R.l, fun p' hp' => ?_⟩
 obtain ⟨i, hi, e⟩ := List.getElem_of_mem hp'
 have e' : ss'.dm[i]? = some p' := by rw [List.getElem?_eq_getElem hi, e]
 (refine x1_0 (get_lt h.len.symm e') ?_; intro p hp)
 have a := h.sub i p p' hp e'
 have b := R.b p (List.mem_of_getElem? hp)
 lia
theorem lst_but {sign : Int} {dm : List (Int × Int)} {pt : List Int} (h : Inb pt dm) {p : Int × Nat} : ∀ {pr : Prt}, (∀ p, p ∈ pr → p.2 < dm.length) → p ∈ pr → lst pr sign dm - mnv (sign * p.1) (dmat dm p.2) ≤ sign * rs pr pt - sign * p.1 * at0 pt p.2
 | [], _, hp => by cases hp
 | q :: r, hx, hp => by
  have e := List.getElem?_eq_getElem (hx q (List.mem_cons_self ..))
  have a := h.at e
  have b := mnv_le (b := sign * q.1) a.1 a.2
  have hr : ∀ p, p ∈ r → p.2 < dm.length := fun q hq => hx q (List.mem_cons_of_mem _ hq)
  have z : lst (q :: r) sign dm = mnv (sign * q.1) (dmat dm q.2) + lst r sign dm := by simp [lst]
  have y : sign * rs (q :: r) pt = sign * q.1 * at0 pt q.2 + sign * rs r pt := by simp [rs, Int.mul_add, Int.mul_assoc]
  rw [z, y]
  rw [← dmat_of e] at b
  rcases List.mem_cons.mp hp with rfl | hp
  ·have := lst_le (sign := sign) h hr
   lia
  ·have := lst_but (sign := sign) h hr hp
   lia
theorem mnv_mono {b : Int} {p p' : Int × Int} (h1 : p.1 ≤ p'.1) (h2 : p'.2 ≤ p.2) (h3 : p'.1 ≤ p'.2) : mnv b p ≤ mnv b p' := by
 unfold mnv
 rcases Int.le_total 0 b with hb | hb
 ·have x := Int.mul_le_mul_of_nonneg_left h1 hb
  exact Int.le_min.mpr ⟨Int.le_trans (Int.min_le_left _ _) x, Int.le_trans (Int.min_le_left _ _) (Int.le_trans x (Int.mul_le_mul_of_nonneg_left h3 hb))⟩
 ·have x := Int.mul_le_mul_of_nonpos_left hb h2
  exact Int.le_min.mpr ⟨Int.le_trans (Int.min_le_right _ _) (Int.le_trans x (Int.mul_le_mul_of_nonpos_left hb h3)), Int.le_trans (Int.min_le_right _ _) x⟩
noncomputable def pressL (b room : Int) (x : Nat) : Lit := if 0 < b then ⟨x, .le, room.fdiv b⟩ else ⟨x, .ge, -(room.fdiv (-b))⟩
theorem pressL_ok {b room : Int} {x : Nat} {pt : List Int} (hb : b ≠ 0) (h : b * at0 pt x ≤ room) : (pressL b room x).ok pt := by
 unfold pressL
 split
 ·rename_i h0
  show at0 pt x ≤ room.fdiv b
  rw [Int.fdiv_eq_ediv_of_nonneg _ (Int.le_of_lt h0), Int.le_ediv_iff_mul_le h0, Int.mul_comm]; exact h
 ·rename_i h0
  have h1 : 0 < -b := by lia
  show -(room.fdiv (-b)) ≤ at0 pt x
  rw [Int.fdiv_eq_ediv_of_nonneg _ (Int.le_of_lt h1)]
  have : -(at0 pt x) ≤ room / (-b) := by rw [Int.le_ediv_iff_mul_le h1, Int.neg_mul_neg, Int.mul_comm]; exact h
  lia
theorem pressL_x {b room : Int} {x : Nat} : (pressL b room x).x = x := by unfold pressL; split <;> rfl
theorem ite_ev {g : G KK} {k : Nat} {sc : Scope} {m : Loc} {σ : AH} {e1 e2 : Expr} {c : Prop} [Decidable c] {Q : AV → AH → Prop} (R : AV → AH → Prop) (h1 : c → EvW g k sc m σ e1 R) (h2 : ¬ c → EvW g k sc m σ e2 R) (q : ∀ a σ, R a σ → Q a σ) : if decide c = true then EvW g k sc m σ e1 Q else EvW g k sc m σ e2 Q := by
 by_cases h : c
 ·exact jd h ((h1 h).mono q)
 ·exact jn h ((h2 h).mono q)
section
variable (g : G KK) {A : Nat → Prop} {σ : AH} {S k i : Nat} {ss : SS} {kd : Str} {pr : Prt} {c : Int}
theorem c_Row_press {sign : Int} {why : List PyData} {Q : AV → AH → Prop} (h : St A σ S ss) (hA : A i) (hp : σ.get i = some (.inst 541 (rfl_ kd pr c))) (R : Rok pr ss.dm) (hs1 : sign = 1 ∨ sign = -1) (hc : -100000 ≤ c ∧ c ≤ 100000) (ha0 : ∀ p, p ∈ pr → p.1 ≠ 0) (hwy : why.length ≤ 10)
  (q : Ends A σ S (PropR (fun pt => sign * rs pr pt ≤ sign * c) ss) Q) : CodeW g (k + 12) (.ref 500) [.r i, .r S, .d (.int sign), .d (.tuple why)] σ Q := by
 (refine x3_0 h.get ?_; intro ww ww ww hs)
 refine cf4 "self" "store" "sign" "why" (by kernel_rfl) (by kernel_rfl) (fun ww ww ww ww => rfl) rfl ?_
 refine aa ?_
 refine StW.swapped (ns := ["goal", "least"]) (isVarsS (by kernel_rfl)) (by intro env; rfl) (by walk_at "he") ?_
 refine TpW.display ?_
 refine zc rfl (aj (zn (h := ae (fun ww => rfl) (zn (h := za (q := ?_))))))
 refine BinW.mul (by lia) ?_
 refine zc rfl (em .least (fun ww => rfl) (fun ww => rfl) (zn (h := zm (q := zc rfl (zn (h := zc rfl (zn (h := sn ?_))))))))
 refine (c_Row_least g h hp R ?_).call
 refine sn ?_
 refine ⟨by simp, rfl, ?_⟩
 dsimp only [List.reverse, List.reverseAux, uA]
 refine aa (ri (ad rfl (zn (h := zn (h := CmpW.gt (ab ?_))))))
 by_cases hgo : sign * c < lst pr sign ss.dm
 ·refine jd hgo ?_
  refine aa (ag (em .fail (fun ww => rfl) (fun ww => rfl) (zn (h := zm (q := zc rfl (aj (em .bounds (fun ww => rfl) (fun ww => rfl) (zn (h := zm (q := zc rfl (zn (h := zc rfl (zn (h := zc rfl (rv_un (ei (UnW.neg (sn ?_))))))))))))))))))
  refine (c_Row_bounds g h hA hp R fun ds hds => ?_).call
  refine zn (h := ?_)
  refine BinW.cat (by lia) ?_
  refine sn ?_
  exact (c_Store_fail g h fun σ2 a b => q _ _ _ a b (.failed fun pt hpt hP => by have := lst_le (sign := sign) hpt R.x; lia)).call
 ·refine jn hgo ?_
  refine xn (aa ?_)
  refine rw_for (noFree (by kernel_rfl)) (fun ww ww => rfl) ?_
  refine src_of ?_
  refine ae (fun ww => rfl) (zn (h := za (q := ?_)))
  refine ⟨_, .inl rfl, ?_⟩
  refine ForL.over pD pr (fun done m σ' => ∃ ss', m "self" = some (.r i) ∧ m "store" = some (.r S) ∧ m "sign" = some (.d (.int sign)) ∧ m "why" = some (.d (.tuple why)) ∧ m "goal" = some (.d (.int (sign * c))) ∧ m "least" = some (.d (.int (lst pr sign ss.dm))) ∧
   St A σ' S ss' ∧ Fr A σ σ' ∧ Adv ss ss' ∧ ∀ pt, Inb pt ss.dm → sign * rs pr pt ≤ sign * c → Inb pt ss'.dm) ?_ ?_ ?_
  ·exact ⟨ss, by walk_at "lk", by walk_at "lk", by walk_at "lk", by walk_at "lk", by walk_at "lk", by walk_at "lk", h, fun ww ww => rfl, Adv.refl ss, fun pt hpt ww => hpt⟩
  ·(intro m; intro σ'; intro z2r; (refine x1_9 z2r ?_; clear z2r; intro ss' e1 e2 e3 e4 e5 e6 e7 e8 e9 e10))
   refine aa (ag (EvW.bool ?_))
   exact q true ss' σ' e7 e8 ⟨e9, fun hb => (by cases hb), fun ww => e10, fun ww s pt hpt => by show sign * rs pr pt ≤ sign * c; rw [← lst_eq hpt s R.x]; lia⟩
  ·(intro done; intro p; intro rest; intro hd; intro m; intro σ'; intro z6r; (refine x1_9 z6r ?_; clear z6r; intro ss' e1 e2 e3 e4 e5 e6 e7 e8 e9 e10))
   have hpr : p ∈ pr := by rw [hd]; simp
   have R' := R.adv e9
   (refine x1_3 (R'.at hpr) ?_; intro d x1 x2 x3 x4)
   have hv := e7.2.1 d (List.mem_of_getElem? x1)
   have ha := R.a p hpr
   have hz := ha0 p hpr
   (refine x3_0 e7.get ?_; intro ww ww ww hs)
   have hp' := (e8 i hA).trans hp
   have hb0 : sign * p.1 ≠ 0 := by rcases hs1 with rfl | rfl <;> lia
   have hbb : -1000 ≤ sign * p.1 ∧ sign * p.1 ≤ 1000 := by rcases hs1 with rfl | rfl <;> lia
   have key : ∀ pt, Inb pt ss'.dm → sign * rs pr pt ≤ sign * c → (pressL (sign * p.1) (sign * c - lst pr sign ss.dm + mnv (sign * p.1) d) p.2).ok pt := fun pt hpt hP => by
    refine pressL_ok hb0 ?_
    have hpt0 := e9.inb hpt
    have b1 := lst_but (sign := sign) hpt0 R.x hpr
    (refine x1_3 (R.at hpr) ?_; intro d0 y1 y2 ww ww)
    have sb := e9.sub _ _ _ y1 x1
    have b2 := mnv_mono (b := sign * p.1) sb.1 sb.2 hv.1
    rw [y2] at b1
    lia
   refine at2 (by kernel_rfl) (by kernel_rfl) (aa (rq (by kernel_rfl) (fun ww => rfl) (aj (zn (h := zn (h := ?_))))))
   refine BinW.mul (by lia) ?_
   refine aa (rq (by kernel_rfl) (fun ww => rfl) (aj (aj (zn (h := zn (h := BinW.sub (ec .min (by kernel_rfl) (fun ww => rfl) (zc rfl (aj (zn (h := em .low (fun ww => rfl) (fun ww => rfl) (zn (h := zm (q := zc rfl (zn (h := sn ?_))))))))))))))))
   refine (c_Store_low g e7 x1 ?_).call
   refine BinW.mul (by lia) ?_
   refine zc rfl (aj (zn (h := em .high (fun ww => rfl) (fun ww => rfl) (zn (h := zm (q := zc rfl (zn (h := sn ?_))))))))
   refine (c_Store_high g e7 x1 ?_).call
   refine BinW.mul (by lia) ?_
   refine sn (CallW.min2 (BinW.add (aa (rq (by kernel_rfl) (fun ww => rfl) (rv_ifx (ad rfl (zn (h := ei (CmpW.gt (ab ?_))))))))))
   have ee : sign * c - lst pr sign ss.dm + min (sign * p.1 * d.1) (sign * p.1 * d.2) = sign * c - lst pr sign ss.dm + mnv (sign * p.1) d := rfl
   rw [ee]
   refine ite_ev (fun a σ1 => a = .d (pressL (sign * p.1) (sign * c - lst pr sign ss.dm + mnv (sign * p.1) d) p.2).d ∧ σ1 = σ') (fun h0 => ?_) (fun h0 => ?_) fun a σ1 hh => ?_
   ·refine ai (zc rfl (zn (h := zc rfl (eS (zc rfl (aj (zn (h := zn (h := ?_)))))))))
    refine BinW.div hb0 (by lia) ?_
    refine sn ?_
    walk_at "frz"
    exact ⟨by unfold pressL; rw [if_pos h0]; rfl, rfl⟩
   ·refine ai (zc rfl (zn (h := zc rfl (eS (zc rfl (rv_un (aj (zn (h := rv_un (zn (h := UnW.neg ?_)))))))))))
    refine BinW.div (by lia) (by lia) ?_
    refine UnW.neg (sn ?_)
    walk_at "frz"
    exact ⟨by unfold pressL; rw [if_neg h0]; rfl, rfl⟩
   (refine x0_1 hh ?_; clear hh; intro z1 z2; obtain rfl := z1; obtain rfl := z2)
   generalize hL : pressL (sign * p.1) (sign * c - lst pr sign ss.dm + mnv (sign * p.1) d) p.2 = L at key ⊢
   have hLx : L.x = p.2 := by rw [← hL]; exact pressL_x
   have x1' : ss'.dm[L.x]? = some d := by rw [hLx]; exact x1
   refine aa (ri (rt_and (ad rfl (em .holds (fun ww => rfl) (fun ww => rfl) (zn (h := zm (q := zc rfl (zn (h := sn ?_)))))))))
   refine (c_Store_holds g e7 x1' ?_).call
   refine ei (CmpW.neI (ab ?_))
   by_cases hh : L.said d.1 d.2 ≠ 1
   ·refine jd hh ?_
    refine rt_and (rt_not (rt_plain (fun ww ww => rfl) (em .strike (fun ww => rfl) (fun ww => rfl) (zn (h := zm (q := zc rfl (zn (h := zc rfl (aj (em .bounds (fun ww => rfl) (fun ww => rfl) (zn (h := zm (q := zc rfl (zn (h := zc rfl (zn (h := zc rfl (zn (h := sn ?_)))))))))))))))))))
    refine (c_Row_bounds g e7 hA hp' R' fun ds hds => ?_).call
    refine zn (h := ?_)
    refine BinW.cat (by lia) ?_
    refine sn ?_
    refine (c_Store_strike g e7 x1' (by simp; lia) fun b ss2 σ2 f1 f2 E => ?_).call
    cases b with
    | false =>
     refine ab ?_
     refine jt ?_
     refine TsW.and0 (jt (aa (ag (EvW.bool ?_))))
     exact q false ss2 σ2 f1 (fun i hi => (f2 i hi).trans (e8 i hi)) ⟨e9.trans (E.adv x1' hv), fun ww pt hpt hP => E.no x1' hv pt (e10 pt hpt hP) (key pt (e10 pt hpt hP) hP), fun hb => (by cases hb), fun hb => (by cases hb)⟩
    | true =>
     refine ab ?_
     refine jf ?_
     refine jf (xn (xn ?_))
     exact ⟨ss2, by walk_at "lk", by walk_at "lk", by walk_at "lk", by walk_at "lk", by walk_at "lk", by walk_at "lk", f1, fun i hi => (f2 i hi).trans (e8 i hi), e9.trans (E.adv x1' hv), fun pt hpt hP => ((E.yes x1' hv).2 pt).mpr ⟨e10 pt hpt hP, key pt (e10 pt hpt hP) hP⟩⟩
   ·refine jn hh ?_
    refine jf ?_
    refine xn (xn ?_)
    exact ⟨ss', by walk_at "lk", by walk_at "lk", by walk_at "lk", by walk_at "lk", by walk_at "lk", by walk_at "lk", e7, e8, e9, e10⟩
end
end
section
set_option tactic.hygienic false
theorem wid_sub : ∀ {a b : List (Int × Int)}, b.length = a.length → (∀ (i : Nat) (p p' : Int × Int), a[i]? = some p → b[i]? = some p' → p.1 ≤ p'.1 ∧ p'.2 ≤ p.2) → b = a ∨ wid b < wid a
 | [], [], _, _ => .inl rfl
 | [], _ :: _, h, _ => by simp at h
 | _ :: _, [], h, _ => by simp at h
 | x :: r, y :: t, h, hs => by
  have h0 := hs 0 x y rfl rfl
  have ih := wid_sub (a := r) (b := t) (by simpa using h) fun i p p' e e' => hs (i + 1) p p' (by simpa using e) (by simpa using e')
  have e1 : wid (x :: r) = (x.2 - x.1) + wid r := by simp [wid]
  have e2 : wid (y :: t) = (y.2 - y.1) + wid t := by simp [wid]
  rw [e1, e2]
  by_cases e : y = x
  ·rcases ih with ih | ih
   ·exact .inl (by rw [e, ih])
   ·exact .inr (by rw [e]; lia)
  ·have : y.1 ≠ x.1 ∨ y.2 ≠ x.2 := by
    apply Classical.byContradiction
    intro hn
    exact e (Prod.ext (by lia) (by lia))
   rcases ih with ih | ih
   ·exact .inr (by rw [ih]; lia)
   ·exact .inr (by lia)
theorem Adv.wid {ss ss' : SS} (h : Adv ss ss') : ss'.dm = ss.dm ∨ Mine.wid ss'.dm < Mine.wid ss.dm := wid_sub h.len h.sub
theorem shp_ends {pr : Prt} {dm : List (Int × Int)} : Shp 2 (.list (pr.map (endD dm))) := Shp.list fun d hd => by
 (refine x1_1 (List.mem_map.mp hd) ?_; intro p ww z1; obtain rfl := z1)
 refine Shp.tuple fun d hd => ?_
 rcases List.mem_cons.mp hd with rfl | hd
 ·exact Shp.int
 ·cases List.mem_singleton.mp hd; exact Shp.int
theorem eqv_ends {pr : Prt} {dm : List (Int × Int)} : PyData.eqv (.list (pr.map (endD dm))) (.list (pr.map (endD dm))) = true := by
 show PyData.eqvAll _ _ = true
 exact PySem.SeqAt.eqvAll_refl _ (shp_ends (pr := pr) (dm := dm)).1
inductive Kd where
 | le | eq | ne
noncomputable def Kd.s : Kd → Str
 | .le => "linear_le"
 | .eq => "linear_eq"
 | .ne => "linear_ne"
noncomputable def Rsat (kd : Kd) (pr : Prt) (c : Int) (pt : List Int) : Prop := match kd with
 | .le => rs pr pt ≤ c
 | .eq => rs pr pt = c
 | .ne => rs pr pt ≠ c
structure LastR (pr : Prt) (c : Int) (dm : List (Int × Int)) (os : Prt) (t : Int) : Prop where
 mem : ∀ p, p ∈ os → p ∈ pr ∧ ∃ d : Int × Int, dm[p.2]? = some d ∧ d.1 < d.2
 sum : ∀ pt, Inb pt dm → c - rs pr pt = t - rs os pt
 len : os.length ≤ 10
theorem LastR.nos {pr os : Prt} {c t : Int} {dm : List (Int × Int)} (L : LastR pr c dm os t) (h : os ≠ []) (s : Sgl dm) : False := by
 cases os with
 | nil => exact h rfl
 | cons p r =>
  (refine x0_1 (L.mem p (List.mem_cons_self ..)) ?_; intro ww z2; refine x1_1 z2 ?_; clear z2; intro d hd hlt)
  have := s d (List.mem_of_getElem? hd)
  lia
end
section
set_option tactic.hygienic false
section
variable (g : G KK) {A : Nat → Prop} {σ : AH} {S k i : Nat} {ss : SS} {kd : Str} {pr : Prt} {c : Int}
theorem c_Row_last {Q : AV → AH → Prop} (h : St A σ S ss) (hA : A i) (hp : σ.get i = some (.inst 541 (rfl_ kd pr c))) (R : Rok pr ss.dm) (q : ∀ os t ds, LastR pr c ss.dm os t → ds.length ≤ 10 → Q (.d (.tuple [.list (os.map pD), .int t, .tuple ds])) σ) : CodeW g (k + 4) (.ref 512) [.r i, .r S] σ Q := by
 have hpn := h.lt hA
 refine CodeW.gc ?_
 refine cf2 "self" "store" (by kernel_rfl) (by kernel_rfl) (fun ww ww => rfl) rfl ?_
 refine aa ?_
 refine StW.swapped (ns := ["opened", "lack", "reasons"]) (isVarsS (by kernel_rfl)) (by intro env; rfl) (by walk_at "he") ?_
 refine TpW.display ?_
 refine zc rfl (EvW.lst0 (zc rfl (ae (fun ww => rfl) (zn (h := za (q := zc rfl (EvW.lst0 (sn ?_))))))))
 refine ⟨by simp, rfl, ?_⟩
 dsimp only [List.reverse, List.reverseAux, uA]
 rw [AH.next_push]
 refine aa ?_
 refine rw_for (noFree (by kernel_rfl)) (fun ww ww => rfl) ?_
 refine src_of ?_
 refine ae (fun ww => rfl) (zn (h := za (q := ?_)))
 refine ⟨_, .inl rfl, ?_⟩
 refine ForL.over pD pr (fun done m σ' => ∃ (os : Prt) (ds : List PyData) (t : Int), m "store" = some (.r S) ∧ m "opened" = some (.r σ.next) ∧ m "reasons" = some (.r (σ.next + 1)) ∧ m "lack" = some (.d (.int t)) ∧
  σ'.get σ.next = some (.list (os.map pD)) ∧ σ'.get (σ.next + 1) = some (.list ds) ∧ St (fun i => A i ∨ i = σ.next ∨ i = σ.next + 1) σ' S ss ∧ (∀ j, j < σ.next → σ'.get j = σ.get j) ∧ ds.length ≤ done.length ∧ os.length ≤ done.length ∧
  (∀ p, p ∈ os → p ∈ pr ∧ ∃ d : Int × Int, ss.dm[p.2]? = some d ∧ d.1 < d.2) ∧ (∀ pt, Inb pt ss.dm → c - rs done pt = t - rs os pt)) ?_ ?_ ?_
 ·refine ⟨[], [], c, by walk_at "lk", by walk_at "lk", by walk_at "lk", by walk_at "lk", al (Nat.lt_succ_self _) gP, gP, ((h.push _).push _).mono fun i hi => ?_, fun i hi => al (Nat.lt_succ_of_lt hi) (al hi rfl), Nat.le_refl _, Nat.le_refl _, fun x hx => (by cases hx), fun pt ww => rfl⟩
  rcases hi with hi | hi | hi
  ·exact Or.inl (Or.inl hi)
  ·exact Or.inl (Or.inr hi)
  ·exact Or.inr hi
 ·(intro m; intro σ'; intro z2r; (refine x3_11 z2r ?_; clear z2r; intro os ds t e1 e2 e3 e4 e5 e6 e7 e8 e9 e10 e11 e12))
  have := R.l
  refine aa (ag (ai (zc rfl (zn (h := zc rfl (zn (h := zc rfl (ec .tuple (by kernel_rfl) (fun ww => rfl) (zc rfl (zn (h := sn ?_)))))))))))
  refine cL (.r e6) (by lia) ?_
  refine sn ?_
  exact ⟨_, _, FrzAll.r e5 (FrzAll.d (FrzAll.d FrzAll.nil)), by simp, _, rfl, fun j hj => (if_neg (Nat.ne_of_lt hj)).trans (e8 j hj), q os t ds ⟨e11, e12, by lia⟩ (by lia)⟩
 ·(intro done; intro p; intro rest; intro hd; intro m; intro σ'; intro z6r; (refine x3_11 z6r ?_; clear z6r; intro os ds t e1 e2 e3 e4 e5 e6 e7 e8 e9 e10 e11 e12))
  have hpr : p ∈ pr := by rw [hd]; simp
  (refine x1_3 (R.at hpr) ?_; intro d x1 x2 x3 x4)
  have hv := h.2.1 d (List.mem_of_getElem? x1)
  have ha := R.a p hpr
  have hl : done.length + 1 ≤ 10 := by have := congrArg List.length hd; have := R.l; simp at *; lia
  (refine x3_0 e7.get ?_; intro ww ww ww hs)
  have rsd : ∀ pt, rs (done ++ [p]) pt = rs done pt + p.1 * at0 pt p.2 := fun pt => by simp [rs]
  refine at2 (by kernel_rfl) (by kernel_rfl) (aa (ri (rt_plain (fun ww ww => rfl) (em .is_fixed (fun ww => rfl) (fun ww => rfl) (zn (h := zm (q := zc rfl (zn (h := sn ?_)))))))))
  refine (c_Store_is_fixed g e7 x1 ?_).call
  refine ab ?_
  by_cases hf : d.1 = d.2
  ·refine jd hf ?_
   refine aa (rq (by kernel_rfl) (fun ww => rfl) (aj (zn (h := aj (zn (h := em .value (fun ww => rfl) (fun ww => rfl) (zn (h := zm (q := zc rfl (zn (h := sn ?_)))))))))))
   refine (c_Store_value g e7 x1 ?_).call
   refine BinW.mul (by lia) ?_
   refine BinW.sub (aa (rw_expr (fun ww => rfl) (EvW.append (by walk_at "mf") (zn (h := ?_)))))
   refine ⟨_, _, rfl, e6, ?_⟩
   refine zc rfl (ai (zc rfl (zn (h := zc rfl (eS (zc rfl (em .value (fun ww => rfl) (fun ww => rfl) (zn (h := zm (q := zc rfl (zn (h := sn ?_))))))))))))
   refine (c_Store_value g e7 x1 ?_).call
   refine sn ?_
   walk_at "frz"
   refine sn ?_
   refine ⟨_, _, rfl, e6, by lia, ?_⟩
   refine ls_of rfl (xn (xn ?_))
   refine ⟨os, _, t - p.1 * d.1, by walk_at "lk", by walk_at "lk", by walk_at "lk", by walk_at "lk", ah (by lia) e5, gS, e7.set (Or.inr (Or.inr rfl)) _, fun j hj => ah (by lia) (e8 j hj), by simp; lia, by simp; lia, e11, fun pt hpt => ?_⟩
   have e := e12 pt hpt
   have a := hpt.at x1
   have : at0 pt p.2 = d.1 := by lia
   rw [rsd, this]; lia
  ·refine jn hf ?_
   refine aa (rw_expr (fun ww => rfl) (EvW.append (by walk_at "mf") (zn (h := ?_))))
   refine ⟨_, _, rfl, e5, ?_⟩
   refine zc rfl (ai (zc rfl (zn (h := zc rfl (zn (h := sn ?_))))))
   walk_at "frz"
   refine sn ?_
   refine ⟨_, _, rfl, e5, by simp; lia, ?_⟩
   refine ls_of rfl (xn (xn ?_))
   refine ⟨os ++ [p], ds, t, by walk_at "lk", by walk_at "lk", by walk_at "lk", by walk_at "lk", ?_, ah (by lia) e6, e7.set (Or.inr (Or.inl rfl)) _, fun j hj => ah (by lia) (e8 j hj), by simp; lia, by simp; lia, fun p' hp' => ?_, fun pt hpt => ?_⟩
   ·rw [List.map_append]; exact gS
   ·rcases List.mem_append.mp hp' with hp' | hp'
    ·exact e11 p' hp'
    ·cases List.mem_singleton.mp hp'
     exact ⟨hpr, d, x1, by lia⟩
   ·have e := e12 pt hpt
    have : rs (os ++ [p]) pt = rs os pt + p.1 * at0 pt p.2 := by simp [rs]
    rw [rsd, this]; lia
theorem c_Row_part {why : List PyData} {Q : AV → AH → Prop} (h : St A σ S ss) (hA : A i) (hp : σ.get i = some (.inst 541 (rfl_ kd pr c))) (R : Rok pr ss.dm) (ha0 : ∀ p, p ∈ pr → p.1 ≠ 0) (hwy : why.length ≤ 10)
  (q : Ends A σ S (PropR (Rsat .ne pr c) ss) Q) : CodeW g (k + 12) (.ref 519) [.r i, .r S, .d (.tuple why)] σ Q := by
 (refine x3_0 h.get ?_; intro ww ww ww hs)
 refine cf3 "self" "store" "why" (by kernel_rfl) (by kernel_rfl) (fun ww ww ww => rfl) rfl ?_
 refine aa ?_
 refine StW.unp rfl (isVars (by kernel_rfl)) (by intro env; rfl) (by walk_at "he") ?_
 refine TpW.data ?_
 refine em .last (fun ww => rfl) (fun ww => rfl) (zn (h := zm (q := zc rfl (zn (h := sn ?_)))))
 refine (c_Row_last g h hA hp R fun os t ds L hds => ?_).call
 refine ⟨_, rfl, rfl, ?_⟩
 dsimp only [namesOf, List.map, uA]
 have hol := L.len
 have kept : (os = [] → t ≠ 0) → Q (.d (.bool true)) σ := fun ht => q true ss σ h (fun ww ww => rfl) (.kept fun s pt hpt => by
  have e : os = [] := Classical.byContradiction fun z => L.nos z s
  have a := L.sum pt hpt
  have b := ht e
  subst e
  show rs pr pt ≠ c
  simp [rs] at a b ⊢; lia)
 refine aa (ri (rt_and (ad rfl (ec .len (by kernel_rfl) (fun ww => rfl) (zc rfl (zn (h := sn ?_)))))))
 refine CallW.lenL rfl (by simp; lia) ?_
 rw [List.length_map]
 refine ei (qi (ab ?_))
 by_cases h0 : os.length = 0
 ·have z : os = [] := List.eq_nil_of_length_eq_zero h0
  subst z
  refine jd (by simp) ?_
  refine rt_and (ad rfl (zn (h := ei (qi (ab ?_)))))
  by_cases ht : t = 0
  ·refine jd ht ?_
   refine TsW.and0 (jt (aa (ag (em .fail (fun ww => rfl) (fun ww => rfl) (zn (h := zm (q := zc rfl (aj (zn (h := zn (h := ?_)))))))))))
   refine BinW.cat (by lia) ?_
   refine sn ?_
   exact (c_Store_fail g h fun σ2 a b => q _ _ _ a b (.failed fun pt hpt hP => hP (by have := L.sum pt hpt; simp [rs] at this ⊢; lia))).call
  ·refine jn ht ?_
   refine jf (xn (aa (ri (rt_and (ad rfl (ec .len (by kernel_rfl) (fun ww => rfl) (zc rfl (zn (h := sn ?_)))))))))
   refine CallW.lenL rfl (by simp) ?_
   refine ei (qi (ab ?_))
   refine jn (by simp) ?_
   refine jf ?_
   refine xn (aa (ag (EvW.bool ?_)))
   exact kept fun ww => ht
 ·refine jn (by lia) ?_
  refine jf ?_
  refine xn (aa (ri (rt_and (ad rfl (ec .len (by kernel_rfl) (fun ww => rfl) (zc rfl (zn (h := sn ?_))))))))
  refine CallW.lenL rfl (by simp; lia) ?_
  rw [List.length_map]
  refine ei (qi (ab ?_))
  by_cases h1 : os.length = 1
  ·refine jd (by lia) ?_
   obtain ⟨p, rfl⟩ : ∃ x, os = [x] := len1 h1
   (refine x0_1 (L.mem p (List.mem_cons_self ..)) ?_; intro hpr z1; refine x1_1 z1 ?_; clear z1; intro d x1 hlt)
   have hv := h.2.1 d (List.mem_of_getElem? x1)
   have ha := R.a p hpr
   have hz := ha0 p hpr
   refine rt_and (ad rfl (aj (zn (h := af (af (zn (h := ei ?_)))))))
   refine SubW.lst (d := pD p) (by intro o i; rfl) rfl (by decide) (by decide) rfl ?_
   refine ei (ak (fun ww ww => rfl) (by simp) ?_)
   refine BinW.mod hz ?_
   refine ei (qi (ab ?_))
   by_cases hm : t.fmod p.1 = 0
   ·refine jd hm ?_
    refine TsW.and0 (jt (aa (ag (em .strike (fun ww => rfl) (fun ww => rfl) (zn (h := zm (q := zc rfl (ai (zc rfl (af (af (zn (h := ei ?_)))))))))))))
    refine SubW.lst (d := pD p) (by intro o i; rfl) rfl (by decide) (by decide) rfl ?_
    refine ei (SubW.t1 (fun ww ww => rfl) (by simp) (zc rfl (eS (zc rfl (aj (zn (h := af (af (zn (h := ei ?_))))))))))
    refine SubW.lst (d := pD p) (by intro o i; rfl) rfl (by decide) (by decide) rfl ?_
    refine ei (ak (fun ww ww => rfl) (by simp) ?_)
    refine BinW.div hz (by lia) ?_
    refine sn ?_
    walk_at "frz"
    refine zc rfl (aj (zn (h := zn (h := ?_))))
    refine BinW.cat (by lia) ?_
    refine sn ?_
    refine (c_Store_strike g (l := ⟨p.2, .ne, t.fdiv p.1⟩) h x1 (by simp; lia) (q.imp fun b ss' E => .strike E x1 hv (fun pt hpt hP hvv => hP ?_) fun s => (L.nos (by simp) s).elim)).call
    have a := L.sum pt hpt
    have b := Int.fmod_add_mul_fdiv t p.1
    have hvv : at0 pt p.2 = t.fdiv p.1 := hvv
    rw [hm, ← hvv] at b
    simp only [rs, List.map_cons, List.map_nil, List.sum_cons, List.sum_nil] at a ⊢
    lia
   ·refine jn hm ?_
    refine jf ?_
    refine xn (aa (ag (EvW.bool ?_)))
    exact kept fun z => (by cases z)
  ·refine jn (by lia) ?_
   refine jf ?_
   refine xn (aa (ag (EvW.bool ?_)))
   exact kept fun z => (h0 (by rw [z]; rfl)).elim
end
end
section
set_option tactic.hygienic false
section
variable (g : G KK) {A : Nat → Prop} {σ : AH} {S k i : Nat} {ss : SS} {pr : Prt} {c : Int}
structure RowOk (pr : Prt) (c : Int) (dm : List (Int × Int)) : Prop extends Rok pr dm where
 nz : ∀ p, p ∈ pr → p.1 ≠ 0
 c : -100000 ≤ c ∧ c ≤ 100000
theorem c_Row_impose {kd : Kd} {why : List PyData} {Q : AV → AH → Prop} (h : St A σ S ss) (hA : A i) (hp : σ.get i = some (.inst 541 (rfl_ kd.s pr c))) (R : RowOk pr c ss.dm) (hwy : why.length ≤ 10)
  (q : Ends A σ S (PropR (Rsat kd pr c) ss) Q) : CodeW g (k + 13) (.ref 526) [.r i, .r S, .d (.tuple why)] σ Q := by
 (refine x3_0 h.get ?_; intro ww ww ww hs)
 refine cf3 "self" "store" "why" (by kernel_rfl) (by kernel_rfl) (fun ww ww ww => rfl) rfl ?_
 cases kd with
 | ne =>
  dsimp only [Kd.s] at hp ⊢
  refine aa (ri (ad rfl (ae (fun ww => rfl) (zn (h := za (q := eS (zeqS true (by decide +kernel) (ab (jt (aa (ag (em .part (fun ww => rfl) (fun ww => rfl) (zn (h := zm (q := zc rfl (zn (h := zc rfl (zn (h := sn ?_)))))))))))))))))))
  exact (c_Row_part g h hA hp R.toRok R.nz hwy q).call
 | le =>
  dsimp only [Kd.s] at hp ⊢
  refine aa (ri (ad rfl (ae (fun ww => rfl) (zn (h := za (q := eS (zeqS false (by decide +kernel) (ab (jf (xn (aa (ri (ad rfl (ae (fun ww => rfl) (zn (h := za (q := eS (zeqS true (by decide +kernel) (ab (jt (aa (ag (em .press (fun ww => rfl) (fun ww => rfl) (zn (h := zm (q := zc rfl (zn (h := zc rfl (ei (zc rfl (zn (h := sn ?_))))))))))))))))))))))))))))))))
  exact (c_Row_press g h hA hp R.toRok (.inl rfl) R.c R.nz hwy (q.imp fun b ss' r => r.iff fun pt ww => by show _ ↔ rs pr pt ≤ c; lia)).call
 | eq =>
  dsimp only [Kd.s] at hp ⊢
  refine aa (ri (ad rfl (ae (fun ww => rfl) (zn (h := za (q := eS (zeqS false (by decide +kernel) (ab (jf (xn (aa (ri (ad rfl (ae (fun ww => rfl) (zn (h := za (q := eS (zeqS false (by decide +kernel) (ab (jf (xn (aa (rq (by kernel_rfl) (fun ww => rfl) (EvW.none (aa ?_)))))))))))))))))))))))))
  refine StW.while (fun n m σ' => ∃ ss' av, m "self" = some (.r i) ∧ m "store" = some (.r S) ∧ m "why" = some (.d (.tuple why)) ∧ m "ahead" = some (.d av) ∧ St A σ' S ss' ∧ Fr A σ σ' ∧ Adv ss ss' ∧ (∀ pt, Inb pt ss.dm → rs pr pt = c → Inb pt ss'.dm) ∧
   ((av = .none ∧ n = (wid ss'.dm).toNat + 2) ∨ ∃ dmo, av = .list (pr.map (endD dmo)) ∧ n = (wid dmo).toNat + 1 ∧ (ss'.dm = dmo ∨ wid ss'.dm < wid dmo) ∧ 0 ≤ wid ss'.dm ∧ (Sgl ss.dm → ∀ pt, Inb pt ss.dm → rs pr pt = c))) ?_ ((wid ss.dm).toNat + 2) ?_
  ·(intro n; intro m; intro σ'; intro z3r; (refine x2_8 z3r ?_; clear z3r; intro ss' av e1 e2 e3 e4 e5 e6 e7 e8 e9))
   have hp' := (e6 i hA).trans hp
   have R' := R.toRok.adv e7
   have hw := wid_pos e5.2.1
   (refine x3_0 e5.get ?_; intro ww ww ww hs)
   refine ad rfl (zn (h := em .ends (fun ww => rfl) (fun ww => rfl) (zn (h := zm (q := zc rfl (zn (h := sn ?_)))))))
   refine (c_Row_ends g e5 hp' R' ?_).call
   have hav : shaped av = true := by
    rcases e9 with ⟨rfl, _⟩ | ⟨dmo, rfl, _⟩
    ·rfl
    ·exact shp_ends.of
   refine CmpW.ne (x := av) rfl rfl hav shp_ends.of ?_
   refine ab ?_
   cases hb : PyData.eqv av (.list (pr.map (endD ss'.dm)))
   ·have hn : (wid ss'.dm).toNat + 1 < n := by
     rcases e9 with ⟨rfl, z⟩ | ⟨dmo, rfl, z1, z2, z3, z4⟩
     ·lia
     ·rcases z2 with z2 | z2
      ·rw [z2, eqv_ends] at hb; cases hb
      ·lia
    refine jt ?_
    refine aa (rq (by kernel_rfl) (fun ww => rfl) (em .ends (fun ww => rfl) (fun ww => rfl) (zn (h := zm (q := zc rfl (zn (h := sn ?_)))))))
    refine (c_Row_ends g e5 hp' R' ?_).call
    refine aa (ri (rt_or (rt_not (rt_plain (fun ww ww => rfl) (em .press (fun ww => rfl) (fun ww => rfl) (zn (h := zm (q := zc rfl (zn (h := zc rfl (ei (zc rfl (zn (h := sn ?_))))))))))))))
    refine (c_Row_press g e5 hA hp' R' (.inl rfl) R.c R.nz hwy fun b1 ss1 σ1 f1 f2 r1 => ?_).call
    refine ab ?_
    have adv1 := e7.trans r1.adv
    have fr1 : Fr A σ σ1 := fun i hi => (f2 i hi).trans (e6 i hi)
    have no : ∀ ss2 σ2, St A σ2 S ss2 → Fr A σ σ2 → Adv ss ss2 → (∀ pt, Inb pt ss.dm → ¬ rs pr pt = c) → Q (.d (.bool false)) σ2 := fun ss2 σ2 a1 a2 a3 a4 => q false ss2 σ2 a1 a2 ⟨a3, fun ww => a4, fun hb => (by cases hb), fun hb => (by cases hb)⟩
    cases b1 with
    | false =>
     refine jt ?_
     refine jt (aa (ag (EvW.bool ?_)))
     exact no ss1 σ1 f1 fr1 adv1 fun pt hpt hP => r1.no rfl pt (e8 pt hpt hP) (by show 1 * rs pr pt ≤ 1 * c; lia)
    | true =>
     refine jf ?_
     (refine x3_0 f1.get ?_; intro ww ww ww hs1)
     have hp1 := (fr1 i hA).trans hp
     refine rt_or (rt_not (rt_plain (fun ww ww => rfl) (em .press (fun ww => rfl) (fun ww => rfl) (zn (h := zm (q := zc rfl (zn (h := zc rfl (rv_un (ei (UnW.neg (zc rfl (zn (h := sn ?_))))))))))))))
     refine (c_Row_press g f1 hA hp1 (R'.adv r1.adv) (.inr rfl) R.c R.nz hwy fun b2 ss2 σ2 g1 g2 r2 => ?_).call
     refine ab ?_
     have adv2 := adv1.trans r2.adv
     have fr2 : Fr A σ σ2 := fun i hi => (g2 i hi).trans (fr1 i hi)
     have k1 : ∀ pt, Inb pt ss.dm → rs pr pt = c → Inb pt ss1.dm := fun pt hpt hP => r1.keep rfl pt (e8 pt hpt hP) (by show 1 * rs pr pt ≤ 1 * c; lia)
     cases b2 with
     | false =>
      refine jt ?_
      refine jt (aa (ag (EvW.bool ?_)))
      exact no ss2 σ2 g1 fr2 adv2 fun pt hpt hP => r2.no rfl pt (k1 pt hpt hP) (by show -1 * rs pr pt ≤ -1 * c; lia)
     | true =>
      refine jf ?_
      refine TsW.or0 (jf (xn (xn ?_)))
      refine ⟨(wid ss'.dm).toNat + 1, hn, ss2, _, by walk_at "lk", by walk_at "lk", by walk_at "lk", by walk_at "lk", g1, fr2, adv2, fun pt hpt hP => r2.keep rfl pt (k1 pt hpt hP) (by show -1 * rs pr pt ≤ -1 * c; lia), .inr ⟨ss'.dm, rfl, rfl, (r1.adv.trans r2.adv).wid, wid_pos g1.2.1, fun s pt hpt => ?_⟩⟩
      have d1 := e7.sgl e5.2.1 s
      have d2 := adv1.sgl f1.2.1 s
      have a1 : 1 * rs pr pt ≤ 1 * c := r1.one rfl (by rw [d1]; exact s) pt (by rw [d1]; exact hpt)
      have a2 : -1 * rs pr pt ≤ -1 * c := r2.one rfl (by rw [d2]; exact s) pt (by rw [d2]; exact hpt)
      lia
   ·refine jf ?_
    refine aa (ag (EvW.bool ?_))
    refine q true ss' σ' e5 e6 ⟨e7, fun hb => (by cases hb), fun ww => e8, fun ww s => ?_⟩
    rcases e9 with ⟨rfl, _⟩ | ⟨dmo, _, _, _, _, z⟩
    ·cases hb
    ·exact z s
  ·exact ⟨ss, .none, by walk_at "lk", by walk_at "lk", by walk_at "lk", by walk_at "lk", h, fun ww ww => rfl, Adv.refl ss, fun pt hpt ww => hpt, .inl ⟨rfl, rfl⟩⟩
end
end
section
set_option tactic.hygienic false
noncomputable def Rv (kd : Kd) (s c : Int) : Prop := match kd with
 | .le => s ≤ c
 | .eq => s = c
 | .ne => s ≠ c
theorem Rsat_v {kd : Kd} {pr : Prt} {c : Int} {pt : List Int} : Rsat kd pr c pt ↔ Rv kd (rs pr pt) c := by cases kd <;> exact Iff.rfl
section
variable (g : G KK) {A : Nat → Prop} {σ : AH} {S k i : Nat} {ss : SS} {pr : Prt} {c : Int}
theorem CmpW.neS {x y : Str} (b : Bool) {Q : AV → AH → Prop} (sx : shaped (.str x) = true) (sy : shaped (.str y) = true) (e : PyData.eqv (.str x) (.str y) = b) (h : Q (.d (.bool (!b))) σ) : CmpW g k .NotEq (.d (.str x)) (.d (.str y)) σ Q :=
 CmpW.ne (x := .str x) (y := .str y) rfl rfl sx sy (by rw [e]; exact h)
theorem c_Row_barred {kd : Kd} {Q : AV → AH → Prop} (h : St A σ S ss) (hA : A i) (hp : σ.get i = some (.inst 541 (rfl_ kd.s pr c))) (R : RowOk pr c ss.dm)
  (q1 : (∀ pt, Inb pt ss.dm → ¬ Rsat kd pr c pt) → ∀ ds, ds.length ≤ 20 → Q (.d (.tuple ds)) σ) (q2 : (Sgl ss.dm → ∀ pt, Inb pt ss.dm → Rsat kd pr c pt) → Q (.d .none) σ) : CodeW g (k + 6) (.ref 533) [.r i, .r S] σ Q := by
 (refine x3_0 h.get ?_; intro ww ww ww hs)
 have fin : ∀ ds, (∀ pt, Inb pt ss.dm → ¬ Rsat kd pr c pt) → ds.length ≤ 20 → Q (.d (.tuple ds)) σ := fun ds a b => q1 a ds b
 refine cf2 "self" "store" (by kernel_rfl) (by kernel_rfl) (fun ww ww => rfl) rfl ?_
 cases kd with
 | le =>
  dsimp only [Kd.s] at hp ⊢
  refine aa (ri (rt_and (ad rfl (ae (fun ww => rfl) (zn (h := za (q := eS ?_)))))))
  refine CmpW.neS g false (by decide +kernel) (by decide +kernel) (by decide +kernel) ?_
  refine ab ?_
  refine jt ?_
  refine rt_and (ad rfl (em .least (fun ww => rfl) (fun ww => rfl) (zn (h := zm (q := zc rfl (zn (h := zc rfl (ei (sn ?_)))))))))
  refine (c_Row_least g h hp R.toRok ?_).call
  refine ae (fun ww => rfl) (zn (h := za (q := CmpW.gt (ab ?_))))
  by_cases hgo : c < lst pr 1 ss.dm
  ·refine jd hgo ?_
   refine TsW.and0 (jt (aa (ag (em .bounds (fun ww => rfl) (fun ww => rfl) (zn (h := zm (q := zc rfl (zn (h := zc rfl (ei (zc rfl (rv_un (ei (UnW.neg (sn ?_)))))))))))))))
   exact (c_Row_bounds g h hA hp R.toRok fun ds hds => q1 (fun pt hpt hP => by have := lst_le (sign := 1) hpt R.x; have hP : rs pr pt ≤ c := hP; lia) ds (by lia)).call
  ·refine jn hgo ?_
   refine jf ?_
   refine xn (aa (ri (ad rfl (ae (fun ww => rfl) (zn (h := za (q := eS (zeqS true (by decide +kernel) (ab (jt (aa (ag (EvW.none ?_)))))))))))))
   exact q2 fun s pt hpt => by have := lst_eq (sign := 1) hpt s R.x; show rs pr pt ≤ c; lia
 | eq =>
  dsimp only [Kd.s] at hp ⊢
  refine aa (ri (rt_and (ad rfl (ae (fun ww => rfl) (zn (h := za (q := eS ?_)))))))
  refine CmpW.neS g false (by decide +kernel) (by decide +kernel) (by decide +kernel) ?_
  refine ab ?_
  refine jt ?_
  refine rt_and (ad rfl (em .least (fun ww => rfl) (fun ww => rfl) (zn (h := zm (q := zc rfl (zn (h := zc rfl (ei (sn ?_)))))))))
  refine (c_Row_least g h hp R.toRok ?_).call
  refine ae (fun ww => rfl) (zn (h := za (q := CmpW.gt (ab ?_))))
  by_cases hgo : c < lst pr 1 ss.dm
  ·refine jd hgo ?_
   refine TsW.and0 (jt (aa (ag (em .bounds (fun ww => rfl) (fun ww => rfl) (zn (h := zm (q := zc rfl (zn (h := zc rfl (ei (zc rfl (rv_un (ei (UnW.neg (sn ?_)))))))))))))))
   exact (c_Row_bounds g h hA hp R.toRok fun ds hds => q1 (fun pt hpt hP => by have := lst_le (sign := 1) hpt R.x; have hP : rs pr pt = c := hP; lia) ds (by lia)).call
  ·refine jn hgo ?_
   refine jf ?_
   refine xn (aa (ri (ad rfl (ae (fun ww => rfl) (zn (h := za (q := eS (zeqS false (by decide +kernel) (ab (jf (xn (aa (ri (rt_and (ad rfl (ae (fun ww => rfl) (zn (h := za (q := eS (zeqS true (by decide +kernel) (ab (jt (rt_and (ad rfl (em .least (fun ww => rfl) (fun ww => rfl) (zn (h := zm (q := zc rfl (zn (h := zc rfl (rv_un (ei (UnW.neg (sn ?_))))))))))))))))))))))))))))))))))
   refine (c_Row_least g h hp R.toRok ?_).call
   refine rv_un (ae (fun ww => rfl) (zn (h := za (q := UnW.neg (CmpW.gt (ab ?_))))))
   by_cases hgo2 : -c < lst pr (-1) ss.dm
   ·refine jd hgo2 ?_
    refine TsW.and0 (jt (aa (ag (em .bounds (fun ww => rfl) (fun ww => rfl) (zn (h := zm (q := zc rfl (zn (h := zc rfl (rv_un (ei (UnW.neg (zc rfl (rv_un (ei (UnW.neg (sn ?_)))))))))))))))))
    exact (c_Row_bounds g h hA hp R.toRok fun ds hds => q1 (fun pt hpt hP => by have := lst_le (sign := -1) hpt R.x; have hP : rs pr pt = c := hP; lia) ds (by lia)).call
   ·refine jn hgo2 ?_
    refine jf ?_
    have one : Sgl ss.dm → ∀ pt, Inb pt ss.dm → Rsat .eq pr c pt := fun s pt hpt => by have := lst_eq (sign := 1) hpt s R.x; have := lst_eq (sign := -1) hpt s R.x; show rs pr pt = c; lia
    refine xn ?_
    refine aa ?_
    refine StW.unp rfl (isVars (by kernel_rfl)) (by intro env; rfl) (by walk_at "he") ?_
    refine TpW.data ?_
    refine em .last (fun ww => rfl) (fun ww => rfl) (zn (h := zm (q := zc rfl (zn (h := sn ?_)))))
    refine (c_Row_last g h hA hp R.toRok fun os t ds L hds => ?_).call
    refine ⟨_, rfl, rfl, ?_⟩
    dsimp only [namesOf, List.map, uA]
    have hol := L.len
    refine aa (ri (ad rfl (ae (fun ww => rfl) (zn (h := za (q := eS (zeqS false (by decide +kernel) (ab (jf (xn (aa (ri (ad rfl (ec .len (by kernel_rfl) (fun ww => rfl) (zc rfl (zn (h := sn ?_)))))))))))))))))
    refine CallW.lenL rfl (by simp; lia) ?_
    rw [List.length_map]
    refine ei (CmpW.neI (ab ?_))
    by_cases h1 : os.length = 1
    ·refine jn (by lia) ?_
     obtain ⟨p, rfl⟩ : ∃ x, os = [x] := len1 h1
     (refine x0_1 (L.mem p (List.mem_cons_self ..)) ?_; intro hpr z1; refine x1_1 z1 ?_; clear z1; intro d x1 hlt)
     have hv := h.2.1 d (List.mem_of_getElem? x1)
     have ha := R.a p hpr
     have hz := R.nz p hpr
     have key : ∀ pt, Inb pt ss.dm → Rsat .eq pr c pt → t = p.1 * at0 pt p.2 := fun pt hpt hP => by
      have a := L.sum pt hpt
      have hP : rs pr pt = c := hP
      simp only [rs, List.map_cons, List.map_nil, List.sum_cons, List.sum_nil] at a hP ⊢
      lia
     refine xn (aa ?_)
     refine StW.unp rfl (isVars (by kernel_rfl)) (by intro env; rfl) (by walk_at "he") ?_
     refine TpW.data ?_
     refine af (zn (h := ei ?_))
     refine SubW.lst (d := pD p) (by intro o i; rfl) rfl (by decide) (by decide) rfl ?_
     refine ⟨_, rfl, rfl, ?_⟩
     dsimp only [namesOf, List.map, uA]
     refine aa (ri (ad rfl (aj (zn (h := zn (h := ?_))))))
     refine BinW.mod hz ?_
     refine ei (CmpW.neI (ab ?_))
     by_cases hm : t.fmod p.1 = 0
     ·refine jn (fun z => z hm) ?_
      refine xn (aa (ag (rv_ifx (rt_plain (fun ww ww => rfl) (em .has (fun ww => rfl) (fun ww => rfl) (zn (h := zm (q := zc rfl (zn (h := zc rfl (aj (zn (h := zn (h := ?_))))))))))))))
      refine BinW.div hz (by lia) ?_
      refine sn ?_
      refine (c_Store_has g h x1 ?_).call
      refine ab ?_
      by_cases hh : d.1 ≤ t.fdiv p.1 ∧ t.fdiv p.1 ≤ d.2
      ·refine jd hh ?_
       refine EvW.none ?_
       exact q2 one
      ·refine jn hh ?_
       refine aj (zn (h := ai (zc rfl (ai (zc rfl (zn (h := zc rfl (eS (zc rfl (aj (zn (h := zn (h := ?_)))))))))))))
       refine BinW.div hz (by lia) ?_
       refine sn ?_
       walk_at "frz"
       refine sn ?_
       walk_at "frz"
       refine BinW.cat (by simp; lia) ?_
       refine q1 (fun pt hpt hP => hh ?_) _ (by simp; lia)
       have e := key pt hpt hP
       have b := Int.fmod_add_mul_fdiv t p.1
       rw [hm] at b
       have : at0 pt p.2 = t.fdiv p.1 := Int.eq_of_mul_eq_mul_left hz (by omega)
       rw [← this]; exact hpt.at x1
     ·refine jd hm ?_
      refine aa (ag (zn (h := ?_)))
      refine q1 (fun pt hpt hP => hm ?_) _ (by lia)
      rw [key pt hpt hP]
      exact Int.mul_fmod_right _ _
    ·refine jd (by lia) ?_
     refine aa (ag (EvW.none ?_))
     exact q2 one
 | ne =>
  dsimp only [Kd.s] at hp ⊢
  refine aa (ri (rt_and (ad rfl (ae (fun ww => rfl) (zn (h := za (q := eS ?_)))))))
  refine CmpW.neS g true (by decide +kernel) (by decide +kernel) (by decide +kernel) ?_
  refine ab ?_
  refine jf ?_
  refine jf ?_
  refine xn (aa (ri (ad rfl (ae (fun ww => rfl) (zn (h := za (q := eS (zeqS false (by decide +kernel) (ab (jf (xn (aa (ri (rt_and (ad rfl (ae (fun ww => rfl) (zn (h := za (q := eS (zeqS false (by decide +kernel) (ab (jf (jf (xn (aa ?_)))))))))))))))))))))))))
  refine StW.unp rfl (isVars (by kernel_rfl)) (by intro env; rfl) (by walk_at "he") ?_
  refine TpW.data ?_
  refine em .last (fun ww => rfl) (fun ww => rfl) (zn (h := zm (q := zc rfl (zn (h := sn ?_)))))
  refine (c_Row_last g h hA hp R.toRok fun os t ds L hds => ?_).call
  refine ⟨_, rfl, rfl, ?_⟩
  dsimp only [namesOf, List.map, uA]
  have hol := L.len
  refine aa (ri (ad rfl (ae (fun ww => rfl) (zn (h := za (q := eS (zeqS true (by decide +kernel) (ab (jt (aa (ag (rv_ifx (rt_and (ad rfl (ec .len (by kernel_rfl) (fun ww => rfl) (zc rfl (zn (h := sn ?_))))))))))))))))))
  refine CallW.lenL rfl (by simp; lia) ?_
  rw [List.length_map]
  refine ei (qi (ab ?_))
  have two : (os = [] → t ≠ 0) → Q (.d .none) σ := fun ht => q2 fun s pt hpt => by
   have e : os = [] := Classical.byContradiction fun z => L.nos z s
   have a := L.sum pt hpt
   have b := ht e
   subst e
   show rs pr pt ≠ c
   simp [rs] at a b ⊢; lia
  by_cases h0 : os.length = 0
  ·have z : os = [] := List.eq_nil_of_length_eq_zero h0
   subst z
   refine jd (by simp) ?_
   refine rt_and (ad rfl (zn (h := ei (qi (ab ?_)))))
   by_cases ht : t = 0
   ·refine jd ht ?_
    refine TsW.and0 (jt (zn (h := ?_)))
    exact q1 (fun pt hpt hP => hP (by have := L.sum pt hpt; simp [rs] at this ⊢; lia)) _ (by lia)
   ·refine jn ht ?_
    refine jf (EvW.none ?_)
    exact two fun ww => ht
  ·refine jn (by lia) ?_
   refine jf ?_
   refine EvW.none ?_
   exact two fun z => (h0 (by rw [z]; rfl)).elim
theorem c_Row_holds {kd : Kd} {d : Nat} {es : List (Int × AV)} {f : Nat → Int} {Q : AV → AH → Prop} (hp : σ.get i = some (.inst 541 (rfl_ kd.s pr c))) (hd : σ.get d = some (.dictI es)) (hl : pr.length ≤ 10)
  (hv : ∀ p, p ∈ pr → getD es (p.2 : Int) = some (.d (.int (f p.2))) ∧ -10 ≤ f p.2 ∧ f p.2 ≤ 10)
  (q : ∀ b, (b = true ↔ Rv kd ((pr.map fun p => p.1 * f p.2).sum) c) → Q (.d (.bool b)) σ) : CodeW g (k + 1) (.ref 538) [.r i, .r d] σ Q := by
 refine cf2 "self" "values" (by kernel_rfl) (by kernel_rfl) (fun ww ww => rfl) rfl ?_
 refine aa (rq (by kernel_rfl) (fun ww => rfl) (aj (ae (fun ww => rfl) (zn (h := za (q := ec .sum (by kernel_rfl) (fun ww => rfl) (zc rfl ?_)))))))
 refine rv_comp (by kernel_rfl) (fun ww ww => rfl) ?_
 refine src_of ?_
 refine ae (fun ww => rfl) (zn (h := za (q := ?_)))
 refine ⟨_, .inl rfl, ?_⟩
 refine cF pD (fun p => some (.int (p.1 * f p.2))) (fun m => m "values" = some (.r d)) pr (by simp; lia) (by walk_at "lk") ?_ ?_
 ·intro p hpr m hm
  have a := hv p hpr
  refine ac2 (by kernel_rfl) (by kernel_rfl) (IfsW.nil (jt (aj (zn (h := af (zn (h := zn (h := ?_))))))))
  refine SubW.dictI (by intro o i; rfl) hd a.1 ?_
  refine BinW.mul (by lia) ?_
  exact ⟨rfl, by walk_at "lk", _, rfl, rfl⟩
 intro m' ww
 rw [List.nil_append, fmS, show pr.map (fun p => PyData.int (p.1 * f p.2)) = (pr.map fun p => p.1 * f p.2).map .int by rw [List.map_map]; rfl]
 refine sn ?_
 refine CallW.sumL rfl ?_
 refine BinW.sub (aa (ri (ad rfl (ae (fun ww => rfl) (zn (h := za (q := eS ?_)))))))
 cases kd
 ·dsimp only [Kd.s] at hp ⊢
  refine zeqS true (by decide +kernel) (ab (jt (aa (ag (rv_cmp rfl (zn (h := ei (CmpW.ge ?_))))))))
  refine q _ ?_
  rw [decide_eq_true_iff]
  show _ ↔ _ ≤ c
  lia
 ·dsimp only [Kd.s] at hp ⊢
  refine zeqS false (by decide +kernel) (ab (jf (xn (aa (ag (rv_cmp rfl (rv_cmp rfl (zn (h := ei (qi (rv_cmp rfl (ae (fun ww => rfl) (zn (h := za (q := eS (zeqS true (by decide +kernel) ?_))))))))))))))))
  refine CmpW.eq (x := .bool _) (y := .bool _) rfl rfl rfl rfl (q _ ?_)
  rw [eqvB, decide_eq_true_iff]
  show _ ↔ _ = c
  lia
 ·dsimp only [Kd.s] at hp ⊢
  refine zeqS false (by decide +kernel) (ab (jf (xn (aa (ag (rv_cmp rfl (rv_cmp rfl (zn (h := ei (qi (rv_cmp rfl (ae (fun ww => rfl) (zn (h := za (q := eS (zeqS false (by decide +kernel) ?_))))))))))))))))
  refine CmpW.eq (x := .bool _) (y := .bool _) rfl rfl rfl rfl (q _ ?_)
  rw [eqvB, decide_eq_false_iff_not]
  show _ ↔ _ ≠ c
  lia
end
end
section
set_option tactic.hygienic false
noncomputable abbrev ifl (b : Nat) (ps : List Nat) (inner : List PyData) (rw : Nat) (more : List (Str × AV)) : List (Str × AV) := ("number", .d (.int (-1))) :: ("scope", .d (.tuple (.int (b : Nat) :: mks ps))) :: ("strength", .d (.str "weak")) :: ("b", .d (.int (b : Nat))) :: ("inner", .d (.tuple inner)) :: ("row", .r rw) :: more
section
variable (g : G KK) {A : Nat → Prop} {σ : AH} {S k p rw b : Nat} {ss : SS} {pr : Prt} {c : Int} {ps : List Nat} {inner : List PyData}
theorem Bx.at {dm : List (Int × Int)} (hB : Bx dm) {x : Nat} (hx : x < 3) {pt : List Int} (h : Inb pt dm) : at0 pt x = 0 ∨ at0 pt x = 1 := by
 (refine x1_2 (hB x hx) ?_; intro p h1 h2 h3)
 have := h.at h1
 lia
theorem Bx.neg {dm : List (Int × Int)} (hB : Bx dm) {x : Nat} (hx : x < 3) {pt : List Int} (h : Inb pt dm) : (l0 x).ok pt ↔ ¬ (l1 x).ok pt := by
 rw [l0_ok, l1_ok]
 have := hB.at hx h
 lia
noncomputable def pim (b : Nat) (kd : Kd) (pr : Prt) (c : Int) (pt : List Int) : Prop := (l1 b).ok pt → Rsat kd pr c pt
theorem c_Imp_told {Q : AV → AH → Prop} (hp : σ.get p = some (.inst 583 (ifl b ps inner rw []))) (q : Q (.d (.tuple [.str "imp", .int (b : Nat), .tuple inner])) σ) : CodeW g (k + 1) (.ref 580) [.r p] σ Q := by
 refine cf1 "self" (by kernel_rfl) (by kernel_rfl) (fun ww => rfl) rfl ?_
 refine aa (ag (ai (zc rfl (eS (zc rfl (ae (fun ww => rfl) (zn (h := za (q := zc rfl (ae (fun ww => rfl) (zn (h := za (q := sn ?_)))))))))))))
 walk_at "frz"
 exact q
theorem c_Reif_told {ro : Nat} {Q : AV → AH → Prop} (hp : σ.get p = some (.inst 623 (ifl b ps inner rw [("other", .r ro)]))) (q : Q (.d (.tuple [.str "reif", .int (b : Nat), .tuple inner])) σ) : CodeW g (k + 1) (.ref 620) [.r p] σ Q := by
 refine cf1 "self" (by kernel_rfl) (by kernel_rfl) (fun ww => rfl) rfl ?_
 refine aa (ag (ai (zc rfl (eS (zc rfl (ae (fun ww => rfl) (zn (h := za (q := zc rfl (ae (fun ww => rfl) (zn (h := za (q := sn ?_)))))))))))))
 walk_at "frz"
 exact q
theorem said1 {l : Lit} {d : Int × Int} {dm : List (Int × Int)} (hx : dm[l.x]? = some d) (hv : d.1 ≤ d.2 ∧ d.2 ≤ d.1 + 1) (h : l.said d.1 d.2 = 1) : ∀ pt, Inb pt dm → l.ok pt := by
 rcases Lit.said_cases (l := l) hv.1 hv.2 with ⟨e, z⟩ | ⟨e, z⟩ | ⟨e, z⟩
 ·exact Lit.all_ok hx z
 ·rw [e] at h; exact absurd h (by decide)
 ·rw [e] at h; exact absurd h (by decide)
theorem c_Imp_prop {kd : Kd} {Q : AV → AH → Prop} (h : St A σ S ss) (hA : A p) (hA2 : A rw) (hp : σ.get p = some (.inst 583 (ifl b ps inner rw []))) (hr : σ.get rw = some (.inst 541 (rfl_ kd.s pr c))) (hB : Bx ss.dm) (hb : b < 3) (R : RowOk pr c ss.dm)
  (q : Ends A σ S (PropR (pim b kd pr c) ss) Q) : CodeW g (k + 14) (.ref 566) [.r p, .r S] σ Q := by
 (refine x1_2 (hB b hb) ?_; intro d hd ww ww)
 have hv := h.2.1 d (List.mem_of_getElem? hd)
 (refine x3_0 h.get ?_; intro ww ww ww hs)
 refine cf2 "self" "store" (by kernel_rfl) (by kernel_rfl) (fun ww ww => rfl) rfl ?_
 refine aa (ri (ad rfl (em .holds (fun ww => rfl) (fun ww => rfl) (zn (h := zm (q := zc rfl (ec .is_one (by kernel_rfl) (fun ww => rfl) (zc rfl (ae (fun ww => rfl) (zn (h := za (q := sn ?_))))))))))))
 refine (c_is_one g ?_).call
 refine sn ?_
 refine (c_Store_holds g (l := l1 b) h hd ?_).call
 refine ei (qi (ab ?_))
 by_cases h1 : (l1 b).said d.1 d.2 = 1
 ·refine jd h1 ?_
  have ok := said1 hd hv h1
  refine aa (ag (em .impose (fun ww => rfl) (fun ww => rfl) (ae (fun ww => rfl) (zn (h := za (q := zm (q := zc rfl (zn (h := zc rfl (ai (zc rfl (ec .is_one (by kernel_rfl) (fun ww => rfl) (zc rfl (ae (fun ww => rfl) (zn (h := za (q := sn ?_)))))))))))))))))
  refine (c_is_one g ?_).call
  refine sn ?_
  walk_at "frz"
  refine sn ?_
  exact (c_Row_impose g h hA2 hr R (by simp) (q.imp fun b ss' r => r.iff fun pt hpt => ⟨fun z ww => z, fun z => z (ok pt hpt)⟩)).call
 ·refine jn h1 ?_
  refine xn (aa (ri (ad rfl (em .holds (fun ww => rfl) (fun ww => rfl) (zn (h := zm (q := zc rfl (ec .is_nought (by kernel_rfl) (fun ww => rfl) (zc rfl (ae (fun ww => rfl) (zn (h := za (q := sn ?_)))))))))))))
  refine (c_is_nought g ?_).call
  refine sn ?_
  refine (c_Store_holds g (l := l0 b) h hd ?_).call
  refine ei (qi (ab ?_))
  by_cases h2 : (l0 b).said d.1 d.2 = 1
  ·refine jd h2 ?_
   have ok := said1 hd hv h2
   refine aa (ag (EvW.bool ?_))
   exact q true ss σ h (fun ww ww => rfl) (.kept fun ww pt hpt z => ((hB.neg hb hpt).mp (ok pt hpt) z).elim)
  ·refine jn h2 ?_
   refine xn (aa (rq (by kernel_rfl) (fun ww => rfl) (em .barred (fun ww => rfl) (fun ww => rfl) (ae (fun ww => rfl) (zn (h := za (q := zm (q := zc rfl (zn (h := sn ?_))))))))))
   refine (c_Row_barred g h hA2 hr R (fun no ds hds => ?_) fun one => ?_).call
   ·refine aa (ag (rv_ifx (ad rfl (zn (h := EvW.none (CmpW.isN_t (ab (jf (em .strike (fun ww => rfl) (fun ww => rfl) (zn (h := zm (q := zc rfl (ec .is_nought (by kernel_rfl) (fun ww => rfl) (zc rfl (ae (fun ww => rfl) (zn (h := za (q := sn ?_))))))))))))))))))
    refine (c_is_nought g ?_).call
    refine zc rfl (zn (h := sn ?_))
    exact (c_Store_strike g (l := l0 b) h hd (by lia) (q.imp fun ww ss' E => .strike E hd hv (fun pt hpt hP => (hB.neg hb hpt).mpr fun z => no pt hpt (hP z)) fun ww pt hpt ho z => ((hB.neg hb hpt).mp ho z).elim)).call
   ·refine aa (ag (rv_ifx (ad rfl (zn (h := EvW.none (CmpW.isN_n (ab (jt (EvW.bool ?_)))))))))
    exact q true ss σ h (fun ww ww => rfl) (.kept fun s pt hpt ww => one s pt hpt)
noncomputable def pre (b : Nat) (kd : Kd) (pr : Prt) (c : Int) (pt : List Int) : Prop := (l1 b).ok pt ↔ Rsat kd pr c pt
theorem c_Reif_prop {ro : Nat} {kd kd' : Kd} {pr' : Prt} {c' : Int} {Q : AV → AH → Prop} (h : St A σ S ss) (hA : A p) (hA2 : A rw) (hA3 : A ro) (hp : σ.get p = some (.inst 623 (ifl b ps inner rw [("other", .r ro)]))) (hr : σ.get rw = some (.inst 541 (rfl_ kd.s pr c))) (hr' : σ.get ro = some (.inst 541 (rfl_ kd'.s pr' c')))
  (hB : Bx ss.dm) (hb : b < 3) (R : RowOk pr c ss.dm) (R' : RowOk pr' c' ss.dm) (ho : ∀ pt, Rsat kd' pr' c' pt ↔ ¬ Rsat kd pr c pt)
  (q : Ends A σ S (PropR (pre b kd pr c) ss) Q) : CodeW g (k + 14) (.ref 606) [.r p, .r S] σ Q := by
 (refine x1_2 (hB b hb) ?_; intro d hd ww ww)
 have hv := h.2.1 d (List.mem_of_getElem? hd)
 (refine x3_0 h.get ?_; intro ww ww ww hs)
 refine cf2 "self" "store" (by kernel_rfl) (by kernel_rfl) (fun ww ww => rfl) rfl ?_
 refine aa (ri (ad rfl (em .holds (fun ww => rfl) (fun ww => rfl) (zn (h := zm (q := zc rfl (ec .is_nought (by kernel_rfl) (fun ww => rfl) (zc rfl (ae (fun ww => rfl) (zn (h := za (q := sn ?_))))))))))))
 refine (c_is_nought g ?_).call
 refine sn ?_
 refine (c_Store_holds g (l := l0 b) h hd ?_).call
 refine ei (qi (ab ?_))
 by_cases h1 : (l0 b).said d.1 d.2 = 1
 ·refine jd h1 ?_
  have ok := said1 hd hv h1
  refine aa (ag (em .impose (fun ww => rfl) (fun ww => rfl) (ae (fun ww => rfl) (zn (h := za (q := zm (q := zc rfl (zn (h := zc rfl (ai (zc rfl (ec .is_nought (by kernel_rfl) (fun ww => rfl) (zc rfl (ae (fun ww => rfl) (zn (h := za (q := sn ?_)))))))))))))))))
  refine (c_is_nought g ?_).call
  refine sn ?_
  walk_at "frz"
  refine sn ?_
  refine (c_Row_impose g h hA3 hr' R' (by simp) (q.imp fun b ss' r => r.iff fun pt hpt => ?_)).call
  rw [ho]
  have := (hB.neg hb hpt).mp (ok pt hpt)
  exact ⟨fun z => ⟨fun y => (this y).elim, fun y => (z y).elim⟩, fun z y => this (z.mpr y)⟩
 ·refine jn h1 ?_
  refine xn (aa (ri (ad rfl (em .holds (fun ww => rfl) (fun ww => rfl) (zn (h := zm (q := zc rfl (ec .is_one (by kernel_rfl) (fun ww => rfl) (zc rfl (ae (fun ww => rfl) (zn (h := za (q := sn ?_)))))))))))))
  refine (c_is_one g ?_).call
  refine sn ?_
  refine (c_Store_holds g (l := l1 b) h hd ?_).call
  refine ei (qi (ab ?_))
  by_cases h2 : (l1 b).said d.1 d.2 = 1
  ·refine jd h2 ?_
   have ok := said1 hd hv h2
   refine aa (ag (em .impose (fun ww => rfl) (fun ww => rfl) (ae (fun ww => rfl) (zn (h := za (q := zm (q := zc rfl (zn (h := zc rfl (ai (zc rfl (ec .is_one (by kernel_rfl) (fun ww => rfl) (zc rfl (ae (fun ww => rfl) (zn (h := za (q := sn ?_)))))))))))))))))
   refine (c_is_one g ?_).call
   refine sn ?_
   walk_at "frz"
   refine sn ?_
   exact (c_Row_impose g h hA2 hr R (by simp) (q.imp fun b ss' r => r.iff fun pt hpt => ⟨fun z => ⟨fun ww => z, fun ww => ok pt hpt⟩, fun z => z.mp (ok pt hpt)⟩)).call
  ·refine jn h2 ?_
   refine xn (aa (rq (by kernel_rfl) (fun ww => rfl) (em .barred (fun ww => rfl) (fun ww => rfl) (ae (fun ww => rfl) (zn (h := za (q := zm (q := zc rfl (zn (h := sn ?_))))))))))
   refine (c_Row_barred g h hA2 hr R (fun no ds hds => ?_) fun one => ?_).call
   ·refine aa (ri (ad rfl (zn (h := EvW.none (CmpW.isNN_t (ab (jt (aa (ag (em .strike (fun ww => rfl) (fun ww => rfl) (zn (h := zm (q := zc rfl (ec .is_nought (by kernel_rfl) (fun ww => rfl) (zc rfl (ae (fun ww => rfl) (zn (h := za (q := sn ?_)))))))))))))))))))
    refine (c_is_nought g ?_).call
    refine zc rfl (zn (h := sn ?_))
    exact (c_Store_strike g (l := l0 b) h hd (by lia) (q.imp fun ww ss' E => .strike E hd hv (fun pt hpt hP => (hB.neg hb hpt).mpr fun z => no pt hpt (hP.mp z)) fun ww pt hpt ho => ⟨fun z => ((hB.neg hb hpt).mp ho z).elim, fun z => (no pt hpt z).elim⟩)).call
   ·refine aa (ri (ad rfl (zn (h := EvW.none (CmpW.isNN_n (ab (jf (xn (aa (rq (by kernel_rfl) (fun ww => rfl) (em .barred (fun ww => rfl) (fun ww => rfl) (ae (fun ww => rfl) (zn (h := za (q := zm (q := zc rfl (zn (h := sn ?_))))))))))))))))))
    refine (c_Row_barred g h hA3 hr' R' (fun no ds hds => ?_) fun one' => ?_).call
    ·refine aa (ag (rv_ifx (ad rfl (zn (h := EvW.none (CmpW.isN_t (ab (jf (em .strike (fun ww => rfl) (fun ww => rfl) (zn (h := zm (q := zc rfl (ec .is_one (by kernel_rfl) (fun ww => rfl) (zc rfl (ae (fun ww => rfl) (zn (h := za (q := sn ?_))))))))))))))))))
     refine (c_is_one g ?_).call
     refine zc rfl (zn (h := sn ?_))
     have yes : ∀ pt, Inb pt ss.dm → Rsat kd pr c pt := fun pt hpt => Classical.byContradiction fun z => no pt hpt ((ho pt).mpr z)
     exact (c_Store_strike g (l := l1 b) h hd (by lia) (q.imp fun ww ss' E => .strike E hd hv (fun pt hpt hP => hP.mpr (yes pt hpt)) fun ww pt hpt ho => ⟨fun ww => yes pt hpt, fun ww => ho⟩)).call
    ·refine aa (ag (rv_ifx (ad rfl (zn (h := EvW.none (CmpW.isN_n (ab (jt (EvW.bool ?_)))))))))
     exact q true ss σ h (fun ww ww => rfl) (.kept fun s pt hpt => ((ho pt).mp (one' s pt hpt) (one s pt hpt)).elim)
end
end
section
set_option tactic.hygienic false
noncomputable def vl (p : Int × Int) : List Int := [-2, -1, 0, 1, 2, 3].filter fun v => decide (p.1 ≤ v ∧ v ≤ p.2)
noncomputable def pts : List (Int × Int) → List (List Int)
 | [] => [[]]
 | p :: r => (vl p).flatMap fun v => (pts r).map (v :: ·)
noncomputable def Wi (dm : List (Int × Int)) : Prop := ∀ p, p ∈ dm → -2 ≤ p.1 ∧ p.2 ≤ 3
theorem mem_vl {p : Int × Int} {v : Int} (h : -2 ≤ p.1 ∧ p.2 ≤ 3) : v ∈ vl p ↔ p.1 ≤ v ∧ v ≤ p.2 := by
 unfold vl
 rw [List.mem_filter, decide_eq_true_iff]
 constructor
 ·exact fun h => h.2
 ·intro k
  refine ⟨?_, k⟩
  have : v = -2 ∨ v = -1 ∨ v = 0 ∨ v = 1 ∨ v = 2 ∨ v = 3 := by lia
  simpa using this
theorem inb_cons {v : Int} {t : List Int} {p : Int × Int} {r : List (Int × Int)} : Inb (v :: t) (p :: r) ↔ (p.1 ≤ v ∧ v ≤ p.2) ∧ Inb t r := by
 constructor
 ·intro h
  exact ⟨h.2 0 v p rfl rfl, by simpa using h.1, fun i w q hw hq => h.2 (i + 1) w q hw hq⟩
 ·(intro z0r; (refine x0_2 z0r ?_; clear z0r; intro h1 h2 h3))
  refine ⟨by simp [h2], fun i w q hw hq => ?_⟩
  cases i with
  | zero => simp at hw hq; subst hw; subst hq; exact h1
  | succ i => exact h3 i w q (by simpa using hw) (by simpa using hq)
theorem mem_pts : ∀ {dm : List (Int × Int)} {pt : List Int}, Wi dm → (pt ∈ pts dm ↔ Inb pt dm)
 | [], pt, _ => by
  constructor
  ·intro h
   cases List.mem_singleton.mp h
   exact ⟨rfl, fun i v p h => by simp at h⟩
  ·intro h
   have := List.eq_nil_of_length_eq_zero h.1
   rw [this]; exact List.mem_singleton.mpr rfl
 | p :: r, pt, hW => by
  have hp := hW p (List.mem_cons_self ..)
  have hr : Wi r := fun q hq => hW q (List.mem_cons_of_mem _ hq)
  unfold pts
  rw [List.mem_flatMap]
  constructor
  ·(intro z0r; (refine x1_1 z0r ?_; clear z0r; intro v hv h))
   (refine x1_1 (List.mem_map.mp h) ?_; intro t ht z1; obtain rfl := z1)
   exact inb_cons.mpr ⟨(mem_vl hp).mp hv, (mem_pts hr).mp ht⟩
  ·intro h
   cases pt with
   | nil => have := h.1; simp at this
   | cons v t =>
    (refine x0_1 (inb_cons.mp h) ?_; intro h1 h2)
    exact ⟨v, (mem_vl hp).mpr h1, List.mem_map.mpr ⟨t, (mem_pts hr).mpr h2, rfl⟩⟩
theorem vl_sub {p p' : Int × Int} (h1 : p.1 ≤ p'.1) (h2 : p'.2 ≤ p.2) : vl p' = (vl p).filter fun v => decide (p'.1 ≤ v ∧ v ≤ p'.2) := by
 unfold vl
 rw [List.filter_filter]
 congr 1
 funext v
 rw [Bool.eq_iff_iff]
 simp
 lia
noncomputable def inbB : List (Int × Int) → List Int → Bool
 | [], [] => true
 | p :: r, v :: t => decide (p.1 ≤ v ∧ v ≤ p.2) && inbB r t
 | _, _ => false
theorem inbB_iff : ∀ {dm : List (Int × Int)} {pt : List Int}, inbB dm pt = true ↔ Inb pt dm
 | [], [] => by simp [inbB, Inb]
 | [], _ :: _ => by simp [inbB, Inb]
 | _ :: _, [] => by simp [inbB, Inb]
 | p :: r, v :: t => by rw [inb_cons, inbB, Bool.and_eq_true, decide_eq_true_iff, inbB_iff]
theorem pts_sub : ∀ {a b : List (Int × Int)}, b.length = a.length → (∀ (i : Nat) (p p' : Int × Int), a[i]? = some p → b[i]? = some p' → p.1 ≤ p'.1 ∧ p'.2 ≤ p.2) → pts b = (pts a).filter (inbB b)
 | [], [], _, _ => rfl
 | [], _ :: _, h, _ => by simp at h
 | _ :: _, [], h, _ => by simp at h
 | x :: r, y :: t, h, hs => by
  have h0 := hs 0 x y rfl rfl
  have ih := pts_sub (a := r) (b := t) (by simpa using h) fun i p p' e e' => hs (i + 1) p p' (by simpa using e) (by simpa using e')
  unfold pts
  rw [vl_sub h0.1 h0.2, ih]
  generalize vl x = l
  induction l with
  | nil => rfl
  | cons v l ihl =>
   rw [List.flatMap_cons, List.filter_append, ← ihl]
   by_cases hv : y.1 ≤ v ∧ v ≤ y.2
   ·rw [List.filter_cons_of_pos (by simpa using hv), List.flatMap_cons]
    congr 1
    rw [List.filter_map]
    congr 1
    congr 1
    funext w
    show inbB t w = (decide (y.1 ≤ v ∧ v ≤ y.2) && inbB t w)
    rw [decide_eq_true hv, Bool.true_and]
   ·rw [List.filter_cons_of_neg (by simpa using hv)]
    have : ((pts r).map (v :: ·)).filter (inbB (y :: t)) = [] := by
     rw [List.filter_eq_nil_iff]
     intro w hw
     (refine x1_1 (List.mem_map.mp hw) ?_; intro u ww z2; obtain rfl := z2)
     show ¬ (decide (y.1 ≤ v ∧ v ≤ y.2) && inbB t u) = true
     rw [decide_eq_false hv, Bool.false_and]; exact Bool.false_ne_true
    rw [this, List.nil_append]
theorem pts_keep {a b : List (Int × Int)} {PB : List Int → Bool} (hl : b.length = a.length) (hs : ∀ (i : Nat) (p p' : Int × Int), a[i]? = some p → b[i]? = some p' → p.1 ≤ p'.1 ∧ p'.2 ≤ p.2) (hW : Wi a) (k : ∀ pt, Inb pt a → PB pt = true → Inb pt b) : (pts b).filter PB = (pts a).filter PB := by
 rw [pts_sub hl hs, List.filter_filter]
 apply List.filter_congr
 intro pt hpt
 rw [Bool.eq_iff_iff, Bool.and_eq_true]
 exact ⟨fun h => h.1, fun h => ⟨h, inbB_iff.mpr (k pt ((mem_pts hW).mp hpt) h)⟩⟩
theorem flatMap_congr' {α β : Type} {f g : α → List β} : ∀ {l : List α}, (∀ v, v ∈ l → f v = g v) → l.flatMap f = l.flatMap g
 | [], _ => rfl
 | a :: r, h => by rw [List.flatMap_cons, List.flatMap_cons, h a (List.mem_cons_self ..), flatMap_congr' fun v hv => h v (List.mem_cons_of_mem _ hv)]
theorem pts_split : ∀ {ahead : List Int} {dm : List (Int × Int)} {p : Int × Int}, (∀ (i : Nat) (v : Int), ahead[i]? = some v → dm[i]? = some (v, v) ∧ -2 ≤ v ∧ v ≤ 3) → dm[ahead.length]? = some p → (-2 ≤ p.1 ∧ p.2 ≤ 3) →
  pts dm = (vl p).flatMap fun v => pts (dm.set ahead.length (v, v))
 | [], [], p, _, h, _ => by simp at h
 | [], q :: r, p, _, h, hp => by
  simp at h
  subst h
  have e : ∀ v, v ∈ vl q → pts ((q :: r).set 0 (v, v)) = (pts r).map (v :: ·) := fun v hv => by
   have hv' := (mem_vl hp).mp hv
   have : vl (v, v) = [v] := by
    have : v = -2 ∨ v = -1 ∨ v = 0 ∨ v = 1 ∨ v = 2 ∨ v = 3 := by lia
    rcases this with rfl | rfl | rfl | rfl | rfl | rfl <;> rfl
   show (vl (v, v)).flatMap _ = _
   rw [this]; simp
  show (vl q).flatMap _ = (vl q).flatMap _
  exact (flatMap_congr' e).symm
 | w :: t, [], p, h, _, _ => by have := (h 0 w rfl).1; simp at this
 | w :: t, q :: r, p, h, hx, hp => by
  have h0 := h 0 w rfl
  have hq : q = (w, w) := by simpa using h0.1
  subst hq
  have ih := pts_split (ahead := t) (dm := r) (p := p) (fun i v hv => by simpa using h (i + 1) v (by simpa using hv)) (by simpa using hx) hp
  have hv1 : vl (w, w) = [w] := by
   have : w = -2 ∨ w = -1 ∨ w = 0 ∨ w = 1 ∨ w = 2 ∨ w = 3 := by lia
   rcases this with rfl | rfl | rfl | rfl | rfl | rfl <;> rfl
  show (vl (w, w)).flatMap _ = _
  rw [hv1]
  simp only [List.flatMap_cons, List.flatMap_nil, List.append_nil]
  rw [ih, List.map_flatMap]
  congr 1
  funext v
  show _ = pts ((w, w) :: r.set t.length (v, v))
  show _ = (vl (w, w)).flatMap _
  rw [hv1]; simp
theorem pts_one : ∀ {ahead : List Int} {dm : List (Int × Int)}, ahead.length = dm.length → (∀ (i : Nat) (v : Int), ahead[i]? = some v → dm[i]? = some (v, v) ∧ -2 ≤ v ∧ v ≤ 3) → pts dm = [ahead]
 | [], [], _, _ => rfl
 | [], _ :: _, h, _ => by simp at h
 | _ :: _, [], h, _ => by simp at h
 | w :: t, q :: r, hl, h => by
  have h0 := h 0 w rfl
  have hq : q = (w, w) := by simpa using h0.1
  subst hq
  have ih := pts_one (ahead := t) (dm := r) (by simpa using hl) fun i v hv => by simpa using h (i + 1) v (by simpa using hv)
  have hv1 : vl (w, w) = [w] := by
   have : w = -2 ∨ w = -1 ∨ w = 0 ∨ w = 1 ∨ w = 2 ∨ w = 3 := by lia
   rcases this with rfl | rfl | rfl | rfl | rfl | rfl <;> rfl
  show (vl (w, w)).flatMap _ = _
  rw [hv1, ih]; simp
theorem vl_len {p : Int × Int} (h : p.2 ≤ p.1 + 1) : (vl p).length ≤ 2 := by
 obtain ⟨lo, hi⟩ := p
 simp only at h
 unfold vl
 by_cases e1 : lo ≤ -2 ∧ -2 ≤ hi <;> by_cases e2 : lo ≤ -1 ∧ -1 ≤ hi <;> by_cases e3 : lo ≤ 0 ∧ 0 ≤ hi <;> by_cases e4 : lo ≤ 1 ∧ 1 ≤ hi <;> by_cases e5 : lo ≤ 2 ∧ 2 ≤ hi <;> by_cases e6 : lo ≤ 3 ∧ 3 ≤ hi <;> first | lia | simp [List.filter, e1, e2, e3, e4, e5, e6]
theorem pts_len : ∀ {dm : List (Int × Int)}, Ok dm → (pts dm).length ≤ 2 ^ dm.length
 | [], _ => Nat.le_refl _
 | p :: r, h => by
  have ih := pts_len (dm := r) fun q hq => h q (List.mem_cons_of_mem _ hq)
  have hv := vl_len (h p (List.mem_cons_self ..)).2
  unfold pts
  have : ∀ l : List Int, (l.flatMap fun v => (pts r).map (v :: ·)).length = l.length * (pts r).length := by
   intro l
   induction l with
   | nil => simp
   | cons a l ih => simp [ih, Nat.succ_mul, Nat.add_comm]
  rw [this, List.length_cons, Nat.pow_succ, Nat.mul_comm (2 ^ r.length)]
  exact Nat.mul_le_mul hv ih
end
section
set_option tactic.hygienic false
section
variable {g : G KK} {k : Nat} {sc : Scope} {m : Loc} {σ : AH}
theorem em_pop {pl : Env → Sem Bool} {o : Expr} {ap : Pos} {args : List Expr} {pos : Pos} {Q : AV → AH → Prop}
  (he : ∀ env, eval (.Call (.Attribute o "pop" ap) args [] pos) env = (do
   let ov ← eval o env
   standAt ap.atName
   let (f, first) ← holding [ov] (getMethod ov "pop" (pl env))
   callWith pos f first (backTo pos (starEach args env)) (backToKw pos (keywordEach [] env)))) (hp : ∀ env, ((backTo pos (starEach args env)).any (·.1)) = false)
  (h : EvW g k sc m σ o (fun a σ1 => ∃ i fs, a = .r i ∧ σ1.get i = some (.inst 244 fs) ∧ fs.lookup ("pop" : Str) = none ∧ SpW g k sc m σ1 args (fun as σ2 => CallW g k (.ref 227) (a :: as) σ2 Q))) :
  EvW g k sc m σ (.Call (.Attribute o "pop" ap) args [] pos) Q := em_at ⟨by kernel_rfl, by kernel_rfl, by kernel_rfl⟩ he hp h
theorem gb_range (hx : sc.names.lookup ("range" : Str) = some .globalImplicit) : GlbW g sc "range" (.type "range") := GlbW.boot hx (by kernel_rfl) (by kernel_rfl) (by decide +kernel) (by kernel_rfl)
end
local macro_rules | `(tactic| walk_at "m_me") => `(tactic| ((with_reducible refine' em_pop ?h1 ?h2 ?_); (case h1 => intro env; rfl); (case h2 => intro env; rfl)))
section
variable (g : G KK) {A : Nat → Prop} {σ : AH} {S k : Nat} {ss : SS}
theorem c_law_open {x : Nat} {p : Int × Int} {Q : AV → AH → Prop} (h : St A σ S ss) (hx : ss.dm[x]? = some p) (q : Q (.d (.list ((vl p).map .int))) σ) : CodeW g (k + 4) (.ref 661) [.r S, .d (.int (x : Nat))] σ Q := by
 (refine x3_0 h.get ?_; intro ww ww ww hs)
 refine cf2 "store" "x" (by kernel_rfl) (by kernel_rfl) (fun ww ww => rfl) rfl ?_
 refine aa (ag ?_)
 refine rv_comp (by kernel_rfl) (fun ww ww => rfl) ?_
 refine SrcW.range2 (gb_range (by kernel_rfl)) (by intro env; rfl) ?_
 refine rv_un (ei (UnW.neg (ei ?_)))
 refine ⟨_, _, rfl, rfl, by decide, by decide, by decide, by decide, ?_⟩
 rw [show rangeD (-2) 4 = [-2, -1, 0, 1, 2, 3].map PyData.int from rfl]
 refine cF PyData.int (fun v => if ¬ (p.1 ≤ v ∧ v ≤ p.2) then none else some (.int v)) (fun m => m "store" = some (.r S) ∧ m "x" = some (.d (.int (x : Nat)))) [-2, -1, 0, 1, 2, 3] (by simp) ⟨by walk_at "lk", by walk_at "lk"⟩ ?_ ?_
 ·intro v ww m hm
  (refine x0_1 hm ?_; clear hm; intro h1 h2)
  refine aN (by kernel_rfl) (IfsW.one (rt_plain (fun ww ww => rfl) (em .has (fun ww => rfl) (fun ww => rfl) (zn (h := zm (q := zc rfl (zn (h := zc rfl (zn (h := sn ?_))))))))))
  refine (c_Store_has g h hx ?_).call
  refine ab ?_
  by_cases hh : p.1 ≤ v ∧ v ≤ p.2
  ·refine jd hh ?_
   refine zn (h := ?_)
   exact ⟨rfl, ⟨by walk_at "lk", by walk_at "lk"⟩, _, rfl, if_neg (fun z => z hh)⟩
  ·exact jn hh ⟨rfl, ⟨by walk_at "lk", by walk_at "lk"⟩, if_pos hh⟩
 intro m' ww
 rw [List.nil_append, filterMap_if (fun v => ¬ (p.1 ≤ v ∧ v ≤ p.2)) PyData.int, show (fun v : Int => !decide (¬ (p.1 ≤ v ∧ v ≤ p.2))) = fun v => decide (p.1 ≤ v ∧ v ≤ p.2) by funext v; rw [Bool.eq_iff_iff]; simp]
 exact q
noncomputable def PrC (g : G KK) (own : Nat → Prop) (σ0 : AH) (p : Nat) (f : Addr) (PB : List Int → Bool) : Prop := ∀ (k : Nat) (A : Nat → Prop) (σ : AH) (S : Nat) (ss : SS) (Q : AV → AH → Prop), (∀ i, own i → A i) → (∀ i, own i → σ.get i = σ0.get i) → St A σ S ss → ss.dm.length = 5 → Bx ss.dm → Wi ss.dm →
 Ends A σ S (PropR (fun pt => PB pt = true) ss) Q → CodeW g (k + 20) (.ref f) [.r p, .r S] σ Q
noncomputable abbrev ptD (pt : List Int) : PyData := .tuple (pt.map .int)
theorem Wi.sub {a b : List (Int × Int)} (h : Wi a) (hl : b.length = a.length) (hs : ∀ (i : Nat) (p p' : Int × Int), a[i]? = some p → b[i]? = some p' → p.1 ≤ p'.1 ∧ p'.2 ≤ p.2) : Wi b := fun p' hp' => by
 obtain ⟨i, hi, e⟩ := List.getElem_of_mem hp'
 have e' : b[i]? = some p' := by rw [List.getElem?_eq_getElem hi, e]
 (refine x1_0 (get_lt hl.symm e') ?_; intro p hp)
 have a := hs i p p' hp e'
 have b := h p (List.mem_of_getElem? hp)
 lia
theorem Bx.sub {a b : List (Int × Int)} (h : Bx a) (hl : b.length = a.length) (hs : ∀ (i : Nat) (p p' : Int × Int), a[i]? = some p → b[i]? = some p' → p.1 ≤ p'.1 ∧ p'.2 ≤ p.2) : Bx b := fun x hx => by
 (refine x1_2 (h x hx) ?_; intro p h1 h2 h3)
 (refine x1_0 (get_lt hl h1) ?_; intro p' e)
 have := hs x p p' h1 e
 exact ⟨p', e, by lia, by lia⟩
theorem c_law_sought {p : Nat} {own : Nat → Prop} {σ0 : AH} {f : Addr} {C : Addr} {fs : List (Str × AV)} {PB : List Int → Bool} (ht : clsOk (KK g.w.params) C = true ∧ methOk (KK g.w.params) C "propagate" f = true ∧ keepF (KK g.w.params) (.ref f) = true) (hlk : fs.lookup ("propagate" : Str) = none)
  (hown : own p) (hp0 : σ0.get p = some (.inst C fs)) (hC : PrC g own σ0 p f PB) : ∀ (n : Nat) (k : Nat) (A : Nat → Prop) (σ : AH) (S : Nat) (ss : SS) (ahead : List Int) (Q : AV → AH → Prop),
  (∀ i, own i → A i) → (∀ i, own i → σ.get i = σ0.get i) → St A σ S ss → ss.dm.length = 5 → Bx ss.dm → Wi ss.dm → ahead.length + n = 5 → (∀ (i : Nat) (v : Int), ahead[i]? = some v → ss.dm[i]? = some (v, v)) → (n = 0 → PB ahead = true) → ss.mr.length + n ≤ 10 →
  (∀ σ' ss' L, St A σ' S ss' → Fr A σ σ' → ss'.dm = ss.dm → ss'.tr = ss.tr → ss'.mr = ss.mr → (ss'.fail = true → ss.fail = true) → σ'.get L = some (.list (((pts ss.dm).filter PB).map ptD)) → Q (.r L) σ') →
  CodeW g (n + k + 22) (.ref 668) [.r S, .r p, .d (ptD ahead)] σ Q := by
 intro n
 induction n with
 | zero =>
  intro k A σ S ss ahead Q hA hg h hl hB hW hn hfx hP hm q
  (refine x3_0 h.get ?_; intro ww ww ww hs)
  refine cf3 "store" "made" "ahead" (by kernel_rfl) (by kernel_rfl) (fun ww ww ww => rfl) rfl ?_
  dsimp only [start, uA, ptD]
  refine aa (ri (ad rfl (ec .len (by kernel_rfl) (fun ww => rfl) (zc rfl (zn (h := sn ?_))))))
  refine CallW.lenT (by simp; lia) ?_
  refine em .size (fun ww => rfl) (fun ww => rfl) (zn (h := zm (q := sn ?_)))
  refine (c_Store_size g h ?_).call
  refine qi (ab ?_)
  refine jd (by simp; lia) ?_
  refine aa (ag ?_)
  refine EvW.lstO ?_
  refine zc rfl (zn (h := sn ?_))
  walk_at "frz"
  refine q _ ss σ.next ((h.push _).mono fun i hi => .inl hi) (fun i hi => al (h.lt hi) rfl) rfl rfl rfl id ?_
  rw [pts_one (by lia) fun i v hv => ⟨hfx i v hv, hW _ (List.mem_of_getElem? (hfx i v hv))⟩, List.filter_cons_of_pos (hP rfl), List.filter_nil]
  exact gP
 | succ n ih =>
  intro k A σ S ss ahead Q hA hg h hl hB hW hn hfx hP hm q
  (refine x3_0 h.get ?_; intro ww ww ww hs)
  have hx : ahead.length < ss.dm.length := by lia
  have hxd := List.getElem?_eq_getElem hx
  generalize hd : ss.dm[ahead.length] = d at hxd
  have hv := h.2.1 d (List.mem_of_getElem? hxd)
  have hwd := hW d (List.mem_of_getElem? hxd)
  refine cf3 "store" "made" "ahead" (by kernel_rfl) (by kernel_rfl) (fun ww ww ww => rfl) rfl ?_
  dsimp only [start, uA, ptD]
  refine aa (ri (ad rfl (ec .len (by kernel_rfl) (fun ww => rfl) (zc rfl (zn (h := sn ?_))))))
  refine CallW.lenT (by simp; lia) ?_
  rw [List.length_map]
  refine em .size (fun ww => rfl) (fun ww => rfl) (zn (h := zm (q := sn ?_)))
  refine (c_Store_size g h ?_).call
  refine qi (ab ?_)
  refine jn (by lia) ?_
  refine xn (aa ?_)
  refine StW.swapped (ns := ["x", "points"]) (isVarsS (by kernel_rfl)) (by intro env; rfl) (by walk_at "he") ?_
  refine TpW.display ?_
  refine zc rfl (ec .len (by kernel_rfl) (fun ww => rfl) (zc rfl (zn (h := sn ?_))))
  refine CallW.lenT (by simp; lia) ?_
  rw [List.length_map]
  refine zc rfl (EvW.lst0 (sn ?_))
  refine ⟨by simp, rfl, ?_⟩
  dsimp only [List.reverse, List.reverseAux, uA]
  refine aa ?_
  refine rw_for (noFree (by kernel_rfl)) (fun ww ww => rfl) ?_
  refine src_of ?_
  refine ec .law_open (by kernel_rfl) (fun ww => rfl) (zc rfl (zn (h := zc rfl (zn (h := sn ?_)))))
  have h' := h.push (.list [])
  refine (c_law_open g h' hxd ?_).call
  refine ⟨_, .inl rfl, ?_⟩
  have hw0 := wid_pos h.2.1
  have htr := h.2.2.2
  have sub : ∀ v, v ∈ vl d → ∀ (i : Nat) (p p' : Int × Int), ss.dm[i]? = some p → (ss.dm.set ahead.length (v, v))[i]? = some p' → p.1 ≤ p'.1 ∧ p'.2 ≤ p.2 := fun v hvv i p p' e e' => by
   have := (mem_vl hwd).mp hvv
   by_cases z : ahead.length = i
   ·subst z
    rw [List.getElem?_set_self hx] at e'
    cases e'; rw [hxd] at e; cases e; lia
   ·rw [List.getElem?_set_ne z, e] at e'; cases e'; lia
  refine ForL.over PyData.int (vl d) (fun done m σ' => ∃ ss', m "store" = some (.r S) ∧ m "made" = some (.r p) ∧ m "ahead" = some (.d (ptD ahead)) ∧ m "x" = some (.d (.int (ahead.length : Nat))) ∧ m "points" = some (.r σ.next) ∧
   St (fun i => A i ∨ i = σ.next) σ' S ss' ∧ Fr A σ σ' ∧ ss'.dm = ss.dm ∧ ss'.tr = ss.tr ∧ ss'.mr = ss.mr ∧ (ss'.fail = true → ss.fail = true) ∧ (done.flatMap fun v => (pts (ss.dm.set ahead.length (v, v))).filter PB).length ≤ 32 * done.length ∧
   σ'.get σ.next = some (.list ((done.flatMap fun v => (pts (ss.dm.set ahead.length (v, v))).filter PB).map ptD))) ?_ ?_ ?_
  ·exact ⟨ss, by walk_at "lk", by walk_at "lk", by walk_at "lk", by walk_at "lk", by walk_at "lk", h', fun i hi => al (h.lt hi) rfl, rfl, rfl, rfl, id, Nat.zero_le _, gP⟩
  ·(intro m; intro σ'; intro z2r; (refine x1_12 z2r ?_; clear z2r; intro ss' e1 e2 e3 e4 e5 e6 e7 e8 e9 e10 e11 e12 e13))
   refine aa (ag (zn (h := ?_)))
   refine q σ' ss' σ.next (e6.mono fun i hi => .inl hi) e7 e8 e9 e10 e11 ?_
   rw [pts_split (fun i v hv => ⟨hfx i v hv, hW _ (List.mem_of_getElem? (hfx i v hv))⟩) hxd hwd, List.filter_flatMap]
   exact e13
  ·(intro done; intro v; intro rest; intro hdn; intro m; intro σ'; intro z6r; (refine x1_12 z6r ?_; clear z6r; intro ss' e1 e2 e3 e4 e5 e6 e7 e8 e9 e10 e11 e12 e13))
   have hvv : v ∈ vl d := by rw [hdn]; simp
   have hvr := (mem_vl hwd).mp hvv
   have hdl : done.length ≤ 2 := by have a := vl_len hv.2; have := congrArg List.length hdn; simp at this; lia
   (refine x3_0 e6.get ?_; intro ww ww ww hs)
   refine as_n (by kernel_rfl) (aa (rw_expr (fun ww => rfl) (em .push (fun ww => rfl) (fun ww => rfl) (zn (h := zm (q := sn ?_))))))
   refine (c_Store_push g e6 (by rw [e10]; lia) fun σ1 f1 f2 => ?_).call
   (refine x3_0 f1.get ?_; intro ww ww ww hs1)
   refine ls_of rfl (aa (ri (rt_and (rt_plain (fun ww ww => rfl) (em .decide (fun ww => rfl) (fun ww => rfl) (zn (h := zm (q := zc rfl (ai (zc rfl (zn (h := zc rfl (eS (zc rfl (zn (h := sn ?_))))))))))))))))
   walk_at "frz"
   refine sn ?_
   have hxd1 : ss'.dm[ahead.length]? = some d := by rw [e8]; exact hxd
   refine (c_Store_decide g (l := ⟨ahead.length, .eq, v⟩) f1 hxd1 fun b2 ss2 σ2 g1 g2 E => ?_).call
   have hcut : (Lit.mk ahead.length .eq v).cut d.1 d.2 = some (v, v) := if_pos hvr
   have adv2 := E.adv hxd1 hv
   have E' := E
   unfold Ent at E'
   rw [hcut] at E'
   (refine x0_2 E' ?_; clear E'; intro e2mr z1 z2; obtain rfl := z1; refine x0_2 z2 ?_; clear z2; intro e2f e2dm ww)
   have dm2 : ss2.dm = ss.dm.set ahead.length (v, v) := by rw [e2dm]; show ss'.dm.set _ _ = _; rw [e8]
   have hB2 : Bx ss2.dm := by rw [dm2]; exact hB.sub (List.length_set ..) (sub v hvv)
   have hW2 : Wi ss2.dm := by rw [dm2]; exact hW.sub (List.length_set ..) (sub v hvv)
   have hl2 : ss2.dm.length = 5 := by rw [dm2, List.length_set]; exact hl
   have fr2 : Fr (fun i => A i ∨ i = σ.next) σ' σ2 := fun i hi => (g2 i hi).trans (f2 i hi)
   have own2 : ∀ i, own i → σ2.get i = σ0.get i := fun i hi => (fr2 i (.inl (hA i hi))).trans ((e7 i (hA i hi)).trans (hg i hi))
   have hp2 : σ2.get p = some (.inst C fs) := (own2 p hown).trans hp0
   have fx2 : ∀ (i : Nat) (w : Int), (ahead ++ [v])[i]? = some w → ss2.dm[i]? = some (w, w) := fun i w hw => by
    rw [dm2]
    by_cases z : ahead.length = i
    ·subst z
     rw [List.getElem?_append_right (Nat.le_refl _)] at hw
     simp at hw
     rw [List.getElem?_set_self hx, hw]
    ·rw [List.getElem?_set_ne z]
     by_cases z2 : i < ahead.length
     ·rw [List.getElem?_append_left z2] at hw
      exact hfx i w hw
     ·rw [List.getElem?_eq_none (by simp; lia)] at hw; cases hw
   have Aof : ∀ i, own i → A i ∨ i = σ.next := fun i hi => .inl (hA i hi)
   have popped : ∀ (m' : Loc) (ss3 : SS) (σ3 : AH) (ys : List (List Int)), m' "store" = some (.r S) → m' "made" = some (.r p) → m' "ahead" = some (.d (ptD ahead)) → m' "x" = some (.d (.int (ahead.length : Nat))) → m' "points" = some (.r σ.next) →
     St (fun i => A i ∨ i = σ.next) σ3 S ss3 → Fr A σ σ3 → Adv ss2 ss3 → σ3.get σ.next = some (.list (ys.map ptD)) → ys = (done ++ [v]).flatMap (fun v => (pts (ss.dm.set ahead.length (v, v))).filter PB) →
     CallW g (n + 1 + k + 21) (.ref 227) [.r S, .d (.int 1)] σ3 fun a σ4 => loose a = true ∧ ∃ ss', m' "store" = some (.r S) ∧ m' "made" = some (.r p) ∧ m' "ahead" = some (.d (ptD ahead)) ∧ m' "x" = some (.d (.int (ahead.length : Nat))) ∧ m' "points" = some (.r σ.next) ∧
      St (fun i => A i ∨ i = σ.next) σ4 S ss' ∧ Fr A σ σ4 ∧ ss'.dm = ss.dm ∧ ss'.tr = ss.tr ∧ ss'.mr = ss.mr ∧ (ss'.fail = true → ss.fail = true) ∧ ((done ++ [v]).flatMap fun v => (pts (ss.dm.set ahead.length (v, v))).filter PB).length ≤ 32 * (done ++ [v]).length ∧
      σ4.get σ.next = some (.list (((done ++ [v]).flatMap fun v => (pts (ss.dm.set ahead.length (v, v))).filter PB).map ptD)) := by
    intro m' ss3 σ3 ys l1 l2 l3 l4 l5 s3 fr3 adv3 hy hye
    have adv : Adv { ss' with mr := ss'.mr ++ [ss'.tr.length] } ss3 := adv2.trans adv3
    (refine x1_2 adv.ext ?_; intro ext x1 x2 x3)
    refine (c_Store_pop g (t0 := ss'.tr) (ext := ext) (ms := ss'.mr) (dm0 := ss'.dm) s3 x1 adv.mr (by rw [e10]; lia) x2 (fun t ht => by rw [adv.len]; exact x3 t ht) ⟨by rw [e8]; exact h.2.1, by rw [e8]; exact h.2.2.1, by rw [e8, e9]; exact htr⟩ fun σ4 s4 fr4 => ⟨rfl, _, l1, l2, l3, l4, l5, s4, fun i hi => (fr4 i (.inl hi)).trans (fr3 i hi), e8, e9, e10, fun z => (by cases z), ?_, ?_⟩).call
    ·rw [List.flatMap_append, List.length_append, List.length_append]
     have okv : Ok (ss.dm.set ahead.length (v, v)) := fun q hq => by
      rcases List.mem_or_eq_of_mem_set hq with hq | rfl
      ·exact h.2.1 q hq
      ·exact ⟨Int.le_refl _, by show v ≤ v + 1; lia⟩
     have := pts_len okv
     rw [List.length_set, hl] at this
     have b := List.length_filter_le PB (pts (ss.dm.set ahead.length (v, v)))
     simp only [List.flatMap_cons, List.flatMap_nil, List.append_nil, List.length_singleton]
     lia
    ·rw [fr4 σ.next (.inr rfl), hy, hye]
   refine ab (jt (rt_and (rt_plain (fun ww ww => rfl) ?_)))
   refine EvW.mono (Q := fun a σ3 => ∃ b3 ss3, a = .d (.bool b3) ∧ St (fun i => A i ∨ i = σ.next) σ3 S ss3 ∧ Fr (fun i => A i ∨ i = σ.next) σ2 σ3 ∧ PropR (fun pt => PB pt = true) ss2 b3 ss3) ?_ fun a σ3 hh => ?_
   ·refine em_at ht (by intro env; rfl) (by intro env; rfl) ?_
    refine zn (h := zm (q := zc rfl (zn (h := sn ?_))))
    exact (hC (n + 1 + k + 1) _ σ2 S ss2 _ Aof own2 g1 hl2 hB2 hW2 fun b3 ss3 σ3 a1 a2 a3 => ⟨b3, ss3, rfl, a1, a2, a3⟩).call
   (refine x2_1 hh ?_; clear hh; intro b3 ss3 z3 z4; obtain rfl := z3; refine x0_2 z4 ?_; clear z4; intro s3 fr3 r3)
   have fr3' : Fr A σ σ3 := fun i hi => (fr3 i (.inl hi)).trans ((fr2 i (.inl hi)).trans (e7 i hi))
   have y3 : σ3.get σ.next = some (.list ((done.flatMap fun v => (pts (ss.dm.set ahead.length (v, v))).filter PB).map ptD)) := (fr3 _ (.inr rfl)).trans ((fr2 _ (.inr rfl)).trans e13)
   (refine x3_0 s3.get ?_; intro ww ww ww hs3)
   have sub3 : ∀ (i : Nat) (p p' : Int × Int), ss2.dm[i]? = some p → ss3.dm[i]? = some p' → p.1 ≤ p'.1 ∧ p'.2 ≤ p.2 := r3.adv.sub
   cases b3 with
   | false =>
    refine ab (jf (jf (xn (aa (rw_expr (fun ww => rfl) (em_pop (fun ww => rfl) (fun ww => rfl) (zn (h := zm (q := zc rfl (ei (sn ?_)))))))))))
    refine (popped (upd m "v" (.d (.int v))) ss3 σ3 (done.flatMap fun v => (pts (ss.dm.set ahead.length (v, v))).filter PB) (by walk_at "lk") (by walk_at "lk") (by walk_at "lk") (by walk_at "lk") (by walk_at "lk") s3 fr3' r3.adv y3 ?_).mono fun a σ4 z => ⟨z.1, xn z.2⟩
    rw [List.flatMap_append]
    have : (pts (ss.dm.set ahead.length (v, v))).filter PB = [] := by
     rw [List.filter_eq_nil_iff]
     intro pt hpt
     rw [← dm2] at hpt
     exact r3.no rfl pt ((mem_pts hW2).mp hpt)
    simp [this]
   | true =>
    refine ab (jt (TsW.and0 (jt (aa (rw_expr (fun ww => rfl) (EvW.extend (by walk_at "mf") (zn (h := ?_))))))))
    refine ⟨σ.next, _, rfl, y3, ?_⟩
    refine zc rfl (ec .law_sought (by kernel_rfl) (fun ww => rfl) (zc rfl (zn (h := zc rfl (zn (h := zc rfl (aj (zn (h := ai (zc rfl (zn (h := sn ?_))))))))))))
    walk_at "frz"
    refine BinW.cat (by simp; lia) ?_
    refine sn ?_
    rw [show ahead.map PyData.int ++ [.int v] = (ahead ++ [v]).map .int by simp]
    have fx3 : ∀ (i : Nat) (w : Int), (ahead ++ [v])[i]? = some w → ss3.dm[i]? = some (w, w) := fun i w hw => by
     have e := fx2 i w hw
     (refine x1_0 (get_lt r3.adv.len e) ?_; intro p' e')
     have a := sub3 i _ _ e e'
     have b := s3.2.1 p' (List.mem_of_getElem? e')
     rw [e']
     exact congrArg some (Prod.ext (by lia) (by lia))
    refine ((ih k _ σ3 S ss3 (ahead ++ [v]) _ Aof (fun i hi => (fr3 i (Aof i hi)).trans (own2 i hi)) s3 (by rw [r3.adv.len]; exact hl2) (hB2.sub r3.adv.len sub3) (hW2.sub r3.adv.len sub3) (by simp; lia) fx3 (fun hn0 => ?_) (by rw [r3.adv.mr, e2mr]; simp [e10]; lia) fun σ4 ss4 L s4 fr4 d4 t4 m4 f4 y4 => ?_).call).lift (by lia)
    ·subst hn0
     have hal : (ahead ++ [v]).length = ss2.dm.length := by rw [hl2]; simp; lia
     refine r3.one rfl (fun q hq => ?_) (ahead ++ [v]) ⟨hal, fun i w q hw hq => ?_⟩
     ·obtain ⟨i, hi, e⟩ := List.getElem_of_mem hq
      have hi2 : i < (ahead ++ [v]).length := by rw [hal]; exact hi
      have := fx2 i _ (List.getElem?_eq_getElem hi2)
      rw [List.getElem?_eq_getElem hi, e] at this
      cases this; rfl
     ·rw [fx2 i w hw] at hq
      cases hq; exact ⟨Int.le_refl _, Int.le_refl _⟩
    ·have y4' : σ4.get σ.next = some (.list ((done.flatMap fun v => (pts (ss.dm.set ahead.length (v, v))).filter PB).map ptD)) := (fr4 _ (.inr rfl)).trans y3
     have same : (pts ss3.dm).filter PB = (pts (ss.dm.set ahead.length (v, v))).filter PB := by
      rw [← dm2]
      exact pts_keep r3.adv.len sub3 hW2 fun pt hpt hP => r3.keep rfl pt hpt hP
     have okv : Ok ss3.dm := s3.2.1
     have := pts_len okv
     rw [r3.adv.len, hl2] at this
     have b := List.length_filter_le PB (pts ss3.dm)
     refine sn ?_
     refine ⟨L, _, _, rfl, y4', y4, by rw [List.length_map, List.length_map]; lia, ?_⟩
     (refine x3_0 s4.get ?_; intro ww ww ww hs4)
     have hSn : S ≠ σ.next := by have := h.get; (refine x0_1 h ?_; clear h; intro z5 r; (refine x5_0 z5 ?_; clear z5; intro m' n' cl fs' es h0)); have := h0.lm; lia
     refine ls_of rfl (xn (aa (rw_expr (fun ww => rfl) (em_pop (fun ww => rfl) (fun ww => rfl) (zn (h := zm (q := zc rfl (ei (sn ?_)))))))))
     refine (popped (upd m "v" (.d (.int v))) ss4 _ ((done ++ [v]).flatMap fun v => (pts (ss.dm.set ahead.length (v, v))).filter PB) (by walk_at "lk") (by walk_at "lk") (by walk_at "lk") (by walk_at "lk") (by walk_at "lk") (s4.set (.inr rfl) _) (fun i hi => ah (Nat.ne_of_lt (h.lt hi)) ((fr4 i (.inl hi)).trans (fr3' i hi))) ?_ ?_ rfl).mono fun a σ4 z => ⟨z.1, xn z.2⟩
     ·(refine x1_2 r3.adv.ext ?_; intro ext x1 x2 x3)
      exact ⟨m4.trans r3.adv.mr, by rw [d4]; exact r3.adv.len, ⟨ext, t4.trans x1, by rw [d4]; exact x2, x3⟩, by rw [d4]; exact sub3⟩
     ·rw [List.flatMap_append, List.map_append]
      simp only [List.flatMap_cons, List.flatMap_nil, List.append_nil]
      rw [← same]
      exact gS
end
end
section
set_option tactic.hygienic false
section
variable {prog : Program} {w : World}
structure SubIt (prog : Program) (w : World) (i l : Addr) (xs : Array Value) (St : Nat → Heap → Prop) : Prop where
 keep : ∀ k h h', St k h → (∀ o, h.get? i = some o → h'.get? i = some o) → (∀ o, h.get? l = some o → h'.get? l = some o) → St k h'
 live : ∀ k h, St k h → ∃ o, h.get? i = some o
 item : ∀ (A : Around) (E : Value → Shared → Prop) (s : Shared) (k : Nat) (x : Value) (Q : Value → Shared → Prop), St k s.heap → xs[k]? = some x → (∀ h', St (k + 1) h' → Heap.SameBut i s.heap h' → Q x { s with heap := h' }) → wpAny (model prog w) A (Builtin.SmallTypes.nextOf (.ref i)) Q E s
 stop : ∀ (A : Around) (E : Value → Shared → Prop) (s : Shared) (k : Nat) (Q : Value → Shared → Prop), A.handled = none → St k s.heap → xs[k]? = none → (∀ h' e, Heap.ExtBut i s.heap h' → (∃ o, h'.get? e = some o ∧ o.cls = .type "StopIteration") → E (.ref e) { s with heap := h' }) → wpAny (model prog w) A (Builtin.SmallTypes.nextOf (.ref i)) Q E s
theorem SubIt.list {i l : Addr} (hne : l ≠ i) (xs : Array Value) : SubIt prog w i l xs (fun k h => h.IsListIter i l k ∧ h.IsList l xs) where
 keep := fun k h h' st h1 h2 => ⟨st.1.at h1, st.2.at h2⟩
 live := fun k h st => x1_1 st.1 fun o e ww => ⟨o, e⟩
 item := fun A E s k x Q st hx hQ => wpAny_nextOf_list_item st.1 st.2 hx fun h' a b => hQ h' ⟨a, st.2.extBut b.extBut hne⟩ b
 stop := fun A E s k Q hh st hx hE => wpAny_nextOf_list_end hh st.1 st.2 hx hE
theorem SubIt.tuple {i l : Addr} (hne : l ≠ i) (xs : Array Value) : SubIt prog w i l xs (fun k h => h.IsTupleIter i l k ∧ h.IsTuple l xs) where
 keep := fun k h h' st h1 h2 => ⟨st.1.at h1, st.2.at h2⟩
 live := fun k h st => x1_1 st.1 fun o e ww => ⟨o, e⟩
 item := fun A E s k x Q st hx hQ => by
  (refine x1_2 (id st.1) ?_; intro o ho hc hd)
  (refine x1_2 (id st.2) ?_; intro ol hol hcl z1; refine x1_0 z1 ?_; clear z1; intro nl hdl)
  unfold Builtin.SmallTypes.nextOf
  refine wpAny_bind (wpAny_callSpecial?_slot (name := Str.ofString "__next__") st.1.typeIs F.slot_tuple_iterator_next (wpAny_call_entry F.slot_tuple_iterator_next st.1.typeIs F.entry_tuple_iterator_next ?_ (F.args_tuple_iterator_next_1 _)))
  show wpAny _ _ (field (.ref i) 0 >>= _) _ _ s
  refine wpAny_bind (wpAny_field ho hd (x := .ref l) rfl ?_)
  show wpAny _ _ (if (Value.ref l == Value.none) = true then _ else _) _ _ s
  rw [if_neg (show ¬ ((Value.ref l == Value.none) = true) from Bool.false_ne_true)]
  show wpAny _ _ (field (.ref i) 1 >>= _) _ _ s
  refine wpAny_bind (wpAny_field ho hd (x := .int k 0) rfl ?_)
  show wpAny _ _ (seqItems? (.ref l) >>= _) _ _ s
  refine wpAny_bind (wpAny_seqItems hol hdl ?_)
  simp only [Int.toNat_natCast, hx]
  refine wpAny_bind (wpAny_setField ho hd (by simp) (wpAny_pure ⟨x, rfl, wpAny_pure (hQ _ ⟨⟨_, Heap.get?_update_self _ ho (Obj.isFreed_of_fields (Obj.data_mapFields hd _)), (Obj.cls_mapFields ..).trans hc, ?_⟩, ?_⟩ (Heap.SameBut.update ..))⟩))
  ·rw [Obj.data_mapFields hd]; simp [rawInt]
  ·exact st.2.extBut (Heap.SameBut.update ..).extBut hne
 stop := fun A E s k Q hh st hx hE => by
  (refine x1_2 (id st.1) ?_; intro o ho hc hd)
  (refine x1_2 (id st.2) ?_; intro ol hol hcl z2; refine x1_0 z2 ?_; clear z2; intro nl hdl)
  unfold Builtin.SmallTypes.nextOf
  refine wpAny_bind (wpAny_callSpecial?_slot (name := Str.ofString "__next__") st.1.typeIs F.slot_tuple_iterator_next (wpAny_call_entry F.slot_tuple_iterator_next st.1.typeIs F.entry_tuple_iterator_next ?_ (F.args_tuple_iterator_next_1 _)))
  show wpAny _ _ (field (.ref i) 0 >>= _) _ _ s
  refine wpAny_bind (wpAny_field ho hd (x := .ref l) rfl ?_)
  show wpAny _ _ (if (Value.ref l == Value.none) = true then _ else _) _ _ s
  rw [if_neg (show ¬ ((Value.ref l == Value.none) = true) from Bool.false_ne_true)]
  show wpAny _ _ (field (.ref i) 1 >>= _) _ _ s
  refine wpAny_bind (wpAny_field ho hd (x := .int k 0) rfl ?_)
  show wpAny _ _ (seqItems? (.ref l) >>= _) _ _ s
  refine wpAny_bind (wpAny_seqItems hol hdl ?_)
  simp only [Int.toNat_natCast, hx]
  refine wpAny_bind (wpAny_rule (wpAny_bind (wpAny_setField ho hd (by simp) ?_)))
  show wpAny _ _ (newExc (.type "StopIteration") [] >>= _) _ _ _
  refine wpAny_bind ?_
  simp only [newExc, newTuple]
  refine wpAny_bind (wpAny_newObj_type ?_ (by size_fits))
  refine wpAny_bind (m := firstArgMember _ _) (wpAny_of_eq (a := Value.none) (by first | rfl | (simp only [firstArgMember]; rfl)) ?_)
  refine wpAny_newObj_type ?_ (by size_fits)
  simp only [raiseNew]
  refine wpAny_bind (wpAny_handled ?_)
  first | rw [show A.in1.handled = none from hh] | rw [hh]
  refine wpAny_bind (wpAny_pure (wpAny_throw ?_))
  exact hE _ _ (((Heap.SameBut.update ..).extBut.push _).push _) ⟨_, Heap.get?_push_size _ rfl, rfl⟩
end
end
section
set_option tactic.hygienic false
section
variable {prog : Program} {w : World} {A : Around} {E : Value → Shared → Prop} {s : Shared} {z TI TO i1 i2 l1 l2 : Addr} {xs ys : Array Value} {St1 St2 : Nat → Heap → Prop}
structure ZipAt (h : Heap) (z TI TO i1 i2 : Addr) (f0 : Value) (St1 St2 : Nat → Heap → Prop) (k : Nat) : Prop where
 z : IsZip h z TI TO f0
 TI : IsPair h TI (.ref i1) (.ref i2)
 TO : ∃ a b, IsPair h TO a b
 s1 : St1 k h
 s2 : St2 k h
theorem ZipAt.keep (I1 : SubIt prog w i1 l1 xs St1) (I2 : SubIt prog w i2 l2 ys St2) {h h' : Heap} {f0 : Value} {k : Nat} (Z : ZipAt h z TI TO i1 i2 f0 St1 St2 k) (e : ∀ b, b = z ∨ b = TI ∨ b = TO ∨ b = i1 ∨ b = i2 ∨ b = l1 ∨ b = l2 → ∀ o, h.get? b = some o → h'.get? b = some o) : ZipAt h' z TI TO i1 i2 f0 St1 St2 k :=
 ⟨e z (by simp) _ Z.z, e TI (by simp) _ Z.TI, x2_0 Z.TO fun a b x => ⟨a, b, e TO (by simp) _ x⟩, I1.keep _ _ _ Z.s1 (e i1 (by simp)) (e l1 (by simp)), I2.keep _ _ _ Z.s2 (e i2 (by simp)) (e l2 (by simp))⟩
theorem zipItem (D : ZipApart z TI TO i1 i2 l1 l2) (I1 : SubIt prog w i1 l1 xs St1) (I2 : SubIt prog w i2 l2 ys St2) {k : Nat} {x y : Value} {Q : Option Value → Shared → Prop} (Z : ZipAt s.heap z TI TO i1 i2 .none St1 St2 k) (hx : xs[k]? = some x) (hy : ys[k]? = some y)
  (hQ : ∀ h', ZipAt h' z TI TO i1 i2 (rawInt s.heap.objs.size) St1 St2 (k + 1) → IsPair h' s.heap.objs.size x y → (∀ c o, c ≠ z → c ≠ TO → c ≠ i1 → c ≠ i2 → s.heap.get? c = some o → h'.get? c = some o) → Q (some (.ref s.heap.objs.size)) { s with heap := h' }) :
  wpAny (model prog w) A (pyNext (.ref z)) Q E s := by
 obtain ⟨hz, hTI, ⟨a, b, hTO⟩, h1, h2⟩ := Z
 have hT : s.TypeIs (.ref z) "zip" := ⟨_, hz, rfl⟩
 unfold pyNext
 refine wpAny_bind (wpAny_attempt (wpAny_callSpecial?_slot (name := Str.ofString "__next__") hT F.slot_zip_next (wpAny_call_entry F.slot_zip_next hT F.entry_zip_next ?_ (F.args_zip_next_1 _))))
 show wpAny _ _ (field (.ref z) 2 >>= _) _ _ _
 refine wpAny_bind (wpAny_field hz rfl (x := .bool false) rfl ?_)
 show wpAny _ _ (field (.ref z) 3 >>= _) _ _ _
 refine wpAny_bind (wpAny_field hz rfl (x := .ref TI) rfl ?_)
 refine wpAny_bind (wpAny_seqItems hTI rfl ?_)
 show wpAny _ _ (Builtin.SmallTypes.ownedTupleIsFree (.ref z) >>= _) _ _ _
 refine wpAny_bind ?_
 unfold Builtin.SmallTypes.ownedTupleIsFree
 refine wpAny_bind (wpAny_field hz rfl (x := .none) rfl (wpAny_pure ?_))
 simp only [if_true]
 refine wpAny_bind (wpAny_rule ?_)
 refine wpAny_bind (wpAny_field hz rfl (x := .ref TO) rfl ?_)
 refine wpAny_bind (wpAny_setField_rec hz (by simp) fun ha hza sa => ?_)
 replace hza : IsZip ha z TI TO .ellipsis := hza
 refine wpAny_bind ?_
 simp only [List.zipIdx_cons, List.zipIdx_nil, List.forIn_cons, List.forIn_nil]
 refine wpAny_bind (wpAny_bind (wpAny_onRaise ?_))
 show wpAny _ _ (Builtin.SmallTypes.nextOf (.ref i1) >>= _) _ _ _
 refine wpAny_bind (I1.item _ _ _ k x _ (I1.keep _ _ _ h1 (fun o e => sa.extBut _ _ D.i1z e) fun o e => sa.extBut _ _ D.l1z e) hx fun hb h1b sb => wpAny_pure ?_)
 have hTOb : IsPair hb TO a b := sb.extBut _ _ D.TOi1 (sa.extBut _ _ D.TOz hTO)
 refine wpAny_bind (wpAny_seqItems hTOb rfl ?_)
 refine wpAny_bind (wpAny_updateSeq_pair hTOb fun hc hTOc sc => ?_)
 replace hTOc : IsPair hc TO x b := hTOc
 refine wpAny_bind (wpAny_letGo (wpAny_pure ?_))
 refine wpAny_bind (wpAny_bind (wpAny_onRaise ?_))
 show wpAny _ _ (Builtin.SmallTypes.nextOf (.ref i2) >>= _) _ _ _
 refine wpAny_bind (I2.item _ _ _ k y _ (I2.keep _ _ _ h2 (fun o e => sc.extBut _ _ D.TOi2.symm (sb.extBut _ _ D.i12.symm (sa.extBut _ _ D.i2z e))) fun o e => sc.extBut _ _ D.l2TO (sb.extBut _ _ D.l2i1 (sa.extBut _ _ D.l2z e))) hy fun hd h2d sd => wpAny_pure ?_)
 have hTOd : IsPair hd TO x b := sd.extBut _ _ D.TOi2 hTOc
 refine wpAny_bind (wpAny_seqItems hTOd rfl ?_)
 refine wpAny_bind (wpAny_updateSeq_pair hTOd fun he hTOe se => ?_)
 replace hTOe : IsPair he TO x y := hTOe
 refine wpAny_bind (wpAny_letGo (wpAny_pure (wpAny_pure ?_)))
 refine wpAny_bind (wpAny_seqItems hTOe rfl ?_)
 refine wpAny_bind (wpAny_newTuple ?_)
 have hsz : he.objs.size = s.heap.objs.size := by rw [se.1, sd.1, sc.1, sb.1, sa.1]
 have up : ∀ c o, c ≠ z → c ≠ TO → c ≠ i1 → c ≠ i2 → s.heap.get? c = some o → he.get? c = some o := fun c o c1 c2 c3 c4 e => se.extBut _ _ c2 (sd.extBut _ _ c4 (sc.extBut _ _ c2 (sb.extBut _ _ c3 (sa.extBut _ _ c1 e))))
 have hze : IsZip he z TI TO .ellipsis := se.extBut _ _ D.TOz.symm (sd.extBut _ _ D.i2z.symm (sc.extBut _ _ D.TOz.symm (sb.extBut _ _ D.i1z.symm hza)))
 have hzlt : z < he.objs.size := Heap.lt_size hze
 have h1e : St1 (k + 1) he := I1.keep _ _ _ h1b (fun o e => se.extBut _ _ D.TOi1.symm (sd.extBut _ _ D.i12 (sc.extBut _ _ D.TOi1.symm e))) fun o e => se.extBut _ _ D.l1TO (sd.extBut _ _ D.l1i2 (sc.extBut _ _ D.l1TO e))
 have h2e : St2 (k + 1) he := I2.keep _ _ _ h2d (fun o e => se.extBut _ _ D.TOi2.symm e) fun o e => se.extBut _ _ D.l2TO e
 show wpAny _ _ (Builtin.SmallTypes.ownedTupleHandOut (.ref z) (.ref he.objs.size) >>= _) _ _ _
 refine wpAny_bind ?_
 unfold Builtin.SmallTypes.ownedTupleHandOut
 have hzf : IsZip (he.push { cls := .type "tuple", data := .seq #[x, y] }) z TI TO .ellipsis := Heap.get?_push_of_some _ hze
 refine wpAny_bind (wpAny_setField_rec hzf (by simp) fun hg hzg sg => ?_)
 replace hzg : IsZip hg z TI TO (rawInt he.objs.size) := hzg
 refine wpAny_setField_rec hzg (by simp) fun hk hzk sk => ?_
 replace hzk : IsZip hk z TI TO (rawInt he.objs.size) := hzk
 have up2 : ∀ c o, c ≠ z → he.get? c = some o → hk.get? c = some o := fun c o c1 e => sk.extBut _ _ c1 (sg.extBut _ _ c1 (Heap.get?_push_of_some _ e))
 have hTk : IsPair hk he.objs.size x y := sk.extBut _ _ (Nat.ne_of_gt hzlt) (sg.extBut _ _ (Nat.ne_of_gt hzlt) (Heap.get?_push_size _ rfl))
 refine wpAny_pure ⟨.ref he.objs.size, rfl, ?_⟩
 rw [hsz] at hzk hTk ⊢
 exact wpAny_pure (hQ hk ⟨hzk, up2 _ _ D.TIz (up _ _ D.TIz D.TITO D.TIi1 D.TIi2 hTI), ⟨x, y, up2 _ _ D.TOz hTOe⟩, I1.keep _ _ _ h1e (fun o e => up2 _ _ D.i1z e) (fun o e => up2 _ _ D.l1z e), I2.keep _ _ _ h2e (fun o e => up2 _ _ D.i2z e) (fun o e => up2 _ _ D.l2z e)⟩ hTk fun c o c1 c2 c3 c4 e => up2 c o c1 (up c o c1 c2 c3 c4 e))
theorem zipEnd (D : ZipApart z TI TO i1 i2 l1 l2) (I1 : SubIt prog w i1 l1 xs St1) (I2 : SubIt prog w i2 l2 ys St2) {k : Nat} {Q : Option Value → Shared → Prop} (hh : A.handled = none) (Z : ZipAt s.heap z TI TO i1 i2 .none St1 St2 k) (hend : xs[k]? = none ∨ ys[k]? = none)
  (hQ : ∀ h', (∀ c o, c ≠ z → c ≠ TO → c ≠ i1 → c ≠ i2 → s.heap.get? c = some o → h'.get? c = some o) → Q none { s with heap := h' }) : wpAny (model prog w) A (pyNext (.ref z)) Q E s := by
 obtain ⟨hz, hTI, ⟨a, b, hTO⟩, h1, h2⟩ := Z
 have hT : s.TypeIs (.ref z) "zip" := ⟨_, hz, rfl⟩
 have fin : ∀ h' e, (∀ c o, c ≠ z → c ≠ TO → c ≠ i1 → c ≠ i2 → s.heap.get? c = some o → h'.get? c = some o) → (∃ o, h'.get? e = some o ∧ o.cls = .type "StopIteration") → wpAny (model prog w) A (do if ← isInstance (.ref e) (.type "StopIteration") then pure none else throw (.ref e)) Q E { s with heap := h' } := fun h' e hk he => by
  (refine x1_1 he ?_; clear he; intro o ho hc)
  exact wpAny_bind (wpAny_isInstance (T := "StopIteration") (b := true) ⟨o, ho, hc⟩ isSubtype_stop (wpAny_pure (hQ _ hk)))
 unfold pyNext
 refine wpAny_bind (wpAny_attempt (wpAny_callSpecial?_slot (name := Str.ofString "__next__") hT F.slot_zip_next (wpAny_call_entry F.slot_zip_next hT F.entry_zip_next ?_ (F.args_zip_next_1 _))))
 show wpAny _ _ (field (.ref z) 2 >>= _) _ _ _
 refine wpAny_bind (wpAny_field hz rfl (x := .bool false) rfl ?_)
 show wpAny _ _ (field (.ref z) 3 >>= _) _ _ _
 refine wpAny_bind (wpAny_field hz rfl (x := .ref TI) rfl ?_)
 refine wpAny_bind (wpAny_seqItems hTI rfl ?_)
 show wpAny _ _ (Builtin.SmallTypes.ownedTupleIsFree (.ref z) >>= _) _ _ _
 refine wpAny_bind ?_
 unfold Builtin.SmallTypes.ownedTupleIsFree
 refine wpAny_bind (wpAny_field hz rfl (x := .none) rfl (wpAny_pure ?_))
 simp only [if_true]
 refine wpAny_bind (wpAny_rule ?_)
 refine wpAny_bind (wpAny_field hz rfl (x := .ref TO) rfl ?_)
 refine wpAny_bind (wpAny_setField_rec hz (by simp) fun ha hza sa => ?_)
 replace hza : IsZip ha z TI TO .ellipsis := hza
 refine wpAny_bind ?_
 simp only [List.zipIdx_cons, List.zipIdx_nil, List.forIn_cons, List.forIn_nil]
 refine wpAny_bind (wpAny_bind (wpAny_onRaise ?_))
 show wpAny _ _ (Builtin.SmallTypes.nextOf (.ref i1) >>= _) _ _ _
 have h1a := I1.keep _ _ _ h1 (fun o e => sa.extBut _ _ D.i1z e) fun o e => sa.extBut _ _ D.l1z e
 cases hx : xs[k]? with
 | none =>
  refine wpAny_bind (I1.stop _ _ _ k _ hh h1a hx fun hb e sb he => ?_)
  (refine x1_1 he ?_; clear he; intro oe hoe hce)
  have hzb : IsZip hb z TI TO .ellipsis := sb _ _ D.i1z.symm hza
  have hez : e ≠ z := fun x => by subst x; rw [hzb] at hoe; cases hoe; simp at hce
  exact wpAny_setField_rec hzb (by simp) fun hc ww sc => fin hc e (fun c o c1 ww c3 ww x => sc.extBut _ _ c1 (sb _ _ c3 (sa.extBut _ _ c1 x))) ⟨oe, sc.extBut _ _ hez hoe, hce⟩
 | some x =>
  have hy : ys[k]? = none := by rcases hend with h | h; rw [hx] at h; cases h; exact h
  refine wpAny_bind (I1.item _ _ _ k x _ h1a hx fun hb h1b sb => wpAny_pure ?_)
  have hTOb : IsPair hb TO a b := sb.extBut _ _ D.TOi1 (sa.extBut _ _ D.TOz hTO)
  refine wpAny_bind (wpAny_seqItems hTOb rfl ?_)
  refine wpAny_bind (wpAny_updateSeq_pair hTOb fun hc hTOc sc => ?_)
  refine wpAny_bind (wpAny_letGo (wpAny_pure ?_))
  refine wpAny_bind (wpAny_bind (wpAny_onRaise ?_))
  show wpAny _ _ (Builtin.SmallTypes.nextOf (.ref i2) >>= _) _ _ _
  refine wpAny_bind (I2.stop _ _ _ k _ hh (I2.keep _ _ _ h2 (fun o e => sc.extBut _ _ D.TOi2.symm (sb.extBut _ _ D.i12.symm (sa.extBut _ _ D.i2z e))) fun o e => sc.extBut _ _ D.l2TO (sb.extBut _ _ D.l2i1 (sa.extBut _ _ D.l2z e))) hy fun hd e sd he => ?_)
  (refine x1_1 he ?_; clear he; intro oe hoe hce)
  have hzd : IsZip hd z TI TO .ellipsis := sd _ _ D.i2z.symm (sc.extBut _ _ D.TOz.symm (sb.extBut _ _ D.i1z.symm hza))
  have hez : e ≠ z := fun x => by subst x; rw [hzd] at hoe; cases hoe; simp at hce
  exact wpAny_setField_rec hzd (by simp) fun he' ww se => fin he' e (fun c o c1 c2 c3 c4 x => se.extBut _ _ c1 (sd _ _ c4 (sc.extBut _ _ c2 (sb.extBut _ _ c3 (sa.extBut _ _ c1 x))))) ⟨oe, se.extBut _ _ hez hoe, hce⟩
end
end
section
set_option tactic.hygienic false
noncomputable abbrev ziT (h : Heap) (l : Addr) : Obj := { cls := .type "tuple_iterator", data := .fields #[.ref l, .int 0 0] }
section
variable {prog : Program} {w : World} {A : Around} {E : Value → Shared → Prop} {s : Shared}
theorem meets_zip_tuples (l1 l2 : Addr) (xs ys : Array Value) :
  Meets (Builtin.«zip.__new__» ⟨[.type "zip", .ref l1, .ref l2], []⟩) (fun ww R s => s.heap.IsTuple l1 xs ∧ s.heap.IsTuple l2 ys ∧
   R (.ok (.ret (.ref (s.heap.objs.size + 4)))) { s with heap := ((((s.heap.push (ziT s.heap l1)).push (ziT s.heap l2)).push { cls := .type "tuple", data := .seq #[.ref s.heap.objs.size, .ref (s.heap.objs.size + 1)] }).push { cls := .type "tuple", data := .seq #[.none, .none] }).push { cls := .type "zip", data := .fields #[.none, .bool false, .bool false, .ref (s.heap.objs.size + 2), .ref (s.heap.objs.size + 3)] } }) :=
 .of_wp fun prog w A R s h => by
  obtain ⟨hp, g, d, tk, os⟩ := s; (refine x0_2 h ?_; clear h; intro hl1 hl2 h)
  have hsub := sub_zip
  have hL1 : Heap.IsTuple (Shared.heap ⟨hp, g, d, tk, os⟩) l1 xs := hl1
  have hL2 : Heap.IsTuple (Shared.heap ⟨hp.push (ziT hp l1), g, d, tk, os⟩) l2 ys := Heap.IsTuple.push hl2 _
  have z1 : ∀ o, (hp.push o).objs.size = hp.objs.size + 1 := fun o => Heap.size_push ..
  have z2 : ∀ o o', ((hp.push o).push o').objs.size = hp.objs.size + 2 := fun o o' => by rw [Heap.size_push, z1]
  have z3 : ∀ o o' o2, (((hp.push o).push o').push o2).objs.size = hp.objs.size + 3 := fun o o' o2 => by rw [Heap.size_push, z2]
  have z4 : ∀ o o' o2 o3, ((((hp.push o).push o').push o2).push o3).objs.size = hp.objs.size + 4 := fun o o' o2 o3 => by rw [Heap.size_push, z3]
  wp_walk using wpAny_pyIter_tuple hL1, wpAny_pyIter_tuple hL2
  refine ⟨_, rfl, ?_⟩
  simp only [z1, z2, z3, z4]
  exact h
theorem call_zip_tuples {l1 l2 : Addr} {xs ys : Array Value} {Q : Value → Shared → Prop} (hl1 : s.heap.IsTuple l1 xs) (hl2 : s.heap.IsTuple l2 ys)
  (h : ∀ h', IsZip h' (s.heap.objs.size + 4) (s.heap.objs.size + 2) (s.heap.objs.size + 3) .none → IsPair h' (s.heap.objs.size + 2) (.ref s.heap.objs.size) (.ref (s.heap.objs.size + 1)) →
   IsPair h' (s.heap.objs.size + 3) .none .none → h'.IsTupleIter s.heap.objs.size l1 0 → h'.IsTupleIter (s.heap.objs.size + 1) l2 0 → (∀ c o, s.heap.get? c = some o → h'.get? c = some o) → Q (.ref (s.heap.objs.size + 4)) { s with heap := h' }) :
  wpAny (model prog w) A (call (.type "zip") [.ref l1, .ref l2]) Q E s := by
 refine callType_new F.called_zip (by decide) (F.typeCall_zip_2 _ _) (F.newCall_zip_2 _ _) (fun obj => F.args_object_init_3 obj _ _) F.entry_zip_new (meets_zip_tuples l1 l2 xs ys) ⟨hl1, hl2, ?_⟩
 have z1 : ∀ o, (s.heap.push o).objs.size = s.heap.objs.size + 1 := fun o => Heap.size_push ..
 have z2 : ∀ o o', ((s.heap.push o).push o').objs.size = s.heap.objs.size + 2 := fun o o' => by rw [Heap.size_push, z1]
 have z3 : ∀ o o' o2, (((s.heap.push o).push o').push o2).objs.size = s.heap.objs.size + 3 := fun o o' o2 => by rw [Heap.size_push, z2]
 have z4 : ∀ o o' o2 o3, ((((s.heap.push o).push o').push o2).push o3).objs.size = s.heap.objs.size + 4 := fun o o' o2 o3 => by rw [Heap.size_push, z3]
 have g5 : ∀ o o' o2 o3 o4, o4.isFreed = false → (((((s.heap.push o).push o').push o2).push o3).push o4).get? (s.heap.objs.size + 4) = some o4 := fun o o' o2 o3 o4 hf => by rw [← z4 o o' o2 o3]; exact Heap.get?_push_size _ hf
 have g4 : ∀ o o' o2 o3 o4, o3.isFreed = false → (((((s.heap.push o).push o').push o2).push o3).push o4).get? (s.heap.objs.size + 3) = some o3 := fun o o' o2 o3 o4 hf => by rw [← z3 o o' o2]; exact Heap.get?_push_of_some _ (Heap.get?_push_size _ hf)
 have g3 : ∀ o o' o2 o3 o4, o2.isFreed = false → (((((s.heap.push o).push o').push o2).push o3).push o4).get? (s.heap.objs.size + 2) = some o2 := fun o o' o2 o3 o4 hf => by rw [← z2 o o']; exact Heap.get?_push_of_some _ (Heap.get?_push_of_some _ (Heap.get?_push_size _ hf))
 have g2 : ∀ o o' o2 o3 o4, o'.isFreed = false → (((((s.heap.push o).push o').push o2).push o3).push o4).get? (s.heap.objs.size + 1) = some o' := fun o o' o2 o3 o4 hf => by rw [← z1 o]; exact Heap.get?_push_of_some _ (Heap.get?_push_of_some _ (Heap.get?_push_of_some _ (Heap.get?_push_size _ hf)))
 have g1 : ∀ o o' o2 o3 o4, o.isFreed = false → (((((s.heap.push o).push o').push o2).push o3).push o4).get? s.heap.objs.size = some o := fun o o' o2 o3 o4 hf => Heap.get?_push_of_some _ (Heap.get?_push_of_some _ (Heap.get?_push_of_some _ (Heap.get?_push_of_some _ (Heap.get?_push_size _ hf))))
 exact ⟨⟨_, g5 _ _ _ _ _ rfl, rfl⟩, h _ (g5 _ _ _ _ _ rfl) (g3 _ _ _ _ _ rfl) (g4 _ _ _ _ _ rfl) ⟨_, g1 _ _ _ _ _ rfl, rfl, rfl⟩ ⟨_, g2 _ _ _ _ _ rfl, rfl, rfl⟩ fun c o x =>
  Heap.get?_push_of_some _ (Heap.get?_push_of_some _ (Heap.get?_push_of_some _ (Heap.get?_push_of_some _ (Heap.get?_push_of_some _ x))))⟩
end
end
section
set_option tactic.hygienic false
section
variable {K : Params → Frag} {g : G K} {k : Nat} {sc : Scope} {m : Loc} {σ : AH}
theorem m45 {α : Type} {a b c d e x : α} (h : x ∈ [a, c, d, e]) : x ∈ [a, b, c, d, e] := (List.mem_cons.mp h).elim (fun y => y ▸ List.Mem.head _) fun y => .tail _ (.tail _ y)
theorem q41 {α : Type} {x a b c d : α} (h : x = a) : x ∈ [a, b, c, d] := h ▸ List.Mem.head _
theorem q42 {α : Type} {x a b c d : α} (h : x = b) : x ∈ [a, b, c, d] := .tail _ (h ▸ List.Mem.head _)
theorem q43 {α : Type} {x a b c d : α} (h : x = c) : x ∈ [a, b, c, d] := .tail _ (.tail _ (h ▸ List.Mem.head _))
theorem q44 {α : Type} {x a b c d : α} (h : x = d) : x ∈ [a, b, c, d] := .tail _ (.tail _ (.tail _ (h ▸ List.Mem.head _)))
theorem o4 {α : Type} {x a b c d : α} (h : x ∈ [a, b, c, d]) : x = a ∨ x = b ∨ x = c ∨ x = d := by simpa using h
theorem ifn {α : Type} {p : Prop} [Decidable p] {a b : α} (h : ¬ p) : (if p then a else b) = b := if_neg h
theorem Iter.zip {A : Around} {elts : List Expr} {n : Nat} {pos : Pos} {z TI TO i1 i2 l1 l2 : Addr} {xs ys : Array Value} {St1 St2 : Nat → Heap → Prop} (hh : A.handled = none) (D : ZipApart z TI TO i1 i2 l1 l2) (I1 : SubIt g.prog g.w i1 l1 xs St1) (I2 : SubIt g.prog g.w i2 l2 ys St2) :
  ∀ (rest : List PyData) (W : Wd) (k : Nat) (σ : AH) (h : Heap), Abs g W σ h → ZipAt h z TI TO i1 i2 .none St1 St2 k → (∀ b, b ∈ [z, TI, TO, i1, i2] → ∃ o, W.P b = some o) → (∃ o, W.F l1 = some o) → (∃ o, W.F l2 = some o) →
   (∀ j d, rest[j]? = some d → ∃ x y dx dy, xs[k + j]? = some x ∧ ys[k + j]? = some y ∧ Rd W.F x dx ∧ Rd W.F y dy ∧ d = .tuple [dx, dy]) → (xs[k + rest.length]? = none ∨ ys[k + rest.length]? = none) →
   Iter g A (· ∈ [z, TI, TO, i1, i2]) (.Tuple elts n pos) (.ref z) rest W := by
 have still : ∀ {W W' : Wd} {σ σ' : AH} {h : Heap} {s : Shared} {k : Nat}, Abs g W σ h → Abs g W' σ' s.heap → Le W W' → (∀ a, a ∈ [z, TI, TO, i1, i2] → W'.P a = W.P a) → ZipAt h z TI TO i1 i2 .none St1 St2 k → (∀ b, b ∈ [z, TI, TO, i1, i2] → ∃ o, W.P b = some o) → (∃ o, W.F l1 = some o) → (∃ o, W.F l2 = some o) →
   ZipAt s.heap z TI TO i1 i2 .none St1 St2 k ∧ (∀ b, b ∈ [z, TI, TO, i1, i2] → ∃ o, W'.P b = some o) ∧ (∃ o, W'.F l1 = some o) ∧ (∃ o, W'.F l2 = some o) := by
  intro W W' σ σ' h s k X X' l hp Z hw f1 f2
  have P : ∀ b, b ∈ [z, TI, TO, i1, i2] → ∀ o, h.get? b = some o → s.heap.get? b = some o := fun b hb o e => by
   (refine x1_0 (hw b hb) ?_; intro o' e')
   have := X.keepP _ _ e'
   rw [e] at this; cases this
   exact X'.keepP _ _ (by rw [hp b hb]; exact e')
  have Fk : ∀ b, (∃ o, W.F b = some o) → ∀ o, h.get? b = some o → s.heap.get? b = some o := fun b hb o e => by
   (refine x1_0 hb ?_; clear hb; intro o' e')
   have := X.keepF _ _ e'
   rw [e] at this; cases this
   exact X'.keepF _ _ (l.F _ _ e')
  refine ⟨Z.keep I1 I2 fun b hb => ?_, fun b hb => by rw [hp b hb]; exact hw b hb, x1_0 f1 fun o e => ⟨o, l.F _ _ e⟩, x1_0 f2 fun o e => ⟨o, l.F _ _ e⟩⟩
  rcases hb with rfl | rfl | rfl | rfl | rfl | rfl | rfl
  ·exact P _ (List.Mem.head _)
  ·exact P _ (.tail _ (List.Mem.head _))
  ·exact P _ (.tail _ (.tail _ (List.Mem.head _)))
  ·exact P _ (.tail _ (.tail _ (.tail _ (List.Mem.head _))))
  ·exact P _ (.tail _ (.tail _ (.tail _ (.tail _ (List.Mem.head _)))))
  ·exact Fk _ f1
  ·exact Fk _ f2
 intro rest
 induction rest with
 | nil =>
  intro W k σ h X Z hw f1 f2 ww hend W' σ' s l hp X'
  (refine x0_3 (still X X' l hp Z hw f1 f2) ?_; intro Z' hw' f1' f2')
  rw [List.length_nil, Nat.add_zero] at hend
  have wr : ∀ b, b ∈ [z, TO, i1, i2] → ∃ o, W'.P b = some o := fun b hb => hw' b (m45 hb)
  refine zipEnd D I1 I2 hh Z' hend fun h' hk => ⟨rfl, _, ⟨X'.turnP wr (fun b o hb e => hk b o (fun x => hb (q41 x)) (fun x => hb (q42 x)) (fun x => hb (q43 x)) (fun x => hb (q44 x)) e), ⟨fun ww ww e => e, Nat.le_refl _, fun ww ww => rfl, fun ww ww => rfl⟩, rfl, rfl⟩, fun a ha => ?_⟩
  exact if_neg (fun x => ha (m45 x))
 | cons d rest ih =>
  intro W k σ h X Z hw f1 f2 hi hend W' σ' s l hp X'
  (refine x0_3 (still X X' l hp Z hw f1 f2) ?_; intro Z' hw' f1' f2')
  have wr : ∀ b, b ∈ [z, TO, i1, i2] → ∃ o, W'.P b = some o := fun b hb => hw' b (m45 hb)
  (refine x4_4 (hi 0 d rfl) ?_; intro x y dx dy hx hy rx ry z1; obtain rfl := z1)
  rw [Nat.add_zero] at hx hy
  refine zipItem D I1 I2 Z' hx hy fun h' Zm hT hk => ⟨_, rfl, ?_⟩
  refine wpAny_letOwnedTupleGo_zip Zm.z fun h2 hz2 hs2 => ?_
  have lt : ∀ b, b ∈ [z, TI, TO, i1, i2] → b < s.heap.objs.size := fun b hb => x1_0 (hw' b hb) fun o e => X'.pLt e
  have hk2 : ∀ b o, b ∉ [z, TO, i1, i2] → s.heap.get? b = some o → h2.get? b = some o := fun b o hb e =>
   hs2.extBut _ _ (fun x => hb (q41 x)) (hk b o (fun x => hb (q41 x)) (fun x => hb (q42 x)) (fun x => hb (q43 x)) (fun x => hb (q44 x)) e)
  have X1 := X'.turnP wr hk2
  have hT2 : h2.get? s.heap.objs.size = some { cls := .type "tuple", data := .seq #[x, y] } := hs2.extBut _ _ (fun x => absurd (lt z (List.Mem.head _)) (by rw [← x]; exact Nat.lt_irrefl _)) hT
  have nw : s.heap.objs.size ∉ [z, TO, i1, i2] := fun x => absurd (lt _ (m45 x)) (Nat.lt_irrefl _)
  have hP2 : (if s.heap.objs.size ∈ [z, TO, i1, i2] then h2.get? s.heap.objs.size else W'.P s.heap.objs.size) = none := (if_neg nw).trans X'.pNew
  have X2 := X1.addF hT2 X'.fNew hP2 (fun i => X'.oNew)
  have l1' : Le W' { W' with P := fun b => if b ∈ [z, TO, i1, i2] then h2.get? b else W'.P b } := ⟨fun ww ww e => e, Nat.le_refl _, fun ww ww => rfl, fun ww ww => rfl⟩
  have l2' := l1'.trans (X1.leF X'.fNew { cls := .type "tuple", data := .seq #[x, y] })
  have l3 := l.trans l2'
  refine ⟨_, ⟨X2, l2', rfl, rfl⟩, fun a ha => ?_, Rd.tuple (Wd.addF_at _ _ _) rfl rfl (.cons (Rd.mono l3.F rx) (.cons (Rd.mono l3.F ry) .nil)), ?_⟩
  ·exact if_neg (fun x => ha (m45 x))
  ·refine ih _ (k + 1) σ' h2 X2 ⟨hz2, hs2.extBut _ _ D.TIz Zm.TI, x2_0 Zm.TO fun a b e => ⟨a, b, hs2.extBut _ _ D.TOz e⟩, I1.keep _ _ _ Zm.s1 (fun o e => hs2.extBut _ _ D.i1z e) (fun o e => hs2.extBut _ _ D.l1z e), I2.keep _ _ _ Zm.s2 (fun o e => hs2.extBut _ _ D.i2z e) (fun o e => hs2.extBut _ _ D.l2z e)⟩ (fun b hb => ?_) (x1_0 f1 fun o e => ⟨o, l3.F _ _ e⟩) (x1_0 f2 fun o e => ⟨o, l3.F _ _ e⟩) (fun j d hd => ?_) ?_
   ·show ∃ o, (if b ∈ [z, TO, i1, i2] then h2.get? b else W'.P b) = some o
    by_cases q : b ∈ [z, TO, i1, i2]
    ·rw [if_pos q]
     rcases o4 q with rfl | rfl | rfl | rfl
     ·exact ⟨_, hz2⟩
     ·(refine x2_0 Zm.TO ?_; intro a b' e); exact ⟨_, hs2.extBut _ _ D.TOz e⟩
     ·(refine x1_0 (I1.live _ _ Zm.s1) ?_; intro o e); exact ⟨o, hs2.extBut _ _ D.i1z e⟩
     ·(refine x1_0 (I2.live _ _ Zm.s2) ?_; intro o e); exact ⟨o, hs2.extBut _ _ D.i2z e⟩
    ·rw [if_neg q]; exact hw' b hb
   ·(refine x4_4 (hi (j + 1) d (by simpa using hd)) ?_; intro x' y' dx' dy' a1 a2 a3 a4 a5)
    exact ⟨x', y', dx', dy', by rw [Nat.add_assoc, Nat.add_comm 1 j]; exact a1, by rw [Nat.add_assoc, Nat.add_comm 1 j]; exact a2, Rd.mono l3.F a3, Rd.mono l3.F a4, a5⟩
   ·rw [List.length_cons] at hend
    rw [show k + 1 + rest.length = k + (rest.length + 1) by lia]; exact hend
end
end
section
set_option tactic.hygienic false
section
variable {K : Params → Frag} {g : G K} {k : Nat} {sc : Scope} {m : Loc} {σ : AH}
theorem zip_src {A : Around} {elts : List Expr} {n : Nat} {tpos : Pos} {W : Wd} {s : Shared} {h' : Heap} {l1 l2 : Addr} {xs ys : Array Value} {ds es : List PyData} {St1 St2 : Nat → Heap → Prop} {Q : Value → Shared → Prop} (R : Room k A) (X : Abs g W σ s.heap) (f1 : ∃ o, W.F l1 = some o) (f2 : ∃ o, W.F l2 = some o)
  (I1 : SubIt g.prog g.w s.heap.objs.size l1 xs St1) (I2 : SubIt g.prog g.w (s.heap.objs.size + 1) l2 ys St2) (gr : Grows s.heap h') (hz : IsZip h' (s.heap.objs.size + 4) (s.heap.objs.size + 2) (s.heap.objs.size + 3) .none) (hTI : IsPair h' (s.heap.objs.size + 2) (.ref s.heap.objs.size) (.ref (s.heap.objs.size + 1))) (hTO : IsPair h' (s.heap.objs.size + 3) .none .none)
  (st1 : St1 0 h') (st2 : St2 0 h') (r1 : RdAll W.F xs.toList ds) (r2 : RdAll W.F ys.toList es)
  (q : ∀ W' ip, Abs g W' σ h' → Le W W' → (∀ a, ¬ ip a → W'.P a = W.P a) → (∀ a, ip a → W.P a = none ∧ ∃ o, W'.P a = some o) → Iter g A ip (.Tuple elts n tpos) (.ref (s.heap.objs.size + 4)) ((ds.zip es).map fun p => .tuple [p.1, p.2]) W' → SelfIt g A ip (.ref (s.heap.objs.size + 4)) W' → Q (.ref (s.heap.objs.size + 4)) { s with heap := h' }) :
  wpAny (model g.prog g.w) A (pyIter (.ref (s.heap.objs.size + 4))) Q NoE { s with heap := h' } := by
 have D : ZipApart (s.heap.objs.size + 4) (s.heap.objs.size + 2) (s.heap.objs.size + 3) s.heap.objs.size (s.heap.objs.size + 1) l1 l2 := by
  (refine x1_0 f1 ?_; clear f1; intro o1 e1)
  (refine x1_0 f2 ?_; clear f2; intro o2 e2)
  exact PyProof.Rows.zipApart_new (X.fLt e1) (X.fLt e2)
 have Z : ZipAt h' (s.heap.objs.size + 4) (s.heap.objs.size + 2) (s.heap.objs.size + 3) s.heap.objs.size (s.heap.objs.size + 1) .none St1 St2 0 := ⟨hz, hTI, ⟨_, _, hTO⟩, st1, st2⟩
 let ip : Addr → Prop := (· ∈ [s.heap.objs.size + 4, s.heap.objs.size + 2, s.heap.objs.size + 3, s.heap.objs.size, s.heap.objs.size + 1])
 have hip : ∀ a, ip a → s.heap.objs.size ≤ a := fun a ha => by
  have : a = s.heap.objs.size + 4 ∨ a = s.heap.objs.size + 2 ∨ a = s.heap.objs.size + 3 ∨ a = s.heap.objs.size ∨ a = s.heap.objs.size + 1 := by simpa [ip] using ha
  rcases this with rfl | rfl | rfl | rfl | rfl <;> first | exact Nat.le_refl _ | exact Nat.le_add_right _ _
 have hex : ∀ a, ip a → ∃ o, h'.get? a = some o := fun a ha => by
  have : a = s.heap.objs.size + 4 ∨ a = s.heap.objs.size + 2 ∨ a = s.heap.objs.size + 3 ∨ a = s.heap.objs.size ∨ a = s.heap.objs.size + 1 := by simpa [ip] using ha
  rcases this with rfl | rfl | rfl | rfl | rfl
  ·exact ⟨_, hz⟩
  ·exact ⟨_, hTI⟩
  ·exact ⟨_, hTO⟩
  ·exact I1.live _ _ st1
  ·exact I2.live _ _ st2
 have nP : ∀ a, ip a → W.P a = none := fun a ha => by
  cases e : W.P a with
  | none => rfl
  | some o => exact absurd (X.pLt e) (Nat.not_lt.mpr (hip a ha))
 have X' := X.moreP gr (P := fun a => open Classical in if ip a then h'.get? a else W.P a) fun a o e => by
  by_cases ha : ip a
  ·rw [if_pos ha] at e
   exact .inr ⟨Heap.get?_none_of_le (hip a ha), e⟩
  ·rw [if_neg ha] at e; exact .inl e
 have l : Le W { W with P := fun a => open Classical in if ip a then h'.get? a else W.P a } := ⟨fun ww ww e => e, Nat.le_refl _, fun ww ww => rfl, fun ww ww => rfl⟩
 have P1 : ∀ a, ip a → ∃ o, (open Classical in if ip a then h'.get? a else W.P a) = some o := fun a ha => by rw [if_pos ha]; exact hex a ha
 refine wpAny_pyIter_zip hz (q _ ip X' l (fun a ha => if_neg ha) (fun a ha => ⟨nP a ha, P1 a ha⟩) ?_ ?_)
 ·have la := r1.length
  have lb := r2.length
  rw [Array.length_toList] at la lb
  refine Iter.zip R.handled D I1 I2 _ _ 0 σ h' X' Z (fun b hb => P1 b hb) f1 f2 (fun j d hd => ?_) ?_
  ·rw [List.getElem?_map] at hd
   cases e : (ds.zip es)[j]? with
   | none => rw [e] at hd; cases hd
   | some p =>
    rw [e] at hd
    cases hd
    obtain ⟨e1, e2⟩ := List.getElem?_zip_eq_some.mp e
    (refine x1_1 (r1.get e1) ?_; intro v hv rv)
    (refine x1_1 (r2.get e2) ?_; intro u hu ru)
    exact ⟨v, u, _, _, by rw [Nat.zero_add, ← Array.getElem?_toList]; exact hv, by rw [Nat.zero_add, ← Array.getElem?_toList]; exact hu, rv, ru, rfl⟩
  ·rw [Nat.zero_add, List.length_map, List.length_zip]
   rcases Nat.le_total ds.length es.length with h | h
   ·exact .inl (Array.getElem?_eq_none (by lia))
   ·exact .inr (Array.getElem?_eq_none (by lia))
 ·intro W' σ' s' Q' l' hp X2 q'
  have : W'.P (s.heap.objs.size + 4) = h'.get? (s.heap.objs.size + 4) := (hp _ (by simp [ip])).trans (if_pos (by simp [ip]))
  exact wpAny_pyIter_zip (X2.keepP _ _ (this.trans hz)) q'
theorem SrcW.zip {p : Pos} {e1 e2 : Expr} {pos : Pos} {elts : List Expr} {n : Nat} {tpos : Pos} {Q : List PyData → AH → Prop} (hx : GlbW g sc "zip" (.type "zip")) (he : ∀ env, backTo pos (starEach [e1, e2] env) = [(false, eval e1 env), (false, eval e2 env)])
  (h : EvW g k sc m σ e1 (fun a σ1 => EvW g k sc m σ1 e2 (fun b σ2 => ∃ xs ys, ((a = .d (.list xs) ∧ b = .d (.list ys)) ∨ (a = .d (.tuple xs) ∧ b = .d (.tuple ys))) ∧ Q ((xs.zip ys).map fun p => .tuple [p.1, p.2]) σ2))) :
  SrcW g k sc m σ (.Call (.Name "zip" p) [e1, e2] [] pos) (.Tuple elts n tpos) Q := by
 intro A env W s R eo X Fm
 refine Call_Name (he env) (hx A env s p _ eo X.base' ?_)
 refine PyProof.Rows.callWith_type rfl (evalArgs_plain (spliced_cons (h.then R eo X Fm fun v s0 W0 σ0 a st0 pp0 Fm0 vr0 h0 => spliced_cons (h0.then R eo st0.abs Fm0 fun w s1 W1 σ1 b st pp Fm1 vr h1 => spliced_nil ?_))))
 (refine x2_1 h1 ?_; clear h1; intro xs ys hab q)
 have X1 := st.abs
 have vr1 := vr0.le st.le
 have fin : ∀ (h' : Heap) (W' : Wd) (ip : Addr → Prop), Abs g W' σ1 h' → Le W1 W' → (∀ a, ¬ ip a → W'.P a = W1.P a) → (∀ a, ip a → W1.P a = none ∧ ∃ o, W'.P a = some o) → Iter g A ip (.Tuple elts n tpos) (.ref (s1.heap.objs.size + 4)) ((xs.zip ys).map fun p => .tuple [p.1, p.2]) W' → SelfIt g A ip (.ref (s1.heap.objs.size + 4)) W' →
   ∃ W' σ' xs ip, Stp g W s W' σ' { s1 with heap := h' } ∧ (∀ a, ¬ ip a → W'.P a = W.P a) ∧ (∀ a, ip a → W.P a = none ∧ ∃ o, W'.P a = some o) ∧ Iter g A ip (.Tuple elts n tpos) (.ref (s1.heap.objs.size + 4)) xs W' ∧ SelfIt g A ip (.ref (s1.heap.objs.size + 4)) W' ∧ Q xs σ' := fun h' W' ip a1 a2 a3 a4 a5 a6 =>
  ⟨W', σ1, _, ip, ⟨a1, (st0.le.trans st.le).trans a2, st.os.trans st0.os, st.gens.trans st0.gens⟩, fun c hc => (a3 c hc).trans (by rw [pp, pp0]), fun c hc => by rw [← pp0, ← pp]; exact a4 c hc, a5, a6, q⟩
 rcases hab with ⟨rfl, rfl⟩ | ⟨rfl, rfl⟩
 ·change Rd W1.F v (.list xs) at vr1
  change Rd W1.F w (.list ys) at vr
  refine x4_4 vr1.inv ?_
  clear vr1
  intro a1 o1 vs1 n1 zv e1 hc1 hd1 r1
  subst zv
  refine x4_4 vr.inv ?_
  clear vr
  intro a2 o2 vs2 n2 zv e2 hc2 hd2 r2
  subst zv
  have hl1 : s1.heap.IsList a1 vs1 := ⟨o1, X1.keepF _ _ e1, hc1, n1, hd1⟩
  have hl2 : s1.heap.IsList a2 vs2 := ⟨o2, X1.keepF _ _ e2, hc2, n2, hd2⟩
  refine call_zip_2 hl1 hl2 fun h' hz hTI hTO i1 i2 ww gr => ?_
  exact zip_src R X1 ⟨_, e1⟩ ⟨_, e2⟩ (SubIt.list (Nat.ne_of_lt (X1.fLt e1)) vs1) (SubIt.list (Nat.ne_of_lt (Nat.lt_succ_of_lt (X1.fLt e2))) vs2) gr hz hTI hTO ⟨i1, hl1.at fun o e => gr _ _ e⟩ ⟨i2, hl2.at fun o e => gr _ _ e⟩ r1 r2 fun W' ip => fin h' W' ip
 ·change Rd W1.F v (.tuple xs) at vr1
  change Rd W1.F w (.tuple ys) at vr
  refine x4_4 vr1.inv ?_
  clear vr1
  intro a1 o1 vs1 n1 zv e1 hc1 hd1 r1
  subst zv
  refine x4_4 vr.inv ?_
  clear vr
  intro a2 o2 vs2 n2 zv e2 hc2 hd2 r2
  subst zv
  have hl1 : s1.heap.IsTuple a1 vs1 := ⟨o1, X1.keepF _ _ e1, hc1, n1, hd1⟩
  have hl2 : s1.heap.IsTuple a2 vs2 := ⟨o2, X1.keepF _ _ e2, hc2, n2, hd2⟩
  refine call_zip_tuples hl1 hl2 fun h' hz hTI hTO i1 i2 gr => ?_
  exact zip_src R X1 ⟨_, e1⟩ ⟨_, e2⟩ (SubIt.tuple (Nat.ne_of_lt (X1.fLt e1)) vs1) (SubIt.tuple (Nat.ne_of_lt (Nat.lt_succ_of_lt (X1.fLt e2))) vs2) gr hz hTI hTO ⟨i1, hl1.at fun o e => gr _ _ e⟩ ⟨i2, hl2.at fun o e => gr _ _ e⟩ r1 r2 fun W' ip => fin h' W' ip
end
end
section
set_option tactic.hygienic false
theorem ints_of : ∀ {l : List Value} {ks : List Int}, l.length = ks.length → (∀ (j : Nat) v, l[j]? = some v → ∃ i t, ks[j]? = some i ∧ v = .int i t) → IntsAre l ks
 | [], [], _, _ => .nil
 | [], _ :: _, h, _ => by simp at h
 | _ :: _, [], h, _ => by simp at h
 | v :: l, i :: ks, h, hv => by
  (refine x2_1 (hv 0 v rfl) ?_; intro i' t e z1; obtain rfl := z1)
  cases e
  exact .cons i t (ints_of (by simpa using h) fun j w hw => by simpa using hv (j + 1) w (by simpa using hw))
section
variable {K : Params → Frag} {g : G K} {k : Nat} {sc : Scope} {m : Loc} {σ : AH}
theorem CallW.sortedDict {i : Nat} {es : List (Int × AV)} {Q : AV → AH → Prop} (e : σ.get i = some (.dictI es)) (hl : es.length < 64) (q : ∀ ns' : List Int, ns'.Perm (es.map (·.1)) → Q (.d (.list (ns'.map .int))) σ) : CallW g k (.builtin "sorted") [.r i] σ Q := by
 intro A W s vs R X V
 (refine x1_1 V.one ?_; intro v z2 r1; obtain rfl := z2)
 (refine x0_1 (X.obj i _ e) ?_; intro n1 z3; refine x1_2 z3 ?_; clear z3; intro kvs hd h1 h2)
 (refine x1_0 hd.dictAt ?_; intro ep hat)
 have hlen : kvs.length = es.length := by simpa using congrArg List.length h1
 rw [r1.2]
 refine Calls.call_function_entry kind_sorted plain_sorted entry_sorted (args_sorted1 _) ?_
 unfold Builtin.«sorted»
 refine wpAny_bind (m := checkCount "sorted" 1 1 _) (wpAny_pure ?_)
 refine wpAny_bind (PySem.W.kdu_collect (A := A.in1) (PySem.W.kdl_dict (knd := intKind g.prog g.w) (kvs := kvs) (ep := ep) (by rw [beq_eq_false_iff_ne]; exact n1)) R.handled hat (by rw [sizeLine_eq]; lia) fun h' tk acc hk hacc => ?_)
 have hl' : acc.toList.length = kvs.length := by rw [Array.length_toList]; exact hacc.1
 refine wpAny_bind (wpAny_newList ?_ (by rw [hl', sizeLine_eq]; lia))
 have hI : IntsAre acc.toList (kvs.map (·.1)) := by
  refine ints_of (by rw [hl', List.length_map]) fun j v hv => ?_
  obtain ⟨i, x, hx, hi⟩ := hacc.2 j v (by rw [← Array.getElem?_toList]; exact hv)
  (refine x1_0 (Value.isInt_shape hi) ?_; intro t z4; obtain rfl := z4)
  exact ⟨i, t, by rw [List.getElem?_map, hx]; rfl, rfl⟩
 have hoL : (h'.push (seqObj "list" acc.toList.toArray 0)).get? h'.objs.size = some (seqObj "list" acc.toList.toArray 0) := Heap.get?_push_size _ rfl
 refine wpAny_bind (wpAny_holding (wpAny_call_entry slot_list_sort ⟨_, hoL, rfl⟩ entry_list_sort (list_sort_tree hoL hI (by lia) fun out ns' a1 a2 a3 => ⟨_, rfl, ?_⟩) (args_list_sort _)))
 refine wpAny_pure ⟨_, rfl, ?_⟩
 (refine x1_0 (sortedHeap_at (out := out) hoL) ?_; intro ep2 hat2)
 have gr : Grows s.heap (sortedHeap (h'.push (seqObj "list" acc.toList.toArray 0)) h'.objs.size acc.toList out) := fun b o eb => by
  have hb := hk b o eb
  have hlt := Heap.lt_size hb
  rw [sortedHeap_old (Nat.ne_of_lt hlt) (by rw [Heap.size_push]; exact Nat.lt_succ_of_lt hlt)]
  exact Heap.get?_push_of_some _ hb
 have X1 := X.grows gr
 have lt' : ∀ {b o}, s.heap.get? b = some o → b < h'.objs.size := fun eb => Heap.lt_size (hk _ _ eb)
 have nF : W.F h'.objs.size = none := by
  cases e : W.F h'.objs.size with
  | none => rfl
  | some o => exact absurd (lt' (X.keepF _ _ e)) (Nat.lt_irrefl _)
 have nP : W.P h'.objs.size = none := by
  cases e : W.P h'.objs.size with
  | none => rfl
  | some o => exact absurd (lt' (X.keepP _ _ e)) (Nat.lt_irrefl _)
 have nO : ∀ j, ¬ Owns W σ j h'.objs.size := fun j q => by ((refine x1_0 (X.owned q) ?_; intro o e); exact absurd (lt' e) (Nat.lt_irrefl _))
 have X2 := X1.addF hat2 nF nP nO
 exact ⟨_, σ, .d (.list (ns'.map .int)), ⟨X2, X1.leF nF _, rfl, rfl⟩, rfl, Rd.list (Wd.addF_at _ _ _) rfl rfl (intsRd a1), q ns' (by rw [← h1]; exact a2)⟩
end
end
section
set_option tactic.hygienic false
noncomputable abbrev Fd := List (Nat × Int)
noncomputable def enc (fs : Fd) : List (Int × AV) := fs.map fun p => ((p.1 : Int), .d (.int p.2))
noncomputable def fget (fs : Fd) (x : Nat) : Option Int := (fs.find? fun p => p.1 = x).map (·.2)
noncomputable def fput (fs : Fd) (x : Nat) (v : Int) : Fd := if fs.any (fun p => p.1 = x) then fs.map (fun p => if p.1 = x then (p.1, v) else p) else fs ++ [(x, v)]
theorem getD_enc : ∀ (fs : Fd) (x : Nat), getD (enc fs) (x : Int) = (fget fs x).map fun v => .d (.int v)
 | [], x => rfl
 | p :: r, x => by
  have ih := getD_enc r x
  unfold getD fget enc at *
  by_cases h : p.1 = x
  ·simp [h]
  ·have h' : ¬ (p.1 : Int) = x := by lia
   simp only [List.map_cons, List.find?_cons, h, h', decide_false]
   exact ih
theorem putD_enc (fs : Fd) (x : Nat) (v : Int) : putD (enc fs) (x : Int) (.d (.int v)) = enc (fput fs x v) := by
 have ha : (enc fs).any (fun p => p.1 = (x : Int)) = fs.any (fun p => p.1 = x) := by
  unfold enc
  rw [List.any_map]
  congr 1
  funext p
  simp only [Function.comp]
  rw [Bool.eq_iff_iff]; simp; lia
 unfold putD fput
 rw [ha]
 split
 ·unfold enc
  rw [List.map_map, List.map_map]
  apply List.map_congr_left
  intro p ww
  simp only [Function.comp]
  by_cases h : p.1 = x
  ·simp [h]
  ·have h' : ¬ (p.1 : Int) = x := by lia
   simp [h, h']
 ·unfold enc; simp
noncomputable def fsum (fs : Fd) (f : Nat → Int) : Int := (fs.map fun p => p.2 * f p.1).sum
theorem fput_keys (fs : Fd) (x : Nat) (v : Int) : (fput fs x v).map (·.1) = if fs.any (fun p => p.1 = x) then fs.map (·.1) else fs.map (·.1) ++ [x] := by
 unfold fput
 split
 ·rw [List.map_map]
  apply List.map_congr_left
  intro p ww
  simp only [Function.comp]
  split <;> rfl
 ·simp
theorem any_key {fs : Fd} {x : Nat} : fs.any (fun p => p.1 = x) = true ↔ x ∈ fs.map (·.1) := by
 rw [List.any_eq_true, List.mem_map]
 simp only [decide_eq_true_iff]
theorem fput_nodup {fs : Fd} {x : Nat} {v : Int} (h : (fs.map (·.1)).Nodup) : ((fput fs x v).map (·.1)).Nodup := by
 rw [fput_keys]
 split
 ·exact h
 ·rename_i hn
  rw [List.nodup_append]
  refine ⟨h, by simp, fun a ha b hb e => ?_⟩
  cases List.mem_singleton.mp hb
  subst e
  exact hn (any_key.mpr ha)
theorem fsum_map : ∀ {fs : Fd} {x : Nat} {v : Int} {f : Nat → Int}, (fs.map (·.1)).Nodup → x ∈ fs.map (·.1) → fsum (fs.map fun p => if p.1 = x then (p.1, v) else p) f = fsum fs f - (fget fs x).getD 0 * f x + v * f x
 | [], _, _, _, _, h => by simp at h
 | p :: r, x, v, f, hn, hx => by
  simp only [List.map_cons, List.nodup_cons] at hn
  have e : ∀ q : Fd, fsum (p :: q) f = p.2 * f p.1 + fsum q f := fun q => by simp [fsum]
  by_cases h : p.1 = x
  ·have hr : r.map (fun p => if p.1 = x then (p.1, v) else p) = r := by
    conv => rhs; rw [← List.map_id r]
    apply List.map_congr_left
    intro q hq
    rw [if_neg]
    ·rfl
    ·intro hq'
     exact hn.1 (by rw [h, ← hq']; exact List.mem_map.mpr ⟨q, hq, rfl⟩)
   rw [List.map_cons, if_pos h, hr]
   simp only [fsum, fget, List.map_cons, List.sum_cons, List.find?_cons, h, decide_true, Option.map_some, Option.getD_some]
   lia
  ·have ih := fsum_map (fs := r) (x := x) (v := v) (f := f) hn.2 (by simp at hx ⊢; exact hx.resolve_left fun z => h z.symm)
   have e2 : fget (p :: r) x = fget r x := by unfold fget; simp [h]
   rw [List.map_cons, if_neg h, e, e, ih, e2]
   lia
theorem fsum_put {fs : Fd} {x : Nat} {v : Int} {f : Nat → Int} (hn : (fs.map (·.1)).Nodup) : fsum (fput fs x ((fget fs x).getD 0 + v)) f = fsum fs f + v * f x := by
 unfold fput
 by_cases h : fs.any (fun p => p.1 = x) = true
 ·rw [if_pos h, fsum_map hn (any_key.mp h), Int.add_mul]; lia
 ·rw [if_neg h]
  have : fget fs x = none := by
   unfold fget
   rw [List.find?_eq_none.mpr]
   ·rfl
   ·intro p hp hq
    exact h (List.any_eq_true.mpr ⟨p, hp, hq⟩)
  rw [this]
  simp [fsum]
theorem fget_mem {fs : Fd} {x : Nat} {v : Int} (h : fget fs x = some v) : (x, v) ∈ fs := by
 unfold fget at h
 cases e : fs.find? fun p => p.1 = x with
 | none => rw [e] at h; cases h
 | some p =>
  rw [e] at h
  cases h
  have a := List.mem_of_find?_eq_some e
  have b := List.find?_some e
  have : p.1 = x := of_decide_eq_true b
  rw [← this]; exact a
theorem fget_some {fs : Fd} {x : Nat} (h : x ∈ fs.map (·.1)) : ∃ v, fget fs x = some v := by
 (refine x1_1 (List.mem_map.mp h) ?_; intro p hp z1; obtain rfl := z1)
 unfold fget
 cases e : fs.find? fun q => q.1 = p.1 with
 | none => exact absurd (List.find?_eq_none.mp e p hp) (by simp)
 | some q => exact ⟨_, rfl⟩
theorem fsum_keys {f : Nat → Int} : ∀ {fs : Fd}, (fs.map (·.1)).Nodup → ((fs.map (·.1)).map fun x => (fget fs x).getD 0 * f x).sum = fsum fs f
 | [], _ => rfl
 | p :: r, hn => by
  simp only [List.map_cons, List.nodup_cons] at hn
  have ih := fsum_keys (f := f) (fs := r) hn.2
  have e : (r.map (·.1)).map (fun x => (fget (p :: r) x).getD 0 * f x) = (r.map (·.1)).map (fun x => (fget r x).getD 0 * f x) := by
   apply List.map_congr_left
   intro x hx
   have : ¬ p.1 = x := fun h => hn.1 (by rw [h]; exact hx)
   unfold fget
   simp [this]
  simp only [List.map_cons, List.sum_cons]
  rw [e, ih]
  simp [fsum, fget]
theorem sum_nz {f : Nat → Int} (h : Nat → Int) : ∀ l : List Nat, ((l.filter fun x => !decide (h x = 0)).map fun x => h x * f x).sum = (l.map fun x => h x * f x).sum
 | [] => rfl
 | a :: r => by
  by_cases e : h a = 0
  ·rw [List.filter_cons_of_neg (by simp [e]), sum_nz h r]; simp [e]
  ·rw [List.filter_cons_of_pos (by simp [e]), List.map_cons, List.map_cons, List.sum_cons, List.sum_cons, sum_nz h r]
end
section
set_option tactic.hygienic false
theorem fput_len {fs : Fd} {x : Nat} {v : Int} : (fput fs x v).length ≤ fs.length + 1 := by
 unfold fput; split <;> simp
theorem fput_bd {fs : Fd} {x : Nat} {v B : Int} (h : ∀ p, p ∈ fs → -B ≤ p.2 ∧ p.2 ≤ B) (hv : -B ≤ v ∧ v ≤ B) : ∀ p, p ∈ fput fs x v → -B ≤ p.2 ∧ p.2 ≤ B := by
 intro p hp
 unfold fput at hp
 split at hp
 ·(refine x1_1 (List.mem_map.mp hp) ?_; intro q hq z1; obtain rfl := z1)
  split
  ·exact hv
  ·exact h q hq
 ·rcases List.mem_append.mp hp with hp | hp
  ·exact h p hp
  ·cases List.mem_singleton.mp hp; exact hv
structure PartsOf (zs pr : Prt) (B : Int) : Prop where
 sum : ∀ f : Nat → Int, (pr.map fun p => p.1 * f p.2).sum = (zs.map fun p => p.1 * f p.2).sum
 nz : ∀ p, p ∈ pr → p.1 ≠ 0
 mem : ∀ p, p ∈ pr → p.2 ∈ zs.map (·.2)
 len : pr.length ≤ zs.length
 bd : ∀ p, p ∈ pr → -(B * zs.length) ≤ p.1 ∧ p.1 ≤ B * zs.length
section
variable {g : G KK} {k : Nat} {sc : Scope} {m : Loc} {σ : AH}
theorem gb_zip (hx : sc.names.lookup ("zip" : Str) = some .globalImplicit) : GlbW g sc "zip" (.type "zip") := GlbW.boot hx (by kernel_rfl) (by kernel_rfl) (by decide +kernel) (by kernel_rfl)
end
section
variable (g : G KK) {A : Nat → Prop} {σ : AH} {S k : Nat} {ss : SS} {c : Int}
noncomputable abbrev seqD (t : Bool) (ds : List PyData) : PyData := if t = true then .tuple ds else .list ds
theorem c_Row {kd : Str} {t : Bool} {as : List Int} {xs : List Nat} {B : Int} {Q : AV → AH → Prop} (hl : (as.zip xs).length ≤ 10) (hB : 0 ≤ B) (hb : ∀ a, a ∈ as → -B ≤ a ∧ a ≤ B) (hla : as.length ≤ 100) (hlx : xs.length ≤ 100)
  (q : ∀ σ' pr, σ.next < σ'.next → σ'.get σ.next = some (.inst 541 (rfl_ kd pr c)) → (∀ j, j < σ.next → σ'.get j = σ.get j) → PartsOf (as.zip xs) pr B → Q (.r σ.next) σ') :
  CodeW g (k + 3) (.ref 541) [.d (.str kd), .d (seqD t (as.map .int)), .d (seqD t (mks xs)), .d (.int c)] σ Q := by
 refine CodeW.new (fI := 476) (by kernel_rfl) (by kernel_rfl) (by kernel_rfl) ?_
 refine cf5 "self" "kind" "coefs" "some" "c" (by kernel_rfl) (by kernel_rfl) (fun ww ww ww ww ww => rfl) rfl ?_
 have hg0 : (σ.push (.inst 541 [])).get σ.next = some (.inst 541 []) := gP
 refine aa (rw_sta (fun ww => rfl) (zn (h := zn (h := zsa (hl := Nat.le_of_ble_eq_true rfl) (q := aa (rq (by kernel_rfl) (fun ww => rfl) (EvW.dict0 (aa ?_))))))))
 simp only [AH.next_set, AH.next_push]
 refine rw_for (noFree (by kernel_rfl)) (fun ww ww => rfl) ?_
 refine SrcW.zip (gb_zip (by kernel_rfl)) (by intro env; rfl) ?_
 refine zn (h := zn (h := ?_))
 refine ⟨as.map .int, mks xs, by cases t <;> simp [seqD], ?_⟩
 rw [show ((as.map PyData.int).zip (mks xs)).map (fun p => PyData.tuple [p.1, p.2]) = (as.zip xs).map pD by rw [List.zip_map, List.map_map]; rfl]
 refine ForL.over pD (as.zip xs) (fun done m σ' => ∃ fs : Fd, m "self" = some (.r σ.next) ∧ m "kind" = some (.d (.str kd)) ∧ m "c" = some (.d (.int c)) ∧ m "found" = some (.r (σ.next + 1)) ∧ σ'.next = σ.next + 2 ∧ σ'.get σ.next = some (.inst 541 [("kind", .d (.str kd))]) ∧ σ'.get (σ.next + 1) = some (.dictI (enc fs)) ∧
  (∀ j, j < σ.next → σ'.get j = σ.get j) ∧ (fs.map (·.1)).Nodup ∧ (∀ x, x ∈ fs.map (·.1) → x ∈ done.map (·.2)) ∧ fs.length ≤ done.length ∧ (∀ p, p ∈ fs → -(B * done.length) ≤ p.2 ∧ p.2 ≤ B * done.length) ∧ ∀ f : Nat → Int, fsum fs f = (done.map fun p => p.1 * f p.2).sum) ?_ ?_ ?_
 ·exact ⟨[], by walk_at "lk", by walk_at "lk", by walk_at "lk", by walk_at "lk", rfl, by walk_at "gt", gP, fun j hj => al (Nat.lt_succ_of_lt hj) (ah (Nat.ne_of_lt hj) (al hj rfl)), .nil, fun x hx => (by cases hx), Nat.le_refl _, fun p hp => (by cases hp), fun f => rfl⟩
 ·(intro m; intro σ'; intro z2r; (refine x1_12 z2r ?_; clear z2r; intro fs e1 e2 e3 e4 e5 e6 e7 e8 e9 e10 e11 e12 e13))
  refine aa (rw_sta (fun ww => rfl) ?_)
  refine rv_comp (by kernel_rfl) (fun ww ww => rfl) ?_
  refine src_of ?_
  refine EvW.call (gb_sorted (by kernel_rfl)) (by kernel_rfl) (by intro env; rfl) ?_
  refine zc rfl (zn (h := sn ?_))
  refine CallW.sortedDict e7 (by unfold enc; simp; lia) fun ns' hp => ?_
  (refine x1_1 (nats_of (ns' := ns') (l := fs.map (·.1)) (by unfold enc at hp; rw [List.map_map] at hp; rw [List.map_map]; exact hp)) ?_; intro ks hk z2; obtain rfl := z2)
  refine ⟨_, .inl rfl, ?_⟩
  have hkl : ks.length = fs.length := by rw [hk.length_eq, List.length_map]
  rw [show List.map PyData.int (ks.map fun x : Nat => (x : Int)) = ks.map fun x : Nat => .int (x : Nat) by rw [List.map_map]; rfl]
  have hget : ∀ x, x ∈ ks → ∃ v, fget fs x = some v := fun x hx => fget_some (hk.mem_iff.mp hx)
  refine cF (fun x : Nat => .int (x : Nat)) (fun x => if (fget fs x).getD 0 = 0 then none else some (pD ((fget fs x).getD 0, x))) (fun m => m "found" = some (.r (σ.next + 1))) ks (by simp; lia) (by walk_at "lk") ?_ ?_
  ·intro x hx m hm
   (refine x1_0 (hget x hx) ?_; intro v hv)
   have hgd : getD (enc fs) (x : Int) = some (.d (.int v)) := by rw [getD_enc, hv]; rfl
   refine aN (by kernel_rfl) (IfsW.one (ad rfl (af (zn (h := zn (h := ?_))))))
   refine SubW.dictI (by intro o i; rfl) e7 hgd ?_
   refine ei (CmpW.neI (ab ?_))
   rw [hv]
   by_cases h : v = 0
   ·exact jn (fun z => z h) ⟨rfl, by walk_at "lk", if_pos h⟩
   ·refine jd h ?_
    refine ai (zc rfl (af (zn (h := zn (h := ?_)))))
    refine SubW.dictI (by intro o i; rfl) e7 hgd ?_
    refine zc rfl (zn (h := sn ?_))
    walk_at "frz"
    exact ⟨rfl, by walk_at "lk", _, rfl, if_neg h⟩
  intro m' ww
  rw [List.nil_append, filterMap_if (fun x => (fget fs x).getD 0 = 0) (fun x => pD ((fget fs x).getD 0, x)) ks, show (ks.filter fun x => !decide ((fget fs x).getD 0 = 0)).map (fun x => pD ((fget fs x).getD 0, x)) = ((ks.filter fun x => !decide ((fget fs x).getD 0 = 0)).map fun x => ((fget fs x).getD 0, x)).map pD by rw [List.map_map]; rfl]
  refine zn (h := zsa (hl := Nat.le_of_ble_eq_true rfl) (q := aa (rw_sta (fun ww => rfl) (zn (h := zn (h := zsa (hl := Nat.le_of_ble_eq_true rfl) (q := xn ?_)))))))
  refine ⟨rfl, q _ ((ks.filter fun x => !decide ((fget fs x).getD 0 = 0)).map fun x => ((fget fs x).getD 0, x)) ?_ gS (fun j hj => ah (Nat.ne_of_lt hj) (ah (Nat.ne_of_lt hj) (e8 j hj))) ⟨fun f => ?_, fun p hp => ?_, fun p hp => ?_, ?_, fun p hp => ?_⟩⟩
  ·simp only [AH.next_set, e5]; lia
  ·rw [List.map_map]
   show ((ks.filter fun x => !decide ((fget fs x).getD 0 = 0)).map fun x => (fget fs x).getD 0 * f x).sum = _
   rw [sum_nz (fun x => (fget fs x).getD 0) ks, perm_sum hk, fsum_keys e9, e13]
  ·(refine x1_1 (List.mem_map.mp hp) ?_; intro x hx z3; obtain rfl := z3)
   have := (List.mem_filter.mp hx).2
   simpa using this
  ·(refine x1_1 (List.mem_map.mp hp) ?_; intro x hx z4; obtain rfl := z4)
   exact e10 x (hk.mem_iff.mp (List.mem_filter.mp hx).1)
  ·rw [List.length_map]
   have := List.length_filter_le (fun x => !decide ((fget fs x).getD 0 = 0)) ks
   lia
  ·(refine x1_1 (List.mem_map.mp hp) ?_; intro x hx z5; obtain rfl := z5)
   (refine x1_0 (hget x (List.mem_filter.mp hx).1) ?_; intro v hv)
   have := e12 _ (fget_mem hv)
   simp only [hv, Option.getD_some]
   exact this
 ·(intro done; intro p; intro rest; intro hd; intro m; intro σ'; intro z6r; (refine x1_12 z6r ?_; clear z6r; intro fs e1 e2 e3 e4 e5 e6 e7 e8 e9 e10 e11 e12 e13))
  have hdl : done.length + 1 ≤ 10 := by have := congrArg List.length hd; rw [List.length_append, List.length_cons] at this; lia
  have hpa := hb p.1 (by
   have : p ∈ as.zip xs := by rw [hd]; simp
   obtain ⟨a, x⟩ := p
   exact (List.of_mem_zip this).1)
  refine at2 (by kernel_rfl) (by kernel_rfl) (aa (rw_set (fun ww => rfl) (aj (EvW.dget (by walk_at "mf") (zn (h := ?_))))))
  refine ⟨_, _, rfl, e7, ?_⟩
  refine zc rfl (zn (h := zc rfl (ei (sn ?_))))
  refine ⟨_, _, _, rfl, e7, ?_⟩
  rw [getD_enc, show ((fget fs p.2).map fun v => AV.d (.int v)).getD (.d (.int 0)) = .d (.int ((fget fs p.2).getD 0)) by cases fget fs p.2 <;> rfl]
  refine zn (h := BinW.add (zn (h := zn (h := ?_))))
  refine ⟨_, .dictI e7 (by unfold enc; simp; lia), ?_⟩
  rw [putD_enc]
  refine xn ?_
  have bnd : -(B * (done.length + 1 : Nat)) ≤ (fget fs p.2).getD 0 + p.1 ∧ (fget fs p.2).getD 0 + p.1 ≤ B * (done.length + 1 : Nat) := by
   have e : B * ((done.length + 1 : Nat) : Int) = B * done.length + B := by push_cast; rw [Int.mul_add, Int.mul_one]
   rw [e]
   cases hv : fget fs p.2 with
   | none => have : 0 ≤ B * (done.length : Int) := Int.mul_nonneg hB (Int.natCast_nonneg _); simp; lia
   | some v => have := e12 _ (fget_mem hv); simp at this ⊢; lia
  refine ⟨fput fs p.2 ((fget fs p.2).getD 0 + p.1), by walk_at "lk", by walk_at "lk", by walk_at "lk", by walk_at "lk", e5, ah (by lia) e6, gS, fun j hj => ah (by lia) (e8 j hj), fput_nodup e9, fun x hx => ?_, ?_, ?_, fun f => ?_⟩
  ·rw [fput_keys] at hx
   rw [List.map_append, List.mem_append]
   split at hx
   ·exact .inl (e10 x hx)
   ·rcases List.mem_append.mp hx with hx | hx
    ·exact .inl (e10 x hx)
    ·exact .inr (by simpa using hx)
  ·have := fput_len (fs := fs) (x := p.2) (v := (fget fs p.2).getD 0 + p.1)
   simp; lia
  ·rw [List.length_append, List.length_singleton]
   refine fput_bd (fun p' hp' => ?_) bnd
   have := e12 p' hp'
   have e : B * ((done.length + 1 : Nat) : Int) = B * done.length + B := by push_cast; rw [Int.mul_add, Int.mul_one]
   rw [e]; lia
  ·rw [fsum_put e9, e13]; simp
end
end
section
set_option tactic.hygienic false
noncomputable def tkd : Kd → Kd
 | .le => .le
 | .eq => .ne
 | .ne => .eq
noncomputable def tc (kd : Kd) (c : Int) : Int := match kd with
 | .le => -c - 1
 | _ => c
noncomputable def tp (kd : Kd) (pr : Prt) : Prt := match kd with
 | .le => pr.map fun p => (-p.1, p.2)
 | _ => pr
theorem seqD_f (ds : List PyData) : seqD false ds = .list ds := rfl
section
variable (g : G KK) {A : Nat → Prop} {σ : AH} {S k i b : Nat} {ss : SS} {pr : Prt} {c : Int}
theorem c_Row_turned {kd : Kd} {B : Int} {Q : AV → AH → Prop} (hp : σ.get i = some (.inst 541 (rfl_ kd.s pr c))) (hl : pr.length ≤ 10) (hB : 0 ≤ B) (hb : ∀ p, p ∈ pr → -B ≤ p.1 ∧ p.1 ≤ B)
  (q : ∀ σ' pr', σ.next < σ'.next → σ'.get σ.next = some (.inst 541 (rfl_ (tkd kd).s pr' (tc kd c))) → (∀ j, j < σ.next → σ'.get j = σ.get j) → PartsOf (tp kd pr) pr' B → Q (.r σ.next) σ') :
  CodeW g (k + 4) (.ref 481) [.r i] σ Q := by
 refine cf1 "self" (by kernel_rfl) (by kernel_rfl) (fun ww => rfl) rfl ?_
 refine aa ?_
 refine StW.swapped (ns := ["coefs", "some"]) (isVarsS (by kernel_rfl)) (by intro env; rfl) (by walk_at "he") ?_
 refine TpW.display ?_
 refine zc rfl ?_
 refine rv_comp (by kernel_rfl) (fun ww ww => rfl) ?_
 refine src_of ?_
 refine ae (fun ww => rfl) (zn (h := za (q := ?_)))
 refine ⟨_, .inl rfl, ?_⟩
 refine cF pD (fun p => some (.int p.1)) (fun ww => True) pr (by simp; lia) trivial ?_ ?_
 ·intro p hpr m ww
  refine ac2 (by kernel_rfl) (by kernel_rfl) (IfsW.nil (jt (zn (h := ?_))))
  exact ⟨rfl, trivial, _, rfl, rfl⟩
 intro m1 ww
 rw [List.nil_append, fmS]
 refine zc rfl ?_
 refine rv_comp (by kernel_rfl) (fun ww ww => rfl) ?_
 refine src_of ?_
 refine ae (fun ww => rfl) (zn (h := za (q := ?_)))
 refine ⟨_, .inl rfl, ?_⟩
 refine cF pD (fun p => some (.int (p.2 : Nat))) (fun ww => True) pr (by simp; lia) trivial ?_ ?_
 ·intro p hpr m ww
  refine ac2 (by kernel_rfl) (by kernel_rfl) (IfsW.nil (jt (zn (h := ?_))))
  exact ⟨rfl, trivial, _, rfl, rfl⟩
 intro m2 ww
 rw [List.nil_append, fmS]
 refine sn ?_
 refine ⟨by simp, rfl, ?_⟩
 dsimp only [List.reverse, List.reverseAux, uA]
 have z1 : ∀ f : Int × Nat → Int, (pr.map f).zip (pr.map (·.2)) = pr.map fun p => (f p, p.2) := fun f => List.zip_map' ..
 have e1 : ∀ f : Int × Nat → Int, pr.map (fun p => PyData.int (f p)) = (pr.map f).map .int := fun f => by rw [List.map_map]; rfl
 have e2 : pr.map (fun p => PyData.int (p.2 : Nat)) = mks (pr.map (·.2)) := by unfold mks; rw [List.map_map]; rfl
 have hid : (pr.map fun p => (p.1, p.2)) = pr := by simp
 cases kd with
 | le =>
  dsimp only [Kd.s] at hp
  refine aa (ri (ad rfl (ae (fun ww => rfl) (zn (h := za (q := eS (zeqS true (by decide +kernel) (ab (jt (aa (ag (ec .Row (by kernel_rfl) (fun ww => rfl) (zc rfl (eS (zc rfl ?_)))))))))))))))
  refine rv_comp (by kernel_rfl) (fun ww ww => rfl) ?_
  refine src_of ?_
  refine zn (h := ?_)
  refine ⟨_, .inl rfl, ?_⟩
  refine cF (fun p : Int × Nat => .int p.1) (fun p => some (.int (-p.1))) (fun ww => True) pr (by simp; lia) trivial ?_ ?_
  ·intro p hpr m ww
   refine aN (by kernel_rfl) (IfsW.nil (jt (rv_un (zn (h := UnW.neg ?_)))))
   exact ⟨rfl, trivial, _, rfl, rfl⟩
  intro m3 ww
  rw [List.nil_append, fmS]
  refine zc rfl (zn (h := zc rfl (aj (rv_un (ae (fun ww => rfl) (zn (h := za (q := UnW.neg (ei (BinW.sub (sn ?_)))))))))))
  rw [e1 fun p => -p.1, e2, ← seqD_f, ← seqD_f]
  refine (c_Row g (by rw [z1]; simpa using hl) hB (fun a ha => ?_) (by simp; lia) (by simp; lia) fun σ' pr' a1 a2 a3 a4 => ?_).call
  ·(refine x1_1 (List.mem_map.mp ha) ?_; intro p hp z1; obtain rfl := z1)
   have := hb p hp; lia
  ·rw [z1] at a4
   exact q σ' pr' a1 a2 a3 a4
 | eq =>
  dsimp only [Kd.s] at hp
  refine aa (ri (ad rfl (ae (fun ww => rfl) (zn (h := za (q := eS (zeqS false (by decide +kernel) (ab (jf (xn (aa (ag (ec .Row (by kernel_rfl) (fun ww => rfl) (zc rfl (rv_ifx (ad rfl (ae (fun ww => rfl) (zn (h := za (q := eS (zeqS true (by decide +kernel) (ab (jt (eS (zc rfl (zn (h := zc rfl (zn (h := zc rfl (ae (fun ww => rfl) (zn (h := za (q := sn ?_)))))))))))))))))))))))))))))))))
  rw [e1 fun p => p.1, e2, ← seqD_f, ← seqD_f]
  refine (c_Row g (by rw [z1]; simpa using hl) hB (fun a ha => ?_) (by simp; lia) (by simp; lia) fun σ' pr' a1 a2 a3 a4 => ?_).call
  ·(refine x1_1 (List.mem_map.mp ha) ?_; intro p hp z2; obtain rfl := z2)
   exact hb p hp
  ·rw [z1, hid] at a4
   exact q σ' pr' a1 a2 a3 a4
 | ne =>
  dsimp only [Kd.s] at hp
  refine aa (ri (ad rfl (ae (fun ww => rfl) (zn (h := za (q := eS (zeqS false (by decide +kernel) (ab (jf (xn (aa (ag (ec .Row (by kernel_rfl) (fun ww => rfl) (zc rfl (rv_ifx (ad rfl (ae (fun ww => rfl) (zn (h := za (q := eS (zeqS false (by decide +kernel) (ab (jf (eS (zc rfl (zn (h := zc rfl (zn (h := zc rfl (ae (fun ww => rfl) (zn (h := za (q := sn ?_)))))))))))))))))))))))))))))))))
  rw [e1 fun p => p.1, e2, ← seqD_f, ← seqD_f]
  refine (c_Row g (by rw [z1]; simpa using hl) hB (fun a ha => ?_) (by simp; lia) (by simp; lia) fun σ' pr' a1 a2 a3 a4 => ?_).call
  ·(refine x1_1 (List.mem_map.mp ha) ?_; intro p hp z3; obtain rfl := z3)
   exact hb p hp
  ·rw [z1, hid] at a4
   exact q σ' pr' a1 a2 a3 a4
theorem turned_v {kd : Kd} {pr' : Prt} {B : Int} (h : PartsOf (tp kd pr) pr' B) (f : Nat → Int) : Rv (tkd kd) ((pr'.map fun p => p.1 * f p.2).sum) (tc kd c) ↔ ¬ Rv kd ((pr.map fun p => p.1 * f p.2).sum) c := by
 rw [h.sum]
 cases kd with
 | le =>
  have key : ∀ pr : Prt, ((pr.map fun p => (-p.1, p.2)).map fun p => p.1 * f p.2).sum = -((pr.map fun p => p.1 * f p.2).sum) := fun pr => by
   induction pr with
   | nil => rfl
   | cons p r ih =>
    simp only [List.map_cons, List.sum_cons] at ih ⊢
    rw [ih, Int.neg_mul]; lia
  have this : ((tp .le pr).map fun p => p.1 * f p.2).sum = -((pr.map fun p => p.1 * f p.2).sum) := key pr
  rw [this]
  show -_ ≤ -c - 1 ↔ ¬ (_ ≤ c)
  lia
 | eq => exact Iff.rfl
 | ne =>
  show _ = c ↔ ¬ (_ ≠ c)
  exact Decidable.not_not.symm
end
end
section
set_option tactic.hygienic false
theorem SubW.t3 {K : Params → Frag} {g : G K} {k : Nat} {σ : AH} {value slice : Expr} {a b c d : PyData} {xs : List PyData} {Q : AV → AH → Prop} (hs : ∀ o i, subscripted slice false o i = operate [o, i] (getItem o i)) (hl : xs.length ≤ 10000) (h : Q (.d d) σ) : SubW g k value slice (.d (.tuple (a :: b :: c :: d :: xs))) (.d (.int 3)) σ Q :=
 SubW.tup (j := 3) (d := d) hs (by decide) (by decide) (by unfold seqIndex?; simp; try lia) rfl h
section
variable (g : G KK) {A : Nat → Prop} {σ : AH} {S k b : Nat} {ss : SS} {c : Int}
noncomputable abbrev rowD (kd : Kd) (as : List Int) (xs : List Nat) (c : Int) : List PyData := [.str kd.s, .tuple (as.map .int), .tuple (mks xs), .int c]
theorem c_Imp_init {C i : Nat} {kd : Kd} {as : List Int} {xs : List Nat} {B : Int} {Q : AV → AH → Prop} (hC : clsOk (KK g.w.params) C = true) (hn : (["number", "scope", "strength", "b", "inner", "row"].all fun x => attrOk (KK g.w.params) C (Str.ofString x)) = true) (hi : i < σ.next)
  (h : σ.get i = some (.inst C [])) (hl : as.length ≤ 10) (hlx : xs.length ≤ 10) (hB : 0 ≤ B) (hb : ∀ a, a ∈ as → -B ≤ a ∧ a ≤ B)
  (q : ∀ σ' pr, σ.next < σ'.next → σ'.get σ.next = some (.inst 541 (rfl_ kd.s pr c)) → σ'.get i = some (.inst C (ifl b xs (rowD kd as xs c) σ.next [])) → (∀ j, j < σ.next → j ≠ i → σ'.get j = σ.get j) → PartsOf (as.zip xs) pr B → Q (.d .none) σ') :
  CodeW g (k + 6) (.ref 559) [.r i, .d (.int (b : Nat)), .d (.tuple (rowD kd as xs c))] σ Q := by
 simp only [List.all_cons, List.all_nil, Bool.and_true, Bool.and_eq_true] at hn
 (refine x0_5 hn ?_; clear hn; intro n1 n2 n3 n4 n5 n6)
 have hz : (as.zip xs).length ≤ 10 := by rw [List.length_zip]; lia
 refine cf3 "self" "b" "row_told" (by kernel_rfl) (by kernel_rfl) (fun ww ww ww => rfl) rfl ?_
 refine aa ?_
 refine rw_expr (fun ww => rfl) ?_
 refine ec_init .Propagator (f := 262) (by kernel_rfl) (by kernel_rfl) (by kernel_rfl) (by kernel_rfl) (by kernel_rfl) (by intro env; rfl) (by intro env; rfl) ?_
 refine zc rfl (zn (h := zc rfl (aj (ai (zc rfl (zn (h := sn ?_)))))))
 walk_at "frz"
 refine ec .tuple (by kernel_rfl) (fun ww => rfl) (zc rfl (af (zn (h := ei (SubW.t2 (fun ww ww => rfl) (by simp) (sn (CallW.tupleT ?_)))))))
 refine BinW.cat (by simp; lia) ?_
 refine zc rfl (eS (sn ?_))
 refine (c_Prop_init g hC n1 n2 n3 h fun σ1 en eg ek => ?_).call
 refine ls_of rfl (aa (rw_sta (fun ww => rfl) (zn (h := zn (h := zsa (hl := Nat.le_of_ble_eq_true rfl) (q := aa (rw_sta (fun ww => rfl) (ec .tuple (by kernel_rfl) (fun ww => rfl) (zc rfl (zn (h := sn (CallW.tupleT (zn (h := zsa (hl := Nat.le_of_ble_eq_true rfl) (q := aa (rw_sta (fun ww => rfl) (ec .Row (by kernel_rfl) (fun ww => rfl) (zc rfl (af (zn (h := ei (ak (fun ww ww => rfl) (by simp) (zc rfl (af (zn (h := ei (SubW.t1 (fun ww ww => rfl) (by simp) (zc rfl (af (zn (h := ei (SubW.t2 (fun ww ww => rfl) (by simp) (zc rfl (af (zn (h := ei ?_))))))))))))))))))))))))))))))))))))
 refine SubW.t3 (by intro o i; rfl) (by simp) ?_
 refine sn ?_
 refine (c_Row g (t := true) hz hB hb (by lia) (by lia) fun σ2 pr a1 a2 a3 a4 => ?_).call
 simp only [AH.next_set, en] at a1 a2 a3 ⊢
 have gi : σ2.get i = _ := (a3 i hi).trans gS
 refine zn (h := zsa (hl := Nat.le_of_ble_eq_true rfl) (q := xn ?_))
 exact q _ pr a1 (ah (by lia) a2) gS (fun j hj hne => ah hne ((a3 j hj).trans (ah hne (ah hne (ek j hne))))) a4
theorem c_Imp {kd : Kd} {as : List Int} {xs : List Nat} {B : Int} {Q : AV → AH → Prop} (hl : as.length ≤ 10) (hlx : xs.length ≤ 10) (hB : 0 ≤ B) (hb : ∀ a, a ∈ as → -B ≤ a ∧ a ≤ B)
  (q : ∀ σ' pr, σ.next + 1 < σ'.next → σ'.get (σ.next + 1) = some (.inst 541 (rfl_ kd.s pr c)) → σ'.get σ.next = some (.inst 583 (ifl b xs (rowD kd as xs c) (σ.next + 1) [])) → (∀ j, j < σ.next → σ'.get j = σ.get j) → PartsOf (as.zip xs) pr B → Q (.r σ.next) σ') :
  CodeW g (k + 7) (.ref 583) [.d (.int (b : Nat)), .d (.tuple (rowD kd as xs c))] σ Q :=
 CodeW.new (fI := 559) (by kernel_rfl) (by kernel_rfl) (by kernel_rfl) (c_Imp_init g (by kernel_rfl) (by kernel_rfl) (Nat.lt_succ_self _) gP hl hlx hB hb fun σ' pr a1 a2 a3 a4 a5 => ⟨rfl, q σ' pr a1 a2 a3 (fun j hj => (a4 j (Nat.lt_succ_of_lt hj) (Nat.ne_of_lt hj)).trans (AH.get_push_old hj)) a5⟩)
theorem c_Reif {kd : Kd} {as : List Int} {xs : List Nat} {B : Int} {Q : AV → AH → Prop} (hl : as.length ≤ 10) (hlx : xs.length ≤ 10) (hB : 0 ≤ B) (hb : ∀ a, a ∈ as → -B ≤ a ∧ a ≤ B)
  (q : ∀ σ' pr pr' ro, σ.next + 1 < ro → ro < σ'.next → σ'.get (σ.next + 1) = some (.inst 541 (rfl_ kd.s pr c)) → σ'.get ro = some (.inst 541 (rfl_ (tkd kd).s pr' (tc kd c))) → σ'.get σ.next = some (.inst 623 (ifl b xs (rowD kd as xs c) (σ.next + 1) [("other", .r ro)])) → (∀ j, j < σ.next → σ'.get j = σ.get j) →
   PartsOf (as.zip xs) pr B → PartsOf (tp kd pr) pr' (B * (as.zip xs).length) → Q (.r σ.next) σ') :
  CodeW g (k + 8) (.ref 623) [.d (.int (b : Nat)), .d (.tuple (rowD kd as xs c))] σ Q := by
 refine CodeW.new (fI := 599) (by kernel_rfl) (by kernel_rfl) (by kernel_rfl) ?_
 refine cf3 "self" "b" "row_told" (by kernel_rfl) (by kernel_rfl) (fun ww ww ww => rfl) rfl ?_
 refine aa ?_
 refine rw_expr (fun ww => rfl) ?_
 refine ec_init .Implied (f := 559) (by kernel_rfl) (by kernel_rfl) (by kernel_rfl) (by kernel_rfl) (by kernel_rfl) (by intro env; rfl) (by intro env; rfl) ?_
 refine zc rfl (zn (h := zc rfl (zn (h := zc rfl (zn (h := sn ?_))))))
 refine (c_Imp_init g (by kernel_rfl) (by kernel_rfl) (Nat.lt_succ_self _) gP hl hlx hB hb fun σ1 pr a1 a2 a3 a4 a5 => ?_).call
 rw [AH.next_push] at a1 a2 a3 a4
 have hz : (as.zip xs).length ≤ 10 := by rw [List.length_zip]; lia
 refine ls_of rfl (aa (rw_sta (fun ww => rfl) (em .turned (fun ww => rfl) (fun ww => rfl) (ae (fun ww => rfl) (zn (h := za (q := zm (q := sn ?_))))))))
 refine (c_Row_turned g (B := B * (as.zip xs).length) a2 (Nat.le_trans a5.len hz) (Int.mul_nonneg hB (Int.natCast_nonneg _)) a5.bd fun σ2 pr' b1 b2 b3 b4 => ?_).call
 have gi : σ2.get σ.next = _ := (b3 σ.next (by lia)).trans a3
 refine zn (h := zsa (hl := Nat.le_of_ble_eq_true rfl) (q := xn ?_))
 refine ⟨rfl, q _ pr pr' σ1.next a1 b1 (ah (by lia) ((b3 _ a1).trans a2)) (ah (by lia) b2) gS (fun j hj => ah (by lia) ((b3 j (by lia)).trans ((a4 j (by lia) (by lia)).trans (AH.get_push_old hj)))) a5 b4⟩
end
end
section
set_option tactic.hygienic false
section
variable {prog : Program} {w : World} {A : Around} {E : Value → Shared → Prop} {s : Shared}
theorem zip_ga : entryFor table "zip.__getattribute__" = some Builtin.«object.__getattribute__» := entryFor_alias (id' := "object.__getattribute__") (by kernel_rfl) (by decide +kernel) (by decide +kernel) (by kernel_rfl)
theorem zip_miss : typeLookup (.type "zip") "keys" = pure none := am_miss_of_fast (by kernel_rfl)
theorem zip_getattr : typeLookup (.type "zip") "__getattr__" = pure none := am_miss_of_fast (by kernel_rfl)
theorem meets_zip_miss (z TI TO : Addr) (f0 : Value) (u : Tok) : Meets (Builtin.«object.__getattribute__» ⟨[.ref z, .str "keys" u], []⟩) (fun A R s => IsZip s.heap z TI TO f0 ∧ raisesAttr (.ref z) "keys" A R s) :=
 Meets.of_wp fun prog w A R s hs => by
  obtain ⟨hp, g, d, tk, os⟩ := s
  (refine x0_2 hs ?_; clear hs; intro hz hs1 hs2)
  have hT : (⟨hp, g, d, tk, os⟩ : Shared).TypeIs (.ref z) "zip" := ⟨_, hz, rfl⟩
  have hmiss := zip_miss
  unfold Builtin.«object.__getattribute__»
  repeat (any_goals (first | assumption | wp_step))
  exact wpAny_raiseAttrError hs1 hs2 (attrMsg_fits (by decide +kernel) (by size_fits))
theorem zip_keys {z TI TO : Addr} {f0 : Value} {Q : Option Value → Shared → Prop} (hz : IsZip s.heap z TI TO f0) (hA : A.handled = none) (h : ∀ h' tk, (∀ b o, s.heap.get? b = some o → h'.get? b = some o) → Q none { s with heap := h', toks := tk }) :
  wpAny (model prog w) A (getAttr? (.ref z) "keys") Q E s := by
 obtain ⟨hp, g, d, tk, os⟩ := s
 have hT : (⟨hp, g, d, tk, os⟩ : Shared).TypeIs (.ref z) "zip" := ⟨_, hz, rfl⟩
 have hT2 : (⟨hp, g, d, tk + 1, os⟩ : Shared).TypeIs (.ref z) "zip" := ⟨_, hz, rfl⟩
 have f1 := sub_AttributeError
 have f3 := F.slot_zip_getattribute.lookup
 have f4 := F.slot_zip_getattribute.bind (.ref z)
 have f5 := zip_getattr
 unfold getAttr? getAttrBy? getAttrBy
 repeat (any_goals (first | assumption | ((with_reducible show wpAny _ _ (call (Value.builtin "zip.__getattribute__") _ _) _ _ _); refine call_meets F.slot_zip_getattribute hT2 zip_ga (F.args_zip_getattribute_2 _ _) (meets_zip_miss z TI TO f0 _) ⟨hz, hA, fun h' tk' e hx => ?_⟩) | wp_step))
 (refine x2_0 hx.there ?_; intro t' u' he)
 show wpAny _ _ (getattributeRaised _ _ _ _ _ _ _) _ _ _
 unfold getattributeRaised
 repeat (any_goals (first | assumption | wp_step))
 exact h _ _ hx.keeps
end
end
section
set_option tactic.hygienic false
section
variable {prog : Program} {w : World} {A : Around} {E : Value → Shared → Prop} {s : Shared} {z TI TO T i1 i2 l1 l2 : Addr} {xs ys : Array Value} {St1 St2 : Nat → Heap → Prop}
noncomputable abbrev IsZipB (h : Heap) (z TI TO T : Addr) (f1 : Bool) : Prop := h.get? z = some { cls := .type "zip", data := .fields #[rawInt T, .bool f1, .bool false, .ref TI, .ref TO] }
structure ZipBusy (h : Heap) (z TI T i1 i2 : Addr) (St1 St2 : Nat → Heap → Prop) (k : Nat) : Prop where
 z : ∃ TO f1, IsZipB h z TI TO T f1
 TI : IsPair h TI (.ref i1) (.ref i2)
 T : ∃ o, h.get? T = some o
 s1 : St1 k h
 s2 : St2 k h
structure BusyApart (z TI T i1 i2 l1 l2 : Addr) : Prop where
 TIz : TI ≠ z
 TIi1 : TI ≠ i1
 TIi2 : TI ≠ i2
 Tz : T ≠ z
 Ti1 : T ≠ i1
 Ti2 : T ≠ i2
 i1z : i1 ≠ z
 i2z : i2 ≠ z
 i12 : i1 ≠ i2
 l1z : l1 ≠ z
 l1i2 : l1 ≠ i2
 l2z : l2 ≠ z
 l2i1 : l2 ≠ i1
theorem wpAny_alive {α : Type} {a : Addr} {kk : Option Obj → Sem α} {Q : α → Shared → Prop} (h : wpAny (model prog w) A (kk (s.heap.get? a)) Q E s) : wpAny (model prog w) A (Sem.loadIfAlive a kk) Q E s := fun Γ p hp => by
 rw [Sem.wp_loadIfAlive]; exact h Γ p hp
theorem zip_busy_free {B : Bool → Sem Fin} {Q : Fin → Shared → Prop} {E : Value → Shared → Prop} {TO : Addr} {f1 : Bool} (hz : IsZipB s.heap z TI TO T f1) (hT : ∃ o, s.heap.get? T = some o)
  (h : ∀ h', IsZipB h' z TI TO T true → Heap.SameBut z s.heap h' → wpAny (model prog w) A (B false) Q E { s with heap := h' }) : wpAny (model prog w) A (Builtin.SmallTypes.ownedTupleIsFree (.ref z) >>= B) Q E s := by
 (refine x1_0 hT ?_; clear hT; intro o ho)
 refine wpAny_bind ?_
 unfold Builtin.SmallTypes.ownedTupleIsFree
 refine wpAny_bind (wpAny_field hz rfl (x := rawInt T) rfl ?_)
 show wpAny _ _ (Sem.loadIfAlive T _) _ _ _
 refine wpAny_alive ?_
 rw [ho]
 show wpAny _ _ (field (.ref z) 1 >>= _) _ _ _
 refine wpAny_bind (wpAny_field hz rfl (x := .bool f1) rfl ?_)
 cases f1 with
 | true => exact wpAny_pure (h _ hz ⟨rfl, fun ww ww => rfl⟩)
 | false =>
  show wpAny _ _ (setField (.ref z) 1 (.bool true) >>= _) _ _ _
  refine wpAny_bind (wpAny_setField_rec hz (by simp) fun h' hz' hs' => ?_)
  exact wpAny_pure (h h' hz' hs')
theorem zipItemB (D : BusyApart z TI T i1 i2 l1 l2) (I1 : SubIt prog w i1 l1 xs St1) (I2 : SubIt prog w i2 l2 ys St2) {k : Nat} {x y : Value} {Q : Option Value → Shared → Prop} (Z : ZipBusy s.heap z TI T i1 i2 St1 St2 k) (hx : xs[k]? = some x) (hy : ys[k]? = some y)
  (hQ : ∀ h', ZipBusy h' z TI T i1 i2 St1 St2 (k + 1) → IsPair h' s.heap.objs.size x y → (∀ c o, c ≠ z → c ≠ i1 → c ≠ i2 → s.heap.get? c = some o → h'.get? c = some o) → Q (some (.ref s.heap.objs.size)) { s with heap := h' }) :
  wpAny (model prog w) A (pyNext (.ref z)) Q E s := by
 obtain ⟨⟨TO, f1, hz⟩, hTI, hTh, h1, h2⟩ := Z
 have hT : s.TypeIs (.ref z) "zip" := ⟨_, hz, rfl⟩
 unfold pyNext
 refine wpAny_bind (wpAny_attempt (wpAny_callSpecial?_slot (name := Str.ofString "__next__") hT F.slot_zip_next (wpAny_call_entry F.slot_zip_next hT F.entry_zip_next ?_ (F.args_zip_next_1 _))))
 show wpAny _ _ (field (.ref z) 2 >>= _) _ _ _
 refine wpAny_bind (wpAny_field hz rfl (x := .bool false) rfl ?_)
 show wpAny _ _ (field (.ref z) 3 >>= _) _ _ _
 refine wpAny_bind (wpAny_field hz rfl (x := .ref TI) rfl ?_)
 refine wpAny_bind (wpAny_seqItems hTI rfl ?_)
 show wpAny _ _ (Builtin.SmallTypes.ownedTupleIsFree (.ref z) >>= _) _ _ _
 refine zip_busy_free hz hTh fun ha hza sa => ?_
 rw [if_neg Bool.false_ne_true]
 simp only [List.forIn_toArray, List.forIn_cons, List.forIn_nil]
 refine wpAny_bind (wpAny_bind (wpAny_bind (wpAny_holding ?_)))
 show wpAny _ _ (Builtin.SmallTypes.nextOf (.ref i1) >>= _) _ _ _
 refine wpAny_bind (I1.item _ _ _ k x _ (I1.keep _ _ _ h1 (fun o e => sa.extBut _ _ D.i1z e) fun o e => sa.extBut _ _ D.l1z e) hx fun hb h1b sb => wpAny_pure ?_)
 refine wpAny_pure ?_
 show wpAny _ _ (((holding _ (Builtin.SmallTypes.nextOf (.ref i2) >>= _) >>= _) >>= _)) _ _ _
 refine wpAny_bind (wpAny_bind (wpAny_holding ?_))
 refine wpAny_bind (I2.item _ _ _ k y _ (I2.keep _ _ _ h2 (fun o e => sb.extBut _ _ D.i12.symm (sa.extBut _ _ D.i2z e)) fun o e => sb.extBut _ _ D.l2i1 (sa.extBut _ _ D.l2z e)) hy fun hd h2d sd => wpAny_pure (wpAny_pure (wpAny_pure ?_)))
 show wpAny _ _ (newTuple [x, y] >>= _) _ _ _
 refine wpAny_bind (wpAny_newTuple ?_)
 have hsz : hd.objs.size = s.heap.objs.size := by rw [sd.1, sb.1, sa.1]
 have up : ∀ c o, c ≠ z → c ≠ i1 → c ≠ i2 → s.heap.get? c = some o → (hd.push { cls := .type "tuple", data := .seq #[x, y] }).get? c = some o := fun c o c1 c3 c4 e => Heap.get?_push_of_some _ (sd.extBut _ _ c4 (sb.extBut _ _ c3 (sa.extBut _ _ c1 e)))
 refine wpAny_pure ⟨_, rfl, wpAny_pure ?_⟩
 rw [hsz]
 refine hQ _ ⟨⟨TO, true, Heap.get?_push_of_some _ (sd.extBut _ _ D.i2z.symm (sb.extBut _ _ D.i1z.symm hza))⟩, up _ _ D.TIz D.TIi1 D.TIi2 hTI, x1_0 hTh fun o e => ⟨o, up _ _ D.Tz D.Ti1 D.Ti2 e⟩,
  I1.keep _ _ _ h1b (fun o e => Heap.get?_push_of_some _ (sd.extBut _ _ D.i12 e)) (fun o e => Heap.get?_push_of_some _ (sd.extBut _ _ D.l1i2 e)), I2.keep _ _ _ h2d (fun o e => Heap.get?_push_of_some _ e) (fun o e => Heap.get?_push_of_some _ e)⟩ ?_ up
 rw [← hsz]
 exact Heap.get?_push_size _ rfl
theorem zipEndB (D : BusyApart z TI T i1 i2 l1 l2) (I1 : SubIt prog w i1 l1 xs St1) (I2 : SubIt prog w i2 l2 ys St2) {k : Nat} {Q : Option Value → Shared → Prop} (hh : A.handled = none) (Z : ZipBusy s.heap z TI T i1 i2 St1 St2 k) (hend : xs[k]? = none ∨ ys[k]? = none)
  (hQ : ∀ h', (∀ c o, c ≠ z → c ≠ i1 → c ≠ i2 → s.heap.get? c = some o → h'.get? c = some o) → Q none { s with heap := h' }) : wpAny (model prog w) A (pyNext (.ref z)) Q E s := by
 obtain ⟨⟨TO, f1, hz⟩, hTI, hTh, h1, h2⟩ := Z
 have hT : s.TypeIs (.ref z) "zip" := ⟨_, hz, rfl⟩
 have fin : ∀ h' e, (∀ c o, c ≠ z → c ≠ i1 → c ≠ i2 → s.heap.get? c = some o → h'.get? c = some o) → (∃ o, h'.get? e = some o ∧ o.cls = .type "StopIteration") → wpAny (model prog w) A (do if ← isInstance (.ref e) (.type "StopIteration") then pure none else throw (.ref e)) Q E { s with heap := h' } := fun h' e hk he => by
  (refine x1_1 he ?_; clear he; intro o ho hc)
  exact wpAny_bind (wpAny_isInstance (T := "StopIteration") (b := true) ⟨o, ho, hc⟩ isSubtype_stop (wpAny_pure (hQ _ hk)))
 unfold pyNext
 refine wpAny_bind (wpAny_attempt (wpAny_callSpecial?_slot (name := Str.ofString "__next__") hT F.slot_zip_next (wpAny_call_entry F.slot_zip_next hT F.entry_zip_next ?_ (F.args_zip_next_1 _))))
 show wpAny _ _ (field (.ref z) 2 >>= _) _ _ _
 refine wpAny_bind (wpAny_field hz rfl (x := .bool false) rfl ?_)
 show wpAny _ _ (field (.ref z) 3 >>= _) _ _ _
 refine wpAny_bind (wpAny_field hz rfl (x := .ref TI) rfl ?_)
 refine wpAny_bind (wpAny_seqItems hTI rfl ?_)
 show wpAny _ _ (Builtin.SmallTypes.ownedTupleIsFree (.ref z) >>= _) _ _ _
 refine zip_busy_free hz hTh fun ha hza sa => ?_
 rw [if_neg Bool.false_ne_true]
 simp only [List.forIn_toArray, List.forIn_cons, List.forIn_nil]
 refine wpAny_bind (wpAny_bind (wpAny_bind (wpAny_holding ?_)))
 show wpAny _ _ (Builtin.SmallTypes.nextOf (.ref i1) >>= _) _ _ _
 have h1a := I1.keep _ _ _ h1 (fun o e => sa.extBut _ _ D.i1z e) fun o e => sa.extBut _ _ D.l1z e
 cases hx : xs[k]? with
 | none =>
  refine wpAny_bind (I1.stop _ _ _ k _ hh h1a hx fun hb e sb he => ?_)
  exact fin hb e (fun c o c1 c3 c4 x => sb _ _ c3 (sa.extBut _ _ c1 x)) he
 | some x =>
  have hy : ys[k]? = none := by rcases hend with h | h; rw [hx] at h; cases h; exact h
  refine wpAny_bind (I1.item _ _ _ k x _ h1a hx fun hb h1b sb => wpAny_pure ?_)
  refine wpAny_pure ?_
  show wpAny _ _ (((holding _ (Builtin.SmallTypes.nextOf (.ref i2) >>= _) >>= _) >>= _)) _ _ _
  refine wpAny_bind (wpAny_bind (wpAny_holding ?_))
  refine wpAny_bind (I2.stop _ _ _ k _ hh (I2.keep _ _ _ h2 (fun o e => sb.extBut _ _ D.i12.symm (sa.extBut _ _ D.i2z e)) fun o e => sb.extBut _ _ D.l2i1 (sa.extBut _ _ D.l2z e)) hy fun hd e sd he => ?_)
  exact fin hd e (fun c o c1 c3 c4 x => sd _ _ c4 (sb.extBut _ _ c3 (sa.extBut _ _ c1 x))) he
end
end
section
set_option tactic.hygienic false
theorem dul_plain : plainId "dict.update.loop" = true := by decide +kernel
theorem dul_entry : entryFor table "dict.update.loop" = some Builtin.«dict.update.loop» := entryFor_of_tree (by kernel_rfl)
section
variable {prog : Program} {w : World} {A : Around} {E : Value → Shared → Prop} {z TI TO T i1 i2 l1 l2 d : Addr} {xs ys : Array Value} {St1 St2 : Nat → Heap → Prop}
theorem pairTurn {s : Shared} {t : Addr} {i : Int} {u : Tok} {v it : Value} {n : Int} {kvs : List (Int × Value)} {Q : PySem.Fin → Shared → Prop} (ht : IsPair s.heap t (.int i u) v) (hd : s.heap.DictOf (intKind prog w) d kvs) (hl : kvs.length ≤ sizeLine)
  (h : ∀ h' tk, h'.DictOf (intKind prog w) d (stored kvs i v) → Heap.SameBut d s.heap h' → Q (.again (.builtin "dict.update.loop" ⟨[.ref d, it, rawInt (n + 1), .none], []⟩)) { s with heap := h', toks := tk }) :
  wpAny (model prog w) A (do
   holding [.ref t] do
    let pair ← (Builtin.Dict.pairItems (.ref t)).tryCatch fun e => do
     if !(← isInstance e (.type "TypeError")) then throw e
     rule "dict.update.element-no-sequence"
     raiseError "TypeError" s!"cannot convert dictionary update sequence element #{n} to a sequence"
    match pair with
    | [k, v] => holding [k, v] (dictSet d k v)
    | l =>
     rule "dict.update.element-length"
     raiseError "ValueError" s!"dictionary update sequence element #{n} has length {l.length}; 2 is required"
   again (.builtin "dict.update.loop" ⟨[.ref d, it, rawInt (n + 1), .none], []⟩)) Q E s := by
 refine wpAny_bind (wpAny_holding (wpAny_bind (wpAny_tryCatch ?_)))
 unfold Builtin.Dict.pairItems
 refine wpAny_bind (wpAny_typeOf (T := "tuple") ⟨_, ht, rfl⟩ ?_)
 rw [if_pos (by decide)]
 refine wpAny_bind (wpAny_seqItems ht rfl ?_)
 refine wpAny_pure ?_
 show wpAny _ _ (holding [_, _] (dictSet d (.int i u) v)) _ _ _
 refine wpAny_holding (wpAny_dictSet_pairs (intKind_is _ _ _ _) hd (fun h' hd' hs' => wpAny_pure (h h' _ hd' hs')) hl)
theorem updLoop {T' : Addr} (hA : A.handled = none) (D : BusyApart z TI T i1 i2 l1 l2) (I1 : SubIt prog w i1 l1 xs St1) (I2 : SubIt prog w i2 l2 ys St2) (dz : d ≠ z) (dT : d ≠ TI) (d1 : d ≠ i1) (d2 : d ≠ i2) (dl1 : d ≠ l1) (dl2 : d ≠ l2) (dt : d ≠ T) {R : Value → Shared → Prop} :
  ∀ (ps : List (Int × Value)) (s : Shared) (k : Nat) (n : Int) (kvs : List (Int × Value)), ZipBusy s.heap z TI T i1 i2 St1 St2 k → s.heap.DictOf (intKind prog w) d kvs → kvs.length + ps.length ≤ 1000 → (∀ j i v, ps[j]? = some (i, v) → ∃ t, xs[k + j]? = some (.int i t) ∧ ys[k + j]? = some v) → (xs[k + ps.length]? = none ∨ ys[k + ps.length]? = none) →
   (∀ h' tk, h'.DictOf (intKind prog w) d (merged kvs ps) → (∀ c o, c ≠ z → c ≠ i1 → c ≠ i2 → c ≠ d → s.heap.get? c = some o → h'.get? c = some o) → R .none { s with heap := h', toks := tk }) →
   codeAny (model prog w) A (.builtin "dict.update.loop" ⟨[.ref d, .ref z, rawInt n, .none], []⟩) (wants R E) s := by
 intro ps
 induction ps with
 | nil =>
  intro s k n kvs Z hd hl hi he hR
  refine codeAny_builtin dul_entry ?_
  rw [Around.under_plainId dul_plain _]
  show wpAny _ A.in1 (pyNext (.ref z) >>= _) _ _ s
  refine wpAny_bind (zipEndB D I1 I2 hA Z he fun h' hk => ?_)
  refine wpAny_bind (m := Builtin.Dict.addKeywords d []) (wpAny_pure (wpAny_pure ?_))
  (refine x3_1 hd ?_; clear hd; intro o es ep ho hr)
  exact hR h' _ ⟨o, es, ep, hk _ _ dz d1 d2 ho, hr⟩ fun c o c1 c2 c3 ww e => hk c o c1 c2 c3 e
 | cons p ps ih =>
  intro s k n kvs Z hd hl hi he hR
  obtain ⟨i, v⟩ := p
  (refine x1_1 (hi 0 i v rfl) ?_; intro t hx hy)
  refine codeAny_builtin dul_entry ?_
  rw [Around.under_plainId dul_plain _]
  show wpAny _ A.in1 (pyNext (.ref z) >>= _) _ _ s
  refine wpAny_bind (zipItemB D I1 I2 Z hx hy fun h' Z' hT hk => ?_)
  simp only [List.length_cons] at hl he
  have hd1 : h'.DictOf (intKind prog w) d kvs := by
   (refine x3_1 hd ?_; clear hd; intro o es ep ho hr)
   exact ⟨o, es, ep, hk _ _ dz d1 d2 ho, hr⟩
  refine pairTurn hT hd1 (by rw [sizeLine_eq]; omega) fun h2 tk hd2 hs2 => ⟨plainId_quiet dul_plain _, ?_⟩
  have up : ∀ c o, c ≠ z → c ≠ i1 → c ≠ i2 → c ≠ d → s.heap.get? c = some o → h2.get? c = some o := fun c o c1 c2 c3 c4 e => hs2.extBut _ _ c4 (hk c o c1 c2 c3 e)
  refine ih { s with heap := h2, toks := tk } (k + 1) (n + 1) (stored kvs i v) ⟨?_, hs2.extBut _ _ dT.symm Z'.TI, ?_, I1.keep _ _ _ Z'.s1 (fun o e => hs2.extBut _ _ d1.symm e) (fun o e => hs2.extBut _ _ dl1.symm e), I2.keep _ _ _ Z'.s2 (fun o e => hs2.extBut _ _ d2.symm e) (fun o e => hs2.extBut _ _ dl2.symm e)⟩ hd2 ?_ (fun j i v e => ?_) ?_ fun h3 tk' hd3 hk3 => hR h3 tk' hd3 fun c o c1 c2 c3 c4 e => hk3 c o c1 c2 c3 c4 (up c o c1 c2 c3 c4 e)
  ·(refine x2_0 Z'.z ?_; intro TO f1 e)
   exact ⟨TO, f1, hs2.extBut _ _ dz.symm e⟩
  ·(refine x1_0 Z'.T ?_; intro o e)
   exact ⟨o, hs2.extBut _ _ dt.symm e⟩
  ·have := stored_length_le kvs i v
   omega
  ·have := hi (j + 1) i v e
   rw [show k + 1 + j = k + (j + 1) by omega]
   exact this
  ·rw [show k + 1 + ps.length = k + (ps.length + 1) by omega]
   exact he
end
end
section
set_option tactic.hygienic false
section
variable {prog : Program} {w : World} {A : Around} {E : Value → Shared → Prop} {z TI TO i1 i2 l1 l2 d : Addr} {xs ys : Array Value} {St1 St2 : Nat → Heap → Prop}
theorem updFirst {s : Shared} (hA : A.handled = none) (D : ZipApart z TI TO i1 i2 l1 l2) (I1 : SubIt prog w i1 l1 xs St1) (I2 : SubIt prog w i2 l2 ys St2) (dz : d ≠ z) (dT : d ≠ TI) (dTO : d ≠ TO) (d1 : d ≠ i1) (d2 : d ≠ i2) (dl1 : d ≠ l1) (dl2 : d ≠ l2) {R : Value → Shared → Prop}
  (Z : ZipAt s.heap z TI TO i1 i2 .none St1 St2 0) (hd : s.heap.DictOf (intKind prog w) d []) (ps : List (Int × Value)) (hl : ps.length ≤ 900) (hi : ∀ (j : Nat) (i : Int) (v : Value), ps[j]? = some (i, v) → ∃ t, xs[j]? = some (.int i t) ∧ ys[j]? = some v) (he : xs[ps.length]? = none ∨ ys[ps.length]? = none)
  (hR : ∀ h' tk, h'.DictOf (intKind prog w) d (merged [] ps) → (∀ c o, c ≠ z → c ≠ TO → c ≠ i1 → c ≠ i2 → c ≠ d → s.heap.get? c = some o → h'.get? c = some o) → R .none { s with heap := h', toks := tk }) :
  codeAny (model prog w) A (.builtin "dict.update.loop" ⟨[.ref d, .ref z, rawInt 0, .none], []⟩) (wants R E) s := by
 (refine x3_1 hd ?_; clear hd; intro od ed epd hod hrd)
 refine codeAny_builtin dul_entry ?_
 rw [Around.under_plainId dul_plain _]
 show wpAny _ A.in1 (pyNext (.ref z) >>= _) _ _ s
 cases ps with
 | nil =>
  refine wpAny_bind (zipEnd D I1 I2 hA Z he fun h' hk => ?_)
  refine wpAny_bind (m := Builtin.Dict.addKeywords d []) (wpAny_pure (wpAny_pure ?_))
  exact hR h' _ ⟨od, ed, epd, hk _ _ dz dTO d1 d2 hod, hrd⟩ fun c o c1 c2 c3 c4 ww e => hk c o c1 c2 c3 c4 e
 | cons p ps =>
  obtain ⟨i, v⟩ := p
  (refine x1_1 (hi 0 i v rfl) ?_; intro t hx hy)
  refine wpAny_bind (zipItem D I1 I2 Z hx hy fun h' Z' hT hk => ?_)
  simp only [List.length_cons] at hl he
  have hd1 : h'.DictOf (intKind prog w) d [] := ⟨od, ed, epd, hk _ _ dz dTO d1 d2 hod, hrd⟩
  have lt : ∀ {c o}, s.heap.get? c = some o → s.heap.objs.size ≠ c := fun e h => Nat.lt_irrefl _ (h ▸ Heap.lt_size e)
  have lz := lt Z.z
  have lTI := lt Z.TI
  have ld := lt hod
  have li1 : s.heap.objs.size ≠ i1 := x1_0 (I1.live _ _ Z.s1) fun o e => lt e
  have li2 : s.heap.objs.size ≠ i2 := x1_0 (I2.live _ _ Z.s2) fun o e => lt e
  refine pairTurn hT hd1 (by rw [sizeLine_eq]; simp) fun h2 tk hd2 hs2 => ⟨plainId_quiet dul_plain _, ?_⟩
  have up : ∀ c o, c ≠ z → c ≠ TO → c ≠ i1 → c ≠ i2 → c ≠ d → s.heap.get? c = some o → h2.get? c = some o := fun c o c1 c5 c2 c3 c4 e => hs2.extBut _ _ c4 (hk c o c1 c5 c2 c3 e)
  refine updLoop hA ⟨D.TIz, D.TIi1, D.TIi2, lz, li1, li2, D.i1z, D.i2z, D.i12, D.l1z, D.l1i2, D.l2z, D.l2i1⟩ I1 I2 dz dT d1 d2 dl1 dl2 ld.symm (T' := z) ps { s with heap := h2, toks := tk } 1 1 (stored [] i v) ⟨⟨TO, false, hs2.extBut _ _ dz.symm Z'.z⟩, hs2.extBut _ _ dT.symm Z'.TI, ⟨_, hs2.extBut _ _ ld hT⟩, I1.keep _ _ _ Z'.s1 (fun o e => hs2.extBut _ _ d1.symm e) (fun o e => hs2.extBut _ _ dl1.symm e), I2.keep _ _ _ Z'.s2 (fun o e => hs2.extBut _ _ d2.symm e) (fun o e => hs2.extBut _ _ dl2.symm e)⟩ hd2 ?_ (fun j i v e => ?_) ?_ fun h3 tk' hd3 hk3 => hR h3 tk' hd3 fun c o c1 c5 c2 c3 c4 e => hk3 c o c1 c2 c3 c4 (up c o c1 c5 c2 c3 c4 e)
  ·have := stored_length_le ([] : List (Int × Value)) i v
   simp at this; lia
  ·have := hi (j + 1) i v e
   rw [Nat.add_comm 1 j]
   exact this
  ·rw [Nat.add_comm 1]
   exact he
theorem call_dict_zip {s : Shared} {Q : Value → Shared → Prop} (hA : A.handled = none) (D : ZipApart z TI TO i1 i2 l1 l2) (I1 : SubIt prog w i1 l1 xs St1) (I2 : SubIt prog w i2 l2 ys St2) (Z : ZipAt s.heap z TI TO i1 i2 .none St1 St2 0) (hl1 : ∃ o, s.heap.get? l1 = some o) (hl2 : ∃ o, s.heap.get? l2 = some o)
  (ps : List (Int × Value)) (hl : ps.length ≤ 900) (hi : ∀ (j : Nat) (i : Int) (v : Value), ps[j]? = some (i, v) → ∃ t, xs[j]? = some (.int i t) ∧ ys[j]? = some v) (he : xs[ps.length]? = none ∨ ys[ps.length]? = none)
  (h : ∀ h' tk, h'.DictOf (intKind prog w) s.heap.objs.size (merged [] ps) → (∀ c o, c ≠ z → c ≠ TO → c ≠ i1 → c ≠ i2 → s.heap.get? c = some o → h'.get? c = some o) → Q (.ref s.heap.objs.size) { s with heap := h', toks := tk }) :
  wpAny (model prog w) A (call (.type "dict") [.ref z]) Q E s := by
 refine callType_codes (Q₁ := fun obj s₁ => obj = .ref s.heap.objs.size ∧ s₁ = { s with heap := s.heap.push { cls := .type "dict", data := .dict #[] } }) F.kt_called_dict (F.kt_typeCall_dict_1 _) F.entry_dict_init (kt_code_dict_new _ ⟨rfl, rfl⟩) ?_
 (intro obj; intro s₁; intro z2r; (refine x0_1 z2r ?_; clear z2r; intro z1 z2; obtain rfl := z1; obtain rfl := z2))
 have hnew : (s.heap.push { cls := .type "dict", data := .dict #[] }).DictOf (intKind prog w) s.heap.objs.size [] := Heap.DictOf.new s.heap
 have pu : ∀ c o, s.heap.get? c = some o → (s.heap.push { cls := .type "dict", data := .dict #[] }).get? c = some o := fun c o e => Heap.get?_push_of_some _ e
 have lt : ∀ {c o}, s.heap.get? c = some o → s.heap.objs.size ≠ c := fun e h => Nat.lt_irrefl _ (h ▸ Heap.lt_size e)
 have Z1 := Z.keep I1 I2 (h' := s.heap.push { cls := .type "dict", data := .dict #[] }) fun b ww o e => pu b o e
 refine ⟨hnew.typeIs, F.args_dict_init_2 _ _, ?_⟩
 unfold Builtin.«dict.__init__»
 refine wpAny_bind ?_
 unfold Builtin.Dict.selfAndRest
 refine wpAny_bind (wpAny_notOrdered_dict hnew.typeIs ?_)
 show wpAny _ _ (pure (s.heap.objs.size, [Value.ref z])) _ _ _
 refine wpAny_pure ?_
 show wpAny _ _ (Builtin.Dict.updateFrom "dict.__init__" s.heap.objs.size (.ref z) [] .none) _ _ _
 unfold Builtin.Dict.updateFrom
 refine wpAny_bind (wpAny_typeOf (T := "zip") ⟨_, Z1.z, rfl⟩ ?_)
 rw [if_pos (by decide)]
 refine wpAny_bind (zip_keys Z1.z hA fun h1 tk1 hk1 => ?_)
 rw [if_pos (show (Option.isNone (none : Option Value)) = true from rfl)]
 have Z2 := Z1.keep I1 I2 fun b ww o e => hk1 b o e
 refine wpAny_bind (wpAny_rule (wpAny_bind (wpAny_pyIter_zip Z2.z ?_)))
 (refine x3_1 hnew ?_; clear hnew; intro on en epn hon hrn)
 (refine x1_0 hl1 ?_; clear hl1; intro ol1 el1)
 (refine x1_0 hl2 ?_; clear hl2; intro ol2 el2)
 (refine x2_0 Z.TO ?_; intro oa ob eTO)
 refine wpAny_pure ⟨plainId_quiet dul_plain _, ?_⟩
 refine updFirst (A := A.in1) (s := { s with heap := h1, toks := tk1 }) (R := fun r s₂ => r = Value.none ∧ Q (Value.ref s.heap.objs.size) s₂) hA D I1 I2 (lt Z.z) (lt Z.TI) (lt eTO) (x1_0 (I1.live _ _ Z.s1) fun o e => lt e) (x1_0 (I2.live _ _ Z.s2) fun o e => lt e) (lt el1) (lt el2) Z2 ⟨on, en, epn, hk1 _ _ hon, hrn⟩ ps hl hi he fun h' tk hd hk => ⟨rfl, h h' tk hd fun c o c1 c2 c3 c4 e => hk c o c1 c2 c3 c4 (lt e).symm (hk1 _ _ (pu _ _ e))⟩
end
end
section
set_option tactic.hygienic false
noncomputable def dz (l : List (Nat × Int)) : Fd := l.foldl (fun fs p => fput fs p.1 p.2) []
theorem merged_rel {W : Wd} : ∀ (qs : List (Nat × Int)) (ps kvs : List (Int × Value)) (fs : Fd), ps.map (·.1) = qs.map (fun q => (q.1 : Int)) → VRs W (ps.map (·.2)) (qs.map fun q => .d (.int q.2)) → kvs.map (·.1) = (enc fs).map (·.1) → VRs W (kvs.map (·.2)) ((enc fs).map (·.2)) →
  (merged kvs ps).map (·.1) = (enc (qs.foldl (fun fs p => fput fs p.1 p.2) fs)).map (·.1) ∧ VRs W ((merged kvs ps).map (·.2)) ((enc (qs.foldl (fun fs p => fput fs p.1 p.2) fs)).map (·.2))
 | [], [], kvs, fs, _, _, h1, h2 => ⟨h1, h2⟩
 | [], _ :: _, _, _, h, _, _, _ => by simp at h
 | _ :: _, [], _, _, h, _, _, _ => by simp at h
 | (x, v) :: qs, (i, u) :: ps, kvs, fs, h, hv, h1, h2 => by
  simp only [List.map_cons, List.cons.injEq] at h
  (refine x0_1 h ?_; clear h; intro z1 h; obtain rfl := z1)
  cases hv with
  | cons r hv =>
   have := stored_rel (v := u) r (x : Int) h1 h2
   rw [putD_enc] at this
   exact merged_rel qs ps _ _ h hv this.1 this.2
theorem zip_rel {W : Wd} : ∀ (xs : List Nat) (ws : List Value) (vs : List Int), RdAll W.F ws (vs.map .int) →
  ((xs.map fun x : Nat => (x : Int)).zip ws).map (·.1) = (xs.zip vs).map (fun q => (q.1 : Int)) ∧ VRs W (((xs.map fun x : Nat => (x : Int)).zip ws).map (·.2)) ((xs.zip vs).map fun q => .d (.int q.2))
 | [], _, _, _ => ⟨rfl, .nil⟩
 | _ :: _, [], [], _ => ⟨rfl, .nil⟩
 | _ :: _, [], _ :: _, h => by cases h
 | _ :: _, _ :: _, [], h => by cases h
 | x :: xs, w :: ws, v :: vs, h => by
  cases h with
  | cons r h =>
   have ih := zip_rel xs ws vs h
   exact ⟨by simp only [List.map_cons, List.zip_cons_cons]; rw [ih.1], .cons (a := .d (.int v)) r ih.2⟩
section
variable {g : G KK} {k : Nat} {sc : Scope} {m : Loc} {σ : AH}
theorem EvW.dictZip {p p' : Pos} {e1 e2 : Expr} {pos pos' : Pos} {Q : AV → AH → Prop} (hx : sc.names.lookup ("dict" : Str) = some .globalImplicit) (hx' : sc.names.lookup ("zip" : Str) = some .globalImplicit)
  (hp : ∀ env, backTo pos (starEach [.Call (.Name "zip" p') [e1, e2] [] pos'] env) = [(false, eval (.Call (.Name "zip" p') [e1, e2] [] pos') env)]) (hp' : ∀ env, backTo pos' (starEach [e1, e2] env) = [(false, eval e1 env), (false, eval e2 env)])
  (h : EvW g k sc m σ e1 (fun a σ1 => EvW g k sc m σ1 e2 (fun b σ2 => ∃ (xs : List Nat) (vs : List Int), a = .d (.tuple (mks xs)) ∧ b = .d (.tuple (vs.map .int)) ∧ xs.length ≤ 10 ∧ Q (.r σ2.next) (σ2.push (.dictI (enc (dz (xs.zip vs)))))))) :
  EvW g k sc m σ (.Call (.Name "dict" p) [.Call (.Name "zip" p') [e1, e2] [] pos'] [] pos) Q := by
 intro A env W s R eo X Fm
 refine Call_Name (hp env) ((CT.dict.glb (g := g) hx).1 A env s p _ eo X.base' ?_)
 refine PyProof.Rows.callWith_type rfl (evalArgs_plain (spliced_cons ?_))
 refine Call_Name (hp' env) ((gb_zip (g := g) hx') A env s p' _ eo X.base' ?_)
 refine PyProof.Rows.callWith_type rfl (evalArgs_plain (spliced_cons (h.then R eo X Fm fun v s0 W0 σ0 a st0 pp0 Fm0 vr0 h0 => spliced_cons (h0.then R eo st0.abs Fm0 fun w s1 W1 σ1 b st pp Fm1 vr h1 => spliced_nil ?_))))
 (refine x2_1 h1 ?_; clear h1; intro xs vs z2 z3; obtain rfl := z2; refine x0_1 z3 ?_; clear z3; intro z4 z5; obtain rfl := z4; refine x0_1 z5 ?_; clear z5; intro hl q)
 have X1 := st.abs
 have vr1 := vr0.le st.le
 change Rd W1.F v (.tuple (mks xs)) at vr1
 change Rd W1.F w (.tuple (vs.map .int)) at vr
 refine x4_4 vr1.inv ?_
 clear vr1
 intro a1 o1 vs1 n1 zv e1 hc1 hd1 r1
 subst zv
 refine x4_4 vr.inv ?_
 clear vr
 intro a2 o2 vs2 n2 zv e2 hc2 hd2 r2
 subst zv
 have hl1 : s1.heap.IsTuple a1 vs1 := ⟨o1, X1.keepF _ _ e1, hc1, n1, hd1⟩
 have hl2 : s1.heap.IsTuple a2 vs2 := ⟨o2, X1.keepF _ _ e2, hc2, n2, hd2⟩
 refine call_zip_tuples hl1 hl2 fun h' hz hTI hTO i1 i2 gr => ?_
 refine spliced_nil ?_
 have D : ZipApart (s1.heap.objs.size + 4) (s1.heap.objs.size + 2) (s1.heap.objs.size + 3) s1.heap.objs.size (s1.heap.objs.size + 1) a1 a2 := PyProof.Rows.zipApart_new (X1.fLt e1) (X1.fLt e2)
 have la := r1.length
 have lb := r2.length
 rw [Array.length_toList (xs := vs1), List.length_map] at la
 rw [Array.length_toList (xs := vs2), List.length_map] at lb
 refine call_dict_zip (s := { s1 with heap := h' }) R.handled D (SubIt.tuple (Nat.ne_of_lt (X1.fLt e1)) vs1) (SubIt.tuple (Nat.ne_of_lt (Nat.lt_succ_of_lt (X1.fLt e2))) vs2) ⟨hz, hTI, ⟨_, _, hTO⟩, ⟨i1, hl1.at fun o e => gr _ _ e⟩, ⟨i2, hl2.at fun o e => gr _ _ e⟩⟩ ⟨_, gr _ _ (X1.keepF _ _ e1)⟩ ⟨_, gr _ _ (X1.keepF _ _ e2)⟩ ((xs.map fun x : Nat => (x : Int)).zip vs2.toList) (by simp; lia) (fun j i v e => ?_) ?_ fun h2 tk hd hk => ?_
 ·obtain ⟨z1, z2⟩ := List.getElem?_zip_eq_some.mp e
  rw [List.getElem?_map] at z1
  cases ex : xs[j]? with
  | none => rw [ex] at z1; cases z1
  | some x =>
   rw [ex] at z1
   cases z1
   have hm : (mks xs)[j]? = some (.int (x : Nat)) := by rw [List.getElem?_map, ex]; rfl
   (refine x1_1 (r1.get hm) ?_; intro u hu ru)
   (refine x1_0 (VR.int (W := W1) ru) ?_; intro t z6; obtain rfl := z6)
   exact ⟨t, by rw [← Array.getElem?_toList]; exact hu, by rw [← Array.getElem?_toList]; exact z2⟩
 ·rw [List.length_zip, List.length_map, Array.length_toList (xs := vs2)]
  rcases Nat.le_total xs.length vs2.size with z | z
  ·exact .inl (Array.getElem?_eq_none (by lia))
  ·exact .inr (Array.getElem?_eq_none (by lia))
 ·have gr2 : Grows s1.heap h2 := fun c o e => by
   have := Heap.lt_size e
   have l : ∀ n, c ≠ s1.heap.objs.size + n := fun n => Nat.ne_of_lt (Nat.lt_of_lt_of_le this (Nat.le_add_right _ _))
   exact hk c o (l 4) (l 3) (l 0) (l 1) (gr _ _ e)
  have ge : s1.heap.objs.size ≤ h'.objs.size :=
   Nat.le_of_lt (Nat.lt_of_le_of_lt (Nat.le_add_right _ _) (Heap.lt_size hz))
  have X2 := X1.grows gr2
  have nF : W1.F h'.objs.size = Option.none := by
   cases e : W1.F h'.objs.size with
   | none => rfl
   | some o => exact absurd (X1.fLt e) (Nat.not_lt.mpr ge)
  have nP : W1.P h'.objs.size = Option.none := by
   cases e : W1.P h'.objs.size with
   | none => rfl
   | some o => exact absurd (X1.pLt e) (Nat.not_lt.mpr ge)
  have nO : ∀ i, ¬ Owns W1 σ1 i h'.objs.size := fun i z => by
   (refine x1_0 (X1.owned z) ?_; intro o e)
   exact absurd (Heap.lt_size e) (Nat.not_lt.mpr ge)
  have hb := X1.big
  have X3 := X2.one (a := h'.objs.size) (o := .dictI (enc (dz (xs.zip vs)))) nF nP nO fun d => by
   have l := W1.leO h'.objs.size d
   refine ⟨?_, merged [] ((xs.map fun x : Nat => (x : Int)).zip vs2.toList), ?_, ?_, ?_⟩
   ·rw [Wd.addO_φ]; exact Nat.ne_of_gt (Nat.lt_of_lt_of_le (Nat.lt_trans (by decide) hb) ge)
   ·rw [Wd.addO_φ]; exact hd
   ·have zr := zip_rel (W := W1.addO h'.objs.size d) xs vs2.toList vs (r2.mono l.F)
    exact (merged_rel (xs.zip vs) _ [] [] zr.1 zr.2 rfl .nil).1
   ·have zr := zip_rel (W := W1.addO h'.objs.size d) xs vs2.toList vs (r2.mono l.F)
    exact (merged_rel (xs.zip vs) _ [] [] zr.1 zr.2 rfl .nil).2
  refine ⟨_, _, .r σ1.next, ⟨X3, (st0.le.trans st.le).trans (W1.leO _ _), st.os.trans st0.os, st.gens.trans st0.gens⟩, pp.trans pp0, ?_, q⟩
  rw [← X1.n]
  exact ⟨Nat.lt_succ_self _, by rw [Wd.addO_φ]⟩
end
end
section
set_option tactic.hygienic false
theorem fget_put {fs : Fd} {x y : Nat} {v : Int} : fget (fput fs x v) y = if y = x then some v else fget fs y := by
 unfold fput
 split
 ·rename_i h
  unfold fget
  induction fs with
  | nil => simp at h
  | cons p r ih =>
   by_cases hp : p.1 = x
   ·by_cases hy : y = x
    ·subst hy; simp [hp]
    ·rw [List.map_cons, if_pos hp, List.find?_cons_of_neg (by simp [hp]; lia), if_neg hy, List.find?_cons_of_neg (by simp [hp]; lia)]
     by_cases hr : r.any (fun p => p.1 = x) = true
     ·have := ih hr; rw [if_neg hy] at this; exact this
     ·congr 2
      conv => rhs; rw [← List.map_id r]
      apply List.map_congr_left
      intro q hq
      rw [if_neg]
      ·rfl
      ·intro hq'; exact hr (List.any_eq_true.mpr ⟨q, hq, by simpa using hq'⟩)
   ·have hr : r.any (fun p => p.1 = x) = true := by simpa [hp] using h
    have ih := ih hr
    rw [List.map_cons, if_neg hp]
    by_cases hpy : p.1 = y
    ·have : ¬ y = x := fun z => hp (hpy.trans z)
     simp [hpy, this]
    ·rw [List.find?_cons_of_neg (by simpa using hpy), List.find?_cons_of_neg (by simpa using hpy)]; exact ih
 ·rename_i h
  unfold fget
  rw [List.find?_append]
  by_cases hy : y = x
  ·subst hy
   have : fs.find? (fun p => decide (p.1 = y)) = none := List.find?_eq_none.mpr fun p hp hq => h (List.any_eq_true.mpr ⟨p, hp, hq⟩)
   rw [this]; simp
  ·rw [if_neg hy]
   cases fs.find? (fun p => decide (p.1 = y)) with
   | some q => rfl
   | none => simp; lia
theorem dz_get {f : Nat → Int} {xs : List Nat} {x : Nat} (hx : x ∈ xs) : fget (dz (xs.zip (xs.map f))) x = some (f x) := by
 have key : ∀ (xs : List Nat) (fs : Fd), (x ∈ xs ∨ fget fs x = some (f x)) → fget ((xs.zip (xs.map f)).foldl (fun fs p => fput fs p.1 p.2) fs) x = some (f x) := by
  intro xs
  induction xs with
  | nil => intro fs h; exact h.resolve_left fun z => by cases z
  | cons y r ih =>
   intro fs h
   show fget ((r.zip (r.map f)).foldl _ (fput fs y (f y))) x = _
   refine ih _ ?_
   by_cases e : x = y
   ·subst e
    exact .inr (by rw [fget_put, if_pos rfl])
   ·rcases h with h | h
    ·rcases List.mem_cons.mp h with h | h
     ·exact (e h).elim
     ·exact .inl h
    ·exact .inr (by rw [fget_put, if_neg e]; exact h)
 exact key xs [] (.inl hx)
local macro_rules | `(tactic| walk_at "slice") => `(tactic| with_reducible refine EvW.dropT ?_)
section
variable (g : G KK) {A : Nat → Prop} {σ : AH} {S k p rw b : Nat} {pr : Prt} {c : Int} {ps : List Nat} {inner : List PyData}
theorem em_rowholds {sc : Scope} {m : Loc} {pl : Env → Sem Bool} {o : Expr} {ap : Pos} {args : List Expr} {pos : Pos} {Q : AV → AH → Prop}
  (he : ∀ env, eval (.Call (.Attribute o "holds" ap) args [] pos) env = (do
   let ov ← eval o env
   standAt ap.atName
   let (f, first) ← holding [ov] (getMethod ov "holds" (pl env))
   callWith pos f first (backTo pos (starEach args env)) (backToKw pos (keywordEach [] env)))) (hp : ∀ env, ((backTo pos (starEach args env)).any (·.1)) = false)
  (h : EvW g k sc m σ o (fun a σ1 => ∃ i fs, a = .r i ∧ σ1.get i = some (.inst 541 fs) ∧ fs.lookup ("holds" : Str) = none ∧ SpW g k sc m σ1 args (fun as σ2 => CallW g k (.ref 538) (a :: as) σ2 Q))) :
  EvW g k sc m σ (.Call (.Attribute o "holds" ap) args [] pos) Q := em_at ⟨by kernel_rfl, by kernel_rfl, by kernel_rfl⟩ he hp h
local macro_rules | `(tactic| walk_at "m_me") => `(tactic| ((with_reducible refine' em_rowholds _ ?h1 ?h2 ?_); (case h1 => intro env; rfl); (case h2 => intro env; rfl)))
local macro_rules | `(tactic| walk_at "m_call") => `(tactic| ((with_reducible refine' EvW.dictZip ?h0 ?h1 ?h2 ?h3 ?_); (case h0 => kernel_rfl); (case h1 => kernel_rfl); (case h2 => intro env; rfl); (case h3 => intro env; rfl)))
theorem holds_dz {kd : Kd} {f : Nat → Int} {Q : AV → AH → Prop} (hr : σ.get rw = some (.inst 541 (rfl_ kd.s pr c))) (hrw : rw < σ.next) (hlp : pr.length ≤ 10) (hm : ∀ p, p ∈ pr → p.2 ∈ ps) (hf : ∀ x, -10 ≤ f x ∧ f x ≤ 10)
  (q : ∀ b, (b = true ↔ Rv kd ((pr.map fun p => p.1 * f p.2).sum) c) → Q (.d (.bool b)) (σ.push (.dictI (enc (dz (ps.zip (ps.map f))))))) : CallW g (k + 1) (.ref 538) [.r rw, .r σ.next] (σ.push (.dictI (enc (dz (ps.zip (ps.map f)))))) Q :=
 (c_Row_holds g (al hrw hr) gP hlp (fun p hp => ⟨by rw [getD_enc, dz_get (hm p hp)]; rfl, hf p.2⟩) q).call
theorem c_Imp_check {kd : Kd} {f : Nat → Int} {Q : AV → AH → Prop} (hp : σ.get p = some (.inst 583 (ifl b ps inner rw []))) (hr : σ.get rw = some (.inst 541 (rfl_ kd.s pr c))) (hrw : rw < σ.next) (hl : ps.length ≤ 10) (hlp : pr.length ≤ 10) (hm : ∀ p, p ∈ pr → p.2 ∈ ps) (hf : ∀ x, -10 ≤ f x ∧ f x ≤ 10)
  (q : ∀ bb σ', (bb = true ↔ (f b = 0 ∨ Rv kd ((pr.map fun p => p.1 * f p.2).sum) c)) → (∀ j, j < σ.next → σ'.get j = σ.get j) → σ.next ≤ σ'.next → Q (.d (.bool bb)) σ') : CodeW g (k + 3) (.ref 573) [.r p, .d (.tuple (.int (f b) :: (ps.map f).map .int))] σ Q := by
 refine cf2 "self" "values" (by kernel_rfl) (by kernel_rfl) (fun ww ww => rfl) rfl ?_
 refine aa (ag (rv_or (rv_cmp rfl (af (zn (h := ei ?_))))))
 refine ak (by intro o i; rfl) (by simp; lia) ?_
 refine ei (qi (ab ?_))
 by_cases h0 : f b = 0
 ·refine jd h0 ?_
  rw [decide_eq_true h0]
  exact q true σ ⟨fun ww => .inl h0, fun ww => rfl⟩ (fun ww ww => rfl) (Nat.le_refl _)
 ·refine jn h0 ?_
  refine EvW.and1 (em_rowholds _ (fun ww => rfl) (fun ww => rfl) (ae (fun ww => rfl) (zn (h := za (q := zm (q := zc rfl (EvW.dictZip (by kernel_rfl) (by kernel_rfl) (fun ww => rfl) (fun ww => rfl) (EvW.dropT (ae (fun ww => rfl) (zn (h := za (q := ?_))))))))))))
  refine ⟨_, rfl, by simp; lia, ?_⟩
  refine ei ?_
  refine ⟨1, rfl, ?_⟩
  refine EvW.dropT (zn (h := ?_))
  refine ⟨_, rfl, by simp; lia, ?_⟩
  refine ei ?_
  refine ⟨1, rfl, ?_⟩
  refine ⟨ps, ps.map f, rfl, rfl, hl, ?_⟩
  refine sn ?_
  refine holds_dz g hr hrw hlp hm hf fun bb e => ?_
  refine q bb _ (e.trans ⟨.inr, fun z => z.elim (fun z => (h0 z).elim) id⟩) (fun j hj => al hj rfl) (Nat.le_succ _)
theorem c_Reif_check {ro : Nat} {kd : Kd} {f : Nat → Int} {Q : AV → AH → Prop} (hp : σ.get p = some (.inst 623 (ifl b ps inner rw [("other", .r ro)]))) (hr : σ.get rw = some (.inst 541 (rfl_ kd.s pr c))) (hrw : rw < σ.next) (hl : ps.length ≤ 10) (hlp : pr.length ≤ 10) (hm : ∀ p, p ∈ pr → p.2 ∈ ps) (hf : ∀ x, -10 ≤ f x ∧ f x ≤ 10)
  (q : ∀ bb σ', (bb = true ↔ (f b = 1 ↔ Rv kd ((pr.map fun p => p.1 * f p.2).sum) c)) → (∀ j, j < σ.next → σ'.get j = σ.get j) → σ.next ≤ σ'.next → Q (.d (.bool bb)) σ') : CodeW g (k + 3) (.ref 613) [.r p, .d (.tuple (.int (f b) :: (ps.map f).map .int))] σ Q := by
 refine cf2 "self" "values" (by kernel_rfl) (by kernel_rfl) (fun ww ww => rfl) rfl ?_
 refine aa (ag (rv_cmp rfl (rv_cmp rfl (af (zn (h := ei ?_))))))
 refine ak (by intro o i; rfl) (by simp; lia) ?_
 refine ei (qi (em_rowholds _ (fun ww => rfl) (fun ww => rfl) (ae (fun ww => rfl) (zn (h := za (q := zm (q := zc rfl (EvW.dictZip (by kernel_rfl) (by kernel_rfl) (fun ww => rfl) (fun ww => rfl) (EvW.dropT (ae (fun ww => rfl) (zn (h := za (q := ?_)))))))))))))
 refine ⟨_, rfl, by simp; lia, ?_⟩
 refine ei ?_
 refine ⟨1, rfl, ?_⟩
 refine EvW.dropT (zn (h := ?_))
 refine ⟨_, rfl, by simp; lia, ?_⟩
 refine ei ?_
 refine ⟨1, rfl, ?_⟩
 refine ⟨ps, ps.map f, rfl, rfl, hl, ?_⟩
 refine sn ?_
 refine holds_dz g hr hrw hlp hm hf fun bb e => ?_
 refine CmpW.eq (x := .bool _) (y := .bool _) rfl rfl rfl rfl (q _ _ ?_ (fun j hj => al hj rfl) (Nat.le_succ _))
 rw [eqvB, ← e]
 by_cases h1 : f b = 1 <;> cases bb <;> simp [h1]
end
end
section
set_option tactic.hygienic false
structure Hd (A : Nat → Prop) (σ : AH) (H c : Nat) : Prop where
 ex : ∃ xs n, σ.get H = some (.dictS [("cells", .r c), ("last", .d (.int n))]) ∧ σ.get c = some (.list ((xs : List Int).map .int)) ∧ xs.length ≤ 63 ∧ c ≠ H ∧ H < σ.next ∧ c < σ.next ∧ ∀ i, A i → i < σ.next ∧ i ≠ H ∧ i ≠ c
theorem Hd.mono {A A' : Nat → Prop} {σ : AH} {H c : Nat} (h : Hd A σ H c) (k : ∀ i, A' i → A i) : Hd A' σ H c := by
 obtain ⟨xs, n, h1, h2, h3, h4, h5, h6, h7⟩ := h
 exact ⟨xs, n, h1, h2, h3, h4, h5, h6, fun i hi => h7 i (k i hi)⟩
theorem Hd.push {A : Nat → Prop} {σ : AH} {H c : Nat} (h : Hd A σ H c) (o : AO) : Hd (fun i => A i ∨ i = σ.next) (σ.push o) H c := by
 obtain ⟨xs, n, h1, h2, h3, h4, h5, h6, h7⟩ := h
 refine ⟨xs, n, al h5 h1, al h6 h2, h3, h4, Nat.lt_succ_of_lt h5, Nat.lt_succ_of_lt h6, fun i hi => ?_⟩
 rw [AH.next_push]
 rcases hi with hi | rfl
 ·have := h7 i hi; lia
 ·lia
theorem Hd.set {A : Nat → Prop} {σ : AH} {H c i : Nat} (h : Hd A σ H c) (hi : A i) (o : AO) : Hd A (σ.set i o) H c := by
 obtain ⟨xs, n, h1, h2, h3, h4, h5, h6, h7⟩ := h
 have := h7 i hi
 exact ⟨xs, n, ah (by lia) h1, ah (by lia) h2, h3, h4, h5, h6, h7⟩
theorem Hd.lt {A : Nat → Prop} {σ : AH} {H c i : Nat} (h : Hd A σ H c) (hi : A i) : i < σ.next := by
 obtain ⟨xs, n, h1, h2, h3, h4, h5, h6, h7⟩ := h
 exact (h7 i hi).1
noncomputable def Draws (A : Nat → Prop) (σ : AH) (H c : Nat) (P : PyData → Prop) (Q : AV → AH → Prop) : Prop := ∀ d σ', P d → Hd A σ' H c → Fr A σ σ' → σ.next ≤ σ'.next → Q (.d d) σ'
theorem Draws.of {A A' : Nat → Prop} {σ σ1 : AH} {H c : Nat} {P : PyData → Prop} {Q : AV → AH → Prop} (q : Draws A σ H c P Q) (hA : ∀ i, A i → A' i) (f : Fr A σ σ1) (hn : σ.next ≤ σ1.next) : Draws A' σ1 H c P Q := fun d σ' p h f' n => q d σ' p (h.mono hA) (fun i hi => (f' i (hA i hi)).trans (f i hi)) (Nat.le_trans hn n)
section
variable (g : G KK) {A : Nat → Prop} {σ : AH} {H c k : Nat}
theorem c_take {b : Nat} {Q : AV → AH → Prop} (h : Hd A σ H c) (hb : 0 < b) (q : Draws A σ H c (fun d => ∃ r : Nat, r < b ∧ d = .int (r : Nat)) Q) : CodeW g (k + 1) (.ref 639) [.r H, .d (.int (b : Nat))] σ Q := by
 obtain ⟨xs, n, h1, h2, h3, h4, h5, h6, h7⟩ := h
 have fin : ∀ (σ1 : AH) (m : Int) (ys : List Int), ys.length ≤ 63 → σ1.next = σ.next + 1 → σ1.get H = some (.dictS [("cells", .r c), ("last", .d (.int m))]) → σ1.get c = some (.list (ys.map .int)) → (∀ i, A i → σ1.get i = σ.get i) → Q (.d (.int (m.fmod (b : Int)))) σ1 := by
  intro σ1 m ys a1 a2 a3 a4 a5
  have e : m.fmod (b : Int) = ((m % (b : Int)).toNat : Nat) := by
   rw [Int.fmod_eq_emod_of_nonneg _ (by lia)]
   have := Int.emod_nonneg m (show (b : Int) ≠ 0 by lia)
   lia
  rw [e]
  refine q _ σ1 ⟨_, ?_, rfl⟩ ⟨ys, m, a3, a4, a1, h4, by lia, by lia, fun i hi => by have := h7 i hi; lia⟩ a5 (by lia)
  have := Int.emod_lt_of_pos m (show 0 < (b : Int) by lia)
  have := Int.emod_nonneg m (show (b : Int) ≠ 0 by lia)
  lia
 refine cf2 "hand" "below" (by kernel_rfl) (by kernel_rfl) (fun ww ww => rfl) rfl ?_
 refine aa (ri (ad rfl (af (zn (h := eS ?_)))))
 refine SubW.dictS (by intro o i; rfl) h1 rfl ?_
 refine EvW.lst0 ?_
 refine CmpW.ne (x := .list (xs.map .int)) (y := .list []) (.r (al h6 h2)) (.r gP) (Shp.of (Shp.list (n := 0) fun d hd => ?_)) rfl ?_
 ·(refine x1_1 (List.mem_map.mp hd) ?_; intro x ww z1; obtain rfl := z1)
  exact Shp.int
 refine ab ?_
 cases xs with
 | nil =>
  refine jf ?_
  refine aa (rw_set (fun ww => rfl) (aj (aj (aj (af (zn (h := eS ?_)))))))
  refine SubW.dictS (by intro o i; rfl) (al h5 h1) rfl ?_
  refine ei ?_
  refine BinW.mul (by decide) ?_
  refine ei (BinW.add (ei ?_))
  refine BinW.mod (by decide) ?_
  refine zn (h := eS ?_)
  refine ⟨_, .dictS (al h5 h1) (by simp), ?_⟩
  refine xn (aa (ag (aj (af (zn (h := eS ?_))))))
  refine SubW.dictS (by intro o i; rfl) gS rfl ?_
  refine zn (h := ?_)
  refine BinW.mod (by lia) ?_
  exact fin _ _ [] (by simp) rfl gS (ah h4 (al h6 h2)) fun i hi => ah (h7 i hi).2.1 (al (h7 i hi).1 rfl)
 | cons x xs =>
  refine jt ?_
  refine aa (rw_set (fun ww => rfl) (aj (EvW.pop0 (by walk_at "mf") (af (zn (h := eS ?_))))))
  refine SubW.dictS (by intro o i; rfl) (al h5 h1) rfl ?_
  refine ⟨c, .int x, xs.map .int, rfl, al h6 h2, by simp at h3 ⊢; lia, ?_⟩
  refine zc rfl (ei (sn ?_))
  refine ⟨rfl, rfl, ?_⟩
  refine ei ?_
  refine BinW.mod (by decide) ?_
  refine zn (h := eS ?_)
  refine ⟨_, .dictS (ah (fun z => h4 z.symm) (al h5 h1)) (by simp), ?_⟩
  refine xn (aa (ag (aj (af (zn (h := eS ?_))))))
  refine SubW.dictS (by intro o i; rfl) gS rfl ?_
  refine zn (h := ?_)
  refine BinW.mod (by lia) ?_
  exact fin _ _ xs (by simp at h3; lia) rfl gS (ah h4 gS) fun i hi => ah (h7 i hi).2.1 (ah (h7 i hi).2.2 (al (h7 i hi).1 rfl))
end
end
section
set_option tactic.hygienic false
inductive LD where
 | clause (ws us : List Nat)
 | conj (all : Bool) (sm : List Nat) (b : Nat)
 | xor (a b c : Nat)
 | row (reif : Bool) (b : Nat) (kd : Kd) (as : List Int) (xs : List Nat) (c : Int)
noncomputable abbrev cjS (all : Bool) : Str := if all = true then "and" else "or"
noncomputable abbrev rwS (reif : Bool) : Str := if reif = true then "reif" else "imp"
noncomputable def LD.d : LD → PyData
 | .clause ws us => .tuple [.str "clause", .tuple (mks ws), .tuple (mks us)]
 | .conj all sm b => .tuple [.str (cjS all), .tuple (mks sm), .int (b : Nat)]
 | .xor a b c => .tuple [.str "xor", .int (a : Nat), .int (b : Nat), .int (c : Nat)]
 | .row reif b kd as xs c => .tuple [.str (rwS reif), .int (b : Nat), .tuple (rowD kd as xs c)]
noncomputable def LD.pl : LD → List Nat
 | .clause ws us => ws ++ us
 | .conj _ sm b => sm ++ [b]
 | .xor a b c => [a, b, c]
 | .row _ b _ _ xs _ => b :: xs
noncomputable def LD.ok : LD → Prop
 | .clause ws us => (∀ x, x ∈ ws → x < 3) ∧ (∀ x, x ∈ us → x < 3) ∧ ws.length ≤ 3 ∧ us.length ≤ 3
 | .conj _ sm b => (∀ x, x ∈ sm → x < 3) ∧ b < 3 ∧ sm.length ≤ 3
 | .xor a b c => a < 3 ∧ b < 3 ∧ c < 3
 | .row _ b _ as xs c => b < 3 ∧ (∀ x, x ∈ xs → x < 5) ∧ as.length = xs.length ∧ xs.length ≤ 3 ∧ (∀ a, a ∈ as → -3 ≤ a ∧ a ≤ 3) ∧ -2 ≤ c ∧ c ≤ 4
noncomputable def cfv (x : Nat) : Int := [1, -1, 2, -3, 0].getD x 0
theorem cfv_get {x : Nat} (h : x < 5) : [PyData.int 1, .int (-1), .int 2, .int (-3), .int 0][x]? = some (.int (cfv x)) := by
 rcases x with _ | _ | _ | _ | _ | x
 iterate 5 rfl
 exact absurd h (Nat.not_lt.mpr (Nat.le_add_left 5 x))
theorem cfv_bd {x : Nat} (h : x < 5) : -3 ≤ cfv x ∧ cfv x ≤ 3 := by
 rcases x with _ | _ | _ | _ | _ | x
 iterate 5 decide
 exact absurd h (Nat.not_lt.mpr (Nat.le_add_left 5 x))
section
variable (g : G KK) {A : Nat → Prop} {σ : AH} {H c k : Nat}
theorem c_places {n b : Nat} {Q : AV → AH → Prop} (h : Hd A σ H c) (hb : 0 < b) (hn : n ≤ 10) (q : Draws A σ H c (fun d => ∃ ps : List Nat, ps.length = n ∧ (∀ x, x ∈ ps → x < b) ∧ d = .tuple (mks ps)) Q) : CodeW g (k + 3) (.ref 646) [.r H, .d (.int (n : Nat)), .d (.int (b : Nat))] σ Q := by
 refine cf3 "hand" "many" "below" (by kernel_rfl) (by kernel_rfl) (fun ww ww ww => rfl) rfl ?_
 refine aa (rq (by kernel_rfl) (fun ww => rfl) (EvW.lst0 (aa ?_)))
 refine StW.while (fun j m σ' => ∃ ps : List Nat, ps.length + j = n ∧ (∀ x, x ∈ ps → x < b) ∧ m "hand" = some (.r H) ∧ m "many" = some (.d (.int (n : Nat))) ∧ m "below" = some (.d (.int (b : Nat))) ∧ m "chosen" = some (.r σ.next) ∧ σ'.get σ.next = some (.list (mks ps)) ∧
  Hd (fun i => A i ∨ i = σ.next) σ' H c ∧ Fr A σ σ' ∧ σ.next ≤ σ'.next) ?_ n ?_
 ·(intro j; intro m; intro σ'; intro z3r; (refine x1_9 z3r ?_; clear z3r; intro ps e1 e2 e3 e4 e5 e6 e7 e8 e9 e10))
  refine ad rfl (ec .len (by kernel_rfl) (fun ww => rfl) (zc rfl (zn (h := sn ?_))))
  refine CallW.lenL (.r e7) (by simp; lia) ?_
  rw [List.length_map]
  refine zn (h := CmpW.lt (ab ?_))
  by_cases hj : (ps.length : Int) < (n : Int)
  ·refine jd hj ?_
   refine aa (rw_expr (fun ww => rfl) (EvW.append (by walk_at "mf") (zn (h := ?_))))
   refine ⟨_, _, rfl, e7, ?_⟩
   refine zc rfl (ec .law_take (by kernel_rfl) (fun ww => rfl) (zc rfl (zn (h := zc rfl (zn (h := sn ?_))))))
   refine (c_take g e8 hb fun d σ2 p f1 f2 f3 => ?_).call
   (refine x1_1 p ?_; clear p; intro r hr z1; obtain rfl := z1)
   refine sn ?_
   have e7' := (f2 _ (.inr rfl)).trans e7
   refine ⟨_, _, rfl, e7', by simp; lia, ?_⟩
   refine ls_of rfl (xn ?_)
   refine ⟨j - 1, by lia, ps ++ [r], by simp; lia, fun x hx => ?_, e3, e4, e5, e6, ?_, f1.set (.inr rfl) _, fun i hi => ah (Nat.ne_of_lt (h.lt hi)) ((f2 i (.inl hi)).trans (e9 i hi)), by show σ.next ≤ σ2.next; lia⟩
   ·rcases List.mem_append.mp hx with hx | hx
    ·exact e2 x hx
    ·cases List.mem_singleton.mp hx; exact hr
   ·rw [show mks (ps ++ [r]) = mks ps ++ [.int (r : Nat)] from List.map_append]; exact gS
  ·refine jn hj ?_
   refine aa (ag (ec .tuple (by kernel_rfl) (fun ww => rfl) (zc rfl (zn (h := sn ?_)))))
   refine cL (.r e7) (by simp; lia) ?_
   exact q _ σ' ⟨ps, by lia, e2, rfl⟩ (e8.mono fun i hi => .inl hi) e9 e10
 ·exact ⟨[], by simp, fun x hx => (by cases hx), by walk_at "lk", by walk_at "lk", by walk_at "lk", by walk_at "lk", gP, h.push _, fun i hi => al (h.lt hi) rfl, Nat.le_succ _⟩
theorem c_law_data {Q : AV → AH → Prop} (h : Hd A σ H c) (q : Draws A σ H c (fun d => ∃ D : LD, D.ok ∧ d = .tuple [D.d, .tuple (mks D.pl)]) Q) : CodeW g (k + 6) (.ref 651) [.r H] σ Q := by
 refine cf1 "hand" (by kernel_rfl) (by kernel_rfl) (fun ww => rfl) rfl ?_
 refine aa (rq (by kernel_rfl) (fun ww => rfl) (af ?_))
 refine EvW.lst ?_
 refine zc rfl (eS (zc rfl (eS (zc rfl (eS (zc rfl (eS (zc rfl (eS (zc rfl (eS (sn ?_))))))))))))
 walk_at "frz"
 refine ec .law_take (by kernel_rfl) (fun ww => rfl) (zc rfl (zn (h := zc rfl (ei (sn ?_)))))
 refine (c_take g (b := 6) h (by decide) fun d σ1 p h1 f1 n1 => ?_).call
 (refine x1_1 p ?_; clear p; intro r hr z2; obtain rfl := z2)
 have q1 := q.of (A' := A) (fun ww z => z) f1 n1
 have : r = 0 ∨ (∃ all, [PyData.str "clause", .str "and", .str "or", .str "xor", .str "reif", .str "imp"][r]? = some (.str (cjS all))) ∨ r = 3 ∨ ∃ reif, [PyData.str "clause", .str "and", .str "or", .str "xor", .str "reif", .str "imp"][r]? = some (.str (rwS reif)) := by
  have : r = 0 ∨ r = 1 ∨ r = 2 ∨ r = 3 ∨ r = 4 ∨ r = 5 := by lia
  rcases this with rfl | rfl | rfl | rfl | rfl | rfl
  ·exact .inl rfl
  ·exact .inr (.inl ⟨true, rfl⟩)
  ·exact .inr (.inl ⟨false, rfl⟩)
  ·exact .inr (.inr (.inl rfl))
  ·exact .inr (.inr (.inr ⟨true, rfl⟩))
  ·exact .inr (.inr (.inr ⟨false, rfl⟩))
 have f25 : ∀ {σ2 σ3 σ4 σ5 : AH}, Fr A σ1 σ2 → Fr A σ2 σ3 → Fr A σ3 σ4 → Fr A σ4 σ5 → Fr A σ1 σ5 := fun a b c d i hi => (d i hi).trans ((c i hi).trans ((b i hi).trans (a i hi)))
 rcases this with rfl | ⟨all, hall⟩ | rfl | ⟨reif, hre⟩
 ·refine SubW.lst (d := .str "clause") (by intro o i; rfl) rfl (by decide) (by decide) rfl ?_
  refine aa (ri (ad rfl (zn (h := eS (zeqS false (by decide +kernel) (ab (jf (xn (aa (ri (ad rfl (zn (h := eS (zeqS true (by decide +kernel) (ab (jt (aa (rq (by kernel_rfl) (fun ww => rfl) (ec .law_places (by kernel_rfl) (fun ww => rfl) (zc rfl (zn (h := zc rfl (ec .law_take (by kernel_rfl) (fun ww => rfl) (zc rfl (zn (h := zc rfl (ei (sn ?_))))))))))))))))))))))))))))
  refine (c_take g (b := 3) h1 (by decide) fun d σ2 p h2 f2 n2 => ?_).call
  (refine x1_1 p ?_; clear p; intro r hr z3; obtain rfl := z3)
  refine zc rfl (ei (sn ?_))
  refine (c_places g (b := 3) h2 (by decide) (by lia) fun d σ3 p h3 f3 n3 => ?_).call
  (refine x1_2 p ?_; clear p; intro ws a1 a2 z4; obtain rfl := z4)
  refine aa (rq (by kernel_rfl) (fun ww => rfl) (ec .law_places (by kernel_rfl) (fun ww => rfl) (zc rfl (zn (h := zc rfl (ec .law_take (by kernel_rfl) (fun ww => rfl) (zc rfl (zn (h := zc rfl (ei (sn ?_)))))))))))
  refine (c_take g (b := 3) h3 (by decide) fun d σ4 p h4 f4 n4 => ?_).call
  (refine x1_1 p ?_; clear p; intro r' hr' z5; obtain rfl := z5)
  refine zc rfl (ei (sn ?_))
  refine (c_places g (b := 3) h4 (by decide) (by lia) fun d σ5 p h5 f5 n5 => ?_).call
  (refine x1_2 p ?_; clear p; intro us b1 b2 z6; obtain rfl := z6)
  refine aa (ag (ai (zc rfl (ai (zc rfl (zn (h := zc rfl (zn (h := zc rfl (zn (h := sn ?_)))))))))))
  walk_at "frz"
  refine zc rfl (aj (zn (h := zn (h := ?_))))
  refine BinW.cat (by simp; lia) ?_
  refine sn ?_
  walk_at "frz"
  refine q1 _ σ5 ⟨.clause ws us, ⟨a2, b2, by lia, by lia⟩, by simp [LD.d, LD.pl, mks]⟩ h5 (f25 f2 f3 f4 f5) (by lia)
 ·refine SubW.lst (d := .str (cjS all)) (by intro o i; rfl) rfl (by lia) (by lia) (by simpa using hall) ?_
  have sh : shaped (.str (cjS all)) = true := by cases all <;> decide +kernel
  refine aa (ri (ad rfl (zn (h := eS ?_))))
  refine CmpW.eqS false sh (by decide +kernel) (by cases all <;> decide +kernel) ?_
  refine ab (jf (xn (aa (ri (ad rfl (zn (h := eS ?_)))))))
  refine CmpW.eqS false sh (by decide +kernel) (by cases all <;> decide +kernel) ?_
  refine ab (jf (xn (aa (ri (ad rfl (zn (h := ai (zc rfl (eS (zc rfl (eS (sn ?_))))))))))))
  walk_at "frz"
  refine CmpW.inT (x := .str (cjS all)) rfl rfl sh (by decide +kernel) ?_
  rw [show ([PyData.str "and", .str "or"].any fun y => PyData.eqv y (.str (cjS all))) = true by cases all <;> decide +kernel]
  refine ab (jt (aa (rq (by kernel_rfl) (fun ww => rfl) (ec .law_places (by kernel_rfl) (fun ww => rfl) (zc rfl (zn (h := zc rfl (ec .law_take (by kernel_rfl) (fun ww => rfl) (zc rfl (zn (h := zc rfl (ei (sn ?_)))))))))))))
  refine (c_take g (b := 4) h1 (by decide) fun d σ2 p h2 f2 n2 => ?_).call
  (refine x1_1 p ?_; clear p; intro r hr z7; obtain rfl := z7)
  refine zc rfl (ei (sn ?_))
  refine (c_places g (b := 3) h2 (by decide) (by lia) fun d σ3 p h3 f3 n3 => ?_).call
  (refine x1_2 p ?_; clear p; intro sm a1 a2 z8; obtain rfl := z8)
  refine aa (rq (by kernel_rfl) (fun ww => rfl) (ec .law_take (by kernel_rfl) (fun ww => rfl) (zc rfl (zn (h := zc rfl (ei (sn ?_)))))))
  refine (c_take g (b := 3) h3 (by decide) fun d σ4 p h4 f4 n4 => ?_).call
  (refine x1_1 p ?_; clear p; intro b hb z9; obtain rfl := z9)
  refine aa (ag (ai (zc rfl (ai (zc rfl (zn (h := zc rfl (zn (h := zc rfl (zn (h := sn ?_)))))))))))
  walk_at "frz"
  refine zc rfl (aj (zn (h := ai (zc rfl (zn (h := sn ?_))))))
  walk_at "frz"
  refine BinW.cat (by simp; lia) ?_
  refine sn ?_
  walk_at "frz"
  refine q1 _ σ4 ⟨.conj all sm b, ⟨a2, hb, by lia⟩, by simp [LD.d, LD.pl, mks]⟩ h4 (f25 (fun ww ww => rfl) f2 f3 f4) (by lia)
 ·refine SubW.lst (d := .str "xor") (by intro o i; rfl) rfl (by decide) (by decide) rfl ?_
  refine aa (ri (ad rfl (zn (h := eS (zeqS true (by decide +kernel) (ab (jt (aa (rq (by kernel_rfl) (fun ww => rfl) (ec .law_places (by kernel_rfl) (fun ww => rfl) (zc rfl (zn (h := zc rfl (ei (zc rfl (ei (sn ?_)))))))))))))))))
  refine (c_places g (n := 3) (b := 3) h1 (by decide) (by lia) fun d σ2 p h2 f2 n2 => ?_).call
  (refine x1_2 p ?_; clear p; intro ps a1 a2 z10; obtain rfl := z10)
  (refine x3_0 (len3 a1) ?_; intro a b c z11; obtain rfl := z11)
  refine aa (ag (ai (zc rfl (ai (zc rfl (zn (h := zc rfl (af (zn (h := ei ?_))))))))))
  refine ak (fun ww ww => rfl) (by simp) (zc rfl (af (zn (h := ei ?_))))
  refine SubW.t1 (fun ww ww => rfl) (by simp) (zc rfl (af (zn (h := ei ?_))))
  refine SubW.t2 (fun ww ww => rfl) (by simp) (sn ?_)
  walk_at "frz"
  refine zc rfl (zn (h := sn ?_))
  walk_at "frz"
  refine q1 _ σ2 ⟨.xor a b c, ⟨a2 a (by simp), a2 b (by simp), a2 c (by simp)⟩, by simp [LD.d, LD.pl, mks]⟩ h2 f2 n2
 ·refine SubW.lst (d := .str (rwS reif)) (by intro o i; rfl) rfl (by lia) (by lia) (by simpa using hre) ?_
  have sh : shaped (.str (rwS reif)) = true := by cases reif <;> decide +kernel
  refine aa (ri (ad rfl (zn (h := eS ?_))))
  refine CmpW.eqS false sh (by decide +kernel) (by cases reif <;> decide +kernel) ?_
  refine ab (jf (xn (aa (ri (ad rfl (zn (h := eS ?_)))))))
  refine CmpW.eqS false sh (by decide +kernel) (by cases reif <;> decide +kernel) ?_
  refine ab (jf (xn (aa (ri (ad rfl (zn (h := ai (zc rfl (eS (zc rfl (eS (sn ?_))))))))))))
  walk_at "frz"
  refine CmpW.inT (x := .str (rwS reif)) rfl rfl sh (by decide +kernel) ?_
  rw [show ([PyData.str "and", .str "or"].any fun y => PyData.eqv y (.str (rwS reif))) = false by cases reif <;> decide +kernel]
  refine ab (jf (xn (aa (rq (by kernel_rfl) (fun ww => rfl) (ec .law_take (by kernel_rfl) (fun ww => rfl) (zc rfl (zn (h := zc rfl (ei (sn ?_))))))))))
  refine (c_take g (b := 3) h1 (by decide) fun d σ2 p h2 f2 n2 => ?_).call
  (refine x1_1 p ?_; clear p; intro b hb z12; obtain rfl := z12)
  refine aa (rq (by kernel_rfl) (fun ww => rfl) (af ?_))
  refine EvW.lst ?_
  refine zc rfl (eS (zc rfl (eS (zc rfl (eS (sn ?_))))))
  walk_at "frz"
  refine ec .law_take (by kernel_rfl) (fun ww => rfl) (zc rfl (zn (h := zc rfl (ei (sn ?_)))))
  refine (c_take g (b := 3) h2 (by decide) fun d σ3 p h3 f3 n3 => ?_).call
  (refine x1_1 p ?_; clear p; intro r hr z13; obtain rfl := z13)
  obtain ⟨kd, hkd⟩ : ∃ kd : Kd, [PyData.str "linear_le", .str "linear_eq", .str "linear_ne"][r]? = some (.str kd.s) := by
   have : r = 0 ∨ r = 1 ∨ r = 2 := by lia
   rcases this with rfl | rfl | rfl
   ·exact ⟨.le, rfl⟩
   ·exact ⟨.eq, rfl⟩
   ·exact ⟨.ne, rfl⟩
  refine SubW.lst (d := .str kd.s) (by intro o i; rfl) rfl (by lia) (by lia) (by simpa using hkd) ?_
  refine aa (rq (by kernel_rfl) (fun ww => rfl) (ec .law_places (by kernel_rfl) (fun ww => rfl) (zc rfl (zn (h := zc rfl (ec .law_take (by kernel_rfl) (fun ww => rfl) (zc rfl (zn (h := zc rfl (ei (sn ?_)))))))))))
  refine (c_take g (b := 4) h3 (by decide) fun d σ4 p h4 f4 n4 => ?_).call
  (refine x1_1 p ?_; clear p; intro r2 hr2 z14; obtain rfl := z14)
  refine zc rfl (ei (sn ?_))
  refine (c_places g (b := 5) h4 (by decide) (by lia) fun d σ5 p h5 f5 n5 => ?_).call
  (refine x1_2 p ?_; clear p; intro xs a1 a2 z15; obtain rfl := z15)
  refine aa (rq (by kernel_rfl) (fun ww => rfl) (ec .tuple (by kernel_rfl) (fun ww => rfl) (zc rfl ?_)))
  refine rv_comp (by kernel_rfl) (fun ww ww => rfl) ?_
  refine src_of ?_
  refine ec .law_places (by kernel_rfl) (fun ww => rfl) (zc rfl (zn (h := zc rfl (ec .len (by kernel_rfl) (fun ww => rfl) (zc rfl (zn (h := sn ?_)))))))
  refine CallW.lenT (by simp; lia) ?_
  rw [List.length_map]
  refine zc rfl (ei (sn ?_))
  refine (c_places g (b := 5) h5 (by decide) (by lia) fun d σ6 p h6 f6 n6 => ?_).call
  (refine x1_2 p ?_; clear p; intro us b1 b2 z16; obtain rfl := z16)
  refine ⟨_, .inr rfl, ?_⟩
  refine cF (fun x : Nat => .int (x : Nat)) (fun x => some (.int (cfv x))) (fun ww => True) us (by simp; lia) trivial ?_ ?_
  ·intro x hx m ww
   refine aN (by kernel_rfl) (IfsW.nil (jt (af ?_)))
   refine EvW.lst ?_
   refine zc rfl (ei (zc rfl (rv_un (ei (UnW.neg (zc rfl (ei (zc rfl (rv_un (ei (UnW.neg (zc rfl (ei (sn ?_))))))))))))))
   walk_at "frz"
   refine zn (h := ?_)
   have := b2 x hx
   refine SubW.lst (d := .int (cfv x)) (by intro o i; rfl) rfl (by lia) (by lia) ?_ ⟨rfl, trivial, _, rfl, rfl⟩
   rw [Int.toNat_natCast]
   exact cfv_get this
  intro m' ww
  rw [List.nil_append, fmS, show us.map (fun x => PyData.int (cfv x)) = (us.map cfv).map .int by rw [List.map_map]; rfl]
  refine sn ?_
  refine cL rfl (by simp; lia) ?_
  refine aa (ag (ai (zc rfl (ai (zc rfl (zn (h := zc rfl (zn (h := zc rfl (ai (zc rfl (zn (h := zc rfl (zn (h := zc rfl (zn (h := zc rfl (aj (ec .law_take (by kernel_rfl) (fun ww => rfl) (zc rfl (zn (h := zc rfl (ei (sn ?_))))))))))))))))))))))))
  refine (c_take g (b := 7) h6 (by decide) fun d σ7 p h7 f7 n7 => ?_).call
  (refine x1_1 p ?_; clear p; intro r3 hr3 z17; obtain rfl := z17)
  refine ei (BinW.sub (sn ?_))
  walk_at "frz"
  refine sn ?_
  walk_at "frz"
  refine zc rfl (aj (ai (zc rfl (zn (h := sn ?_)))))
  walk_at "frz"
  refine zn (h := ?_)
  refine BinW.cat (by simp; lia) ?_
  refine sn ?_
  walk_at "frz"
  refine q1 _ σ7 ⟨.row reif b kd (us.map cfv) xs (r3 - 2), ⟨hb, a2, by rw [List.length_map, b1], by lia, fun a ha => ?_, by lia, by lia⟩, rfl⟩ h7 (f25 (f25 f2 f3 f4 f5) f6 f7 (fun ww ww => rfl)) (by lia)
  (refine x1_1 (List.mem_map.mp ha) ?_; intro x hx z18; obtain rfl := z18)
  exact cfv_bd (b2 x hx)
end
end
section
set_option tactic.hygienic false
noncomputable def LD.sat (D : LD) (f : Nat → Int) : Prop := match D with
 | .clause ws us => (∃ x, x ∈ ws ∧ f x = 1) ∨ ∃ x, x ∈ us ∧ f x = 0
 | .conj true sm b => (∀ x, x ∈ sm → f x ≠ 0) ↔ f b = 1
 | .conj false sm b => (∃ x, x ∈ sm ∧ f x = 1) ↔ f b = 1
 | .xor a b c => f a ≠ f b ↔ f c = 1
 | .row true b kd as xs c => f b = 1 ↔ Rv kd (((as.zip xs).map fun p => p.1 * f p.2).sum) c
 | .row false b kd as xs c => f b = 0 ∨ Rv kd (((as.zip xs).map fun p => p.1 * f p.2).sum) c
noncomputable def PB (D : LD) (pt : List Int) : Bool := @decide (D.sat (at0 pt)) (Classical.propDecidable _)
theorem PB_iff {D : LD} {pt : List Int} : PB D pt = true ↔ D.sat (at0 pt) := by unfold PB; exact @decide_eq_true_iff _ (Classical.propDecidable _)
noncomputable def mokc (g : G KK) (C : Addr) (x : Str) (f : Addr) : Prop := clsOk (KK g.w.params) C = true ∧ methOk (KK g.w.params) C x f = true ∧ keepF (KK g.w.params) (.ref f) = true
noncomputable def TolC (g : G KK) (own : Nat → Prop) (σ0 : AH) (p : Nat) (f : Addr) (D : LD) : Prop := ∀ (k : Nat) (σ : AH) (Q : AV → AH → Prop), (∀ i, own i → σ.get i = σ0.get i) → Q (.d D.d) σ → CodeW g (k + 20) (.ref f) [.r p] σ Q
noncomputable def ChkC (g : G KK) (own : Nat → Prop) (σ0 : AH) (p : Nat) (f : Addr) (D : LD) : Prop := ∀ (k : Nat) (σ : AH) (v : Nat → Int) (Q : AV → AH → Prop), (∀ i, own i → σ.get i = σ0.get i) → σ0.next ≤ σ.next → (∀ x, -10 ≤ v x ∧ v x ≤ 10) →
 (∀ b σ', (b = true ↔ D.sat v) → (∀ j, j < σ.next → σ'.get j = σ.get j) → σ.next ≤ σ'.next → Q (.d (.bool b)) σ') → CodeW g (k + 20) (.ref f) [.r p, .d (.tuple ((D.pl.map v).map .int))] σ Q
structure Made (g : G KK) (σ0 : AH) (lo p : Nat) (D : LD) : Prop where
 hlo : lo ≤ p
 hhi : p < σ0.next
 ex : ∃ C fs fp ft fc, σ0.get p = some (.inst C fs) ∧ mokc g C "propagate" fp ∧ mokc g C "told" ft ∧ mokc g C "check" fc ∧ attrOk (KK g.w.params) C "scope" = true ∧ fs.lookup ("propagate" : Str) = none ∧ fs.lookup ("told" : Str) = none ∧ fs.lookup ("check" : Str) = none ∧ fs.lookup ("scope" : Str) = some (.d (.tuple (mks D.pl))) ∧
  PrC g (fun i => lo ≤ i ∧ i < σ0.next) σ0 p fp (PB D) ∧ TolC g (fun i => lo ≤ i ∧ i < σ0.next) σ0 p ft D ∧ ChkC g (fun i => lo ≤ i ∧ i < σ0.next) σ0 p fc D
theorem lift20 {g : G KK} {f : Value} {args : List AV} {σ : AH} {Q : AV → AH → Prop} {j k : Nat} (h : CodeW g j f args σ Q) (hj : j ≤ k) : CodeW g k f args σ Q := fun A W s vs R X V => h A W s vs (R.le hj) X V
section
variable (g : G KK) {σ : AH} {σ0 : AH} {k lo p : Nat}
theorem made_clause {ws us : List Nat} {wl : List Lit} (hlo : lo ≤ p) (hp : p < σ0.next) (h : σ0.get p = some (.inst 338 (cfl ws us (lits wl)))) (hm : ∀ l, l ∈ wl ↔ l ∈ ws.map l1 ++ us.map l0) (hl : wl.length ≤ 200) (ok : (LD.clause ws us).ok) : Made g σ0 lo p (.clause ws us) := by
 have own : lo ≤ p ∧ p < σ0.next := ⟨hlo, hp⟩
 (refine x0_3 ok ?_; clear ok; intro o1 o2 o3 o4)
 have hx : ∀ l, l ∈ wl → l.x < 3 := fun l hl => by
  rcases List.mem_append.mp ((hm l).mp hl) with q | q
  ·(refine x1_1 (List.mem_map.mp q) ?_; intro x hx z1; obtain rfl := z1); exact o1 x hx
  ·(refine x1_1 (List.mem_map.mp q) ?_; intro x hx z2; obtain rfl := z2); exact o2 x hx
 refine ⟨hlo, hp, 338, _, 321, 335, 328, h, ⟨by kernel_rfl, by kernel_rfl, by kernel_rfl⟩, ⟨by kernel_rfl, by kernel_rfl, by kernel_rfl⟩, ⟨by kernel_rfl, by kernel_rfl, by kernel_rfl⟩, by kernel_rfl, by kernel_rfl, by kernel_rfl, by kernel_rfl, ?_, ?_, ?_, ?_⟩
 ·rw [show mks (LD.clause ws us).pl = mks ws ++ mks us by simp [LD.pl, mks]]; kernel_rfl
 ·intro k A σ S ss Q hA hg st hd hB hW q
  refine lift20 (c_Clause_prop (k := k) g st (hA p own) ((hg p own).trans h) (fun l hl => by have := hx l hl; lia) hl (q.imp fun b ss' r => r.iff fun pt hpt => ?_)) (by lia)
  rw [PB_iff]
  constructor
  ·(intro z0r; (refine x1_1 z0r ?_; clear z0r; intro l hl ho))
   rcases List.mem_append.mp ((hm l).mp hl) with q | q
   ·(refine x1_1 (List.mem_map.mp q) ?_; intro x hx z3; obtain rfl := z3)
    have := hB.at (o1 x hx) hpt
    have := l1_ok.mp ho
    exact .inl ⟨x, hx, by lia⟩
   ·(refine x1_1 (List.mem_map.mp q) ?_; intro x hx z4; obtain rfl := z4)
    have := hB.at (o2 x hx) hpt
    have := l0_ok.mp ho
    exact .inr ⟨x, hx, by lia⟩
  ·rintro (⟨x, hx, hv⟩ | ⟨x, hx, hv⟩)
   ·exact ⟨l1 x, (hm _).mpr (List.mem_append_left _ (List.mem_map.mpr ⟨x, hx, rfl⟩)), l1_ok.mpr (by lia)⟩
   ·exact ⟨l0 x, (hm _).mpr (List.mem_append_right _ (List.mem_map.mpr ⟨x, hx, rfl⟩)), l0_ok.mpr (by lia)⟩
 ·intro k σ Q hg q
  exact lift20 (c_Clause_told (k := k) g ((hg p own).trans h) q) (by lia)
 ·intro k σ v Q hg hn hv q
  refine lift20 (c_Clause_check (k := k) g ((hg p own).trans h) (by lia) (by simp [LD.pl]; lia) fun b e => q b σ (e.trans ?_) (fun ww ww => rfl) (Nat.le_refl _)) (by lia)
  show (1 ∈ ((ws ++ us).map v).take ws.length ∨ 0 ∈ ((ws ++ us).map v).drop ws.length) ↔ _
  rw [List.map_append, List.take_left' (by simp), List.drop_left' (by simp)]
  simp only [List.mem_map]
  exact Iff.rfl
end
end
section
set_option tactic.hygienic false
section
variable (g : G KK) {σ : AH} {σ0 : AH} {k lo p : Nat}
theorem made_conj {all : Bool} {sm : List Nat} {b : Nat} {wl : List Lit} (hlo : lo ≤ p) (hp : p < σ0.next) (h : σ0.get p = some (.inst (if all = true then 393 else 424) (jfl sm b wl (if all = true then l1 b else l0 b)))) (hm : ∀ l, l ∈ wl ↔ l ∈ sm.map (if all = true then l1 else l0)) (hl : wl.length ≤ 3) (ok : (LD.conj all sm b).ok) : Made g σ0 lo p (.conj all sm b) := by
 have own : lo ≤ p ∧ p < σ0.next := ⟨hlo, hp⟩
 (refine x0_2 ok ?_; clear ok; intro o1 o2 o3)
 have hpl : mks (LD.conj all sm b).pl = mks sm ++ [.int (b : Nat)] := by simp [LD.pl, mks]
 have hvs : ∀ v : Nat → Int, ((LD.conj all sm b).pl.map v).map PyData.int = (sm.map v).map .int ++ [.int (v b)] := fun v => by simp [LD.pl]
 have hx : ∀ l, l ∈ wl → l.x < 3 := fun l hl => by
  (refine x1_1 (List.mem_map.mp ((hm l).mp hl)) ?_; intro x hx z1; obtain rfl := z1)
  cases all <;> exact o1 x hx
 cases all with
 | true =>
  replace h : σ0.get p = some (.inst 393 (jfl sm b wl (l1 b))) := h
  refine ⟨hlo, hp, 393, _, 359, 390, 383, h, ⟨by kernel_rfl, by kernel_rfl, by kernel_rfl⟩, ⟨by kernel_rfl, by kernel_rfl, by kernel_rfl⟩, ⟨by kernel_rfl, by kernel_rfl, by kernel_rfl⟩, by kernel_rfl, by kernel_rfl, by kernel_rfl, by kernel_rfl, ?_, ?_, ?_, ?_⟩
  ·rw [hpl]; kernel_rfl
  ·intro k A σ S ss Q hA hg st hd hB hW q
   refine lift20 (c_Joint_prop (k := k) g st (hA p own) ((hg p own).trans h) (by kernel_rfl) (by kernel_rfl) (by kernel_rfl) (fun l hl => by have := hx l hl; lia) (by show b < _; lia) (by lia) (q.imp fun ww ss' r => r.iff fun pt hpt => ?_)) (by lia)
   rw [PB_iff]
   have hb := hB.at o2 hpt
   show (_ ↔ (l1 b).ok pt) ↔ (_ ↔ at0 pt b = 1)
   rw [l1_ok, show (1 ≤ at0 pt b ↔ at0 pt b = 1) by lia]
   have e : (∀ l, l ∈ wl → l.ok pt) ↔ ∀ x, x ∈ sm → at0 pt x ≠ 0 := by
    constructor
    ·intro z x hx
     have := z (l1 x) ((hm _).mpr (List.mem_map.mpr ⟨x, hx, rfl⟩))
     have := l1_ok.mp this; lia
    ·intro z l hl
     (refine x1_1 (List.mem_map.mp ((hm l).mp hl)) ?_; intro x hx z2; obtain rfl := z2)
     have := hB.at (o1 x hx) hpt
     have := z x hx
     exact l1_ok.mpr (by lia)
   rw [e]
  ·intro k σ Q hg q
   exact lift20 (c_All_told (k := k) g ((hg p own).trans h) q) (by lia)
  ·intro k σ v Q hg hn hv q
   rw [hvs]
   refine lift20 (c_All_check (k := k) g (by simp; lia) fun bb e => q bb σ (e.trans ?_) (fun ww ww => rfl) (Nat.le_refl _)) (by lia)
   show _ ↔ ((∀ x, x ∈ sm → v x ≠ 0) ↔ v b = 1)
   have e : ¬ (0 ∈ sm.map v) ↔ ∀ x, x ∈ sm → v x ≠ 0 := by
    rw [List.mem_map]
    exact ⟨fun z x hx hv => z ⟨x, hx, hv⟩, fun z w => x1_1 w fun x hx hv => z x hx hv⟩
   rw [e]
 | false =>
  replace h : σ0.get p = some (.inst 424 (jfl sm b wl (l0 b))) := h
  refine ⟨hlo, hp, 424, _, 359, 421, 414, h, ⟨by kernel_rfl, by kernel_rfl, by kernel_rfl⟩, ⟨by kernel_rfl, by kernel_rfl, by kernel_rfl⟩, ⟨by kernel_rfl, by kernel_rfl, by kernel_rfl⟩, by kernel_rfl, by kernel_rfl, by kernel_rfl, by kernel_rfl, ?_, ?_, ?_, ?_⟩
  ·rw [hpl]; kernel_rfl
  ·intro k A σ S ss Q hA hg st hd hB hW q
   refine lift20 (c_Joint_prop (k := k) g st (hA p own) ((hg p own).trans h) (by kernel_rfl) (by kernel_rfl) (by kernel_rfl) (fun l hl => by have := hx l hl; lia) (by show b < _; lia) (by lia) (q.imp fun ww ss' r => r.iff fun pt hpt => ?_)) (by lia)
   rw [PB_iff]
   have hb := hB.at o2 hpt
   show (_ ↔ (l0 b).ok pt) ↔ (_ ↔ at0 pt b = 1)
   rw [l0_ok, show (at0 pt b ≤ 0 ↔ ¬ at0 pt b = 1) by lia]
   have e : (∀ l, l ∈ wl → l.ok pt) ↔ ¬ ∃ x, x ∈ sm ∧ at0 pt x = 1 := by
    constructor
    ·(intro z; intro z1r; (refine x1_1 z1r ?_; clear z1r; intro x hx hv))
     have := z (l0 x) ((hm _).mpr (List.mem_map.mpr ⟨x, hx, rfl⟩))
     have := l0_ok.mp this; lia
    ·intro z l hl
     (refine x1_1 (List.mem_map.mp ((hm l).mp hl)) ?_; intro x hx z3; obtain rfl := z3)
     have := hB.at (o1 x hx) hpt
     refine l0_ok.mpr (Classical.byContradiction fun w => z ⟨x, hx, by lia⟩)
   rw [e]
   exact ⟨fun z => ⟨fun a => Classical.byContradiction fun w => z.mpr w a, fun a => Classical.byContradiction fun w => z.mp w a⟩, fun z => ⟨fun a w => a (z.mpr w), fun a w => a (z.mp w)⟩⟩
  ·intro k σ Q hg q
   exact lift20 (c_Any_told (k := k) g ((hg p own).trans h) q) (by lia)
  ·intro k σ v Q hg hn hv q
   rw [hvs]
   refine lift20 (c_Any_check (k := k) g (by simp; lia) fun bb e => q bb σ (e.trans ?_) (fun ww ww => rfl) (Nat.le_refl _)) (by lia)
   show _ ↔ ((∃ x, x ∈ sm ∧ v x = 1) ↔ v b = 1)
   rw [List.mem_map]
theorem made_xor {a b c : Nat} {odd : List Nat} (hlo : lo ≤ p) (hp : p < σ0.next) (h : σ0.get p = some (.inst 462 (xfl a b c odd))) (hm : par odd a b c) (ok : (LD.xor a b c).ok) : Made g σ0 lo p (.xor a b c) := by
 have own : lo ≤ p ∧ p < σ0.next := ⟨hlo, hp⟩
 (refine x0_2 ok ?_; clear ok; intro o1 o2 o3)
 refine ⟨hlo, hp, 462, _, 445, 459, 452, h, ⟨by kernel_rfl, by kernel_rfl, by kernel_rfl⟩, ⟨by kernel_rfl, by kernel_rfl, by kernel_rfl⟩, ⟨by kernel_rfl, by kernel_rfl, by kernel_rfl⟩, by kernel_rfl, by kernel_rfl, by kernel_rfl, by kernel_rfl, by kernel_rfl, ?_, ?_, ?_⟩
 ·intro k A σ S ss Q hA hg st hd hB hW q
  refine lift20 (c_Xor_prop (k := k) g st (hA p own) ((hg p own).trans h) hB (fun x hx => by rcases hm.2.1 x hx with rfl | rfl | rfl <;> assumption) hm.2.2 (q.imp fun ww ss' r => r.iff fun pt hpt => ?_)) (by lia)
  rw [PB_iff]
  have h1 := hB.at o1 hpt
  have h2 := hB.at o2 hpt
  have h3 := hB.at o3 hpt
  show (odd.map (at0 pt)).sum % 2 = 0 ↔ (at0 pt a ≠ at0 pt b ↔ at0 pt c = 1)
  rw [hm.1]
  lia
 ·intro k σ Q hg q
  exact lift20 (c_Xor_told (k := k) g ((hg p own).trans h) q) (by lia)
 ·intro k σ v Q hg hn hv q
  exact lift20 (c_Xor_check (k := k) g fun bb e => q bb σ e (fun ww ww => rfl) (Nat.le_refl _)) (by lia)
end
end
section
set_option tactic.hygienic false
theorem rowok {as : List Int} {xs : List Nat} {pr : Prt} {c : Int} {dm : List (Int × Int)} (h : PartsOf (as.zip xs) pr 3) (hx : ∀ x, x ∈ xs → x < 5) (hl : xs.length ≤ 3) (hc : -10 ≤ c ∧ c ≤ 10) (hd : dm.length = 5) (hW : Wi dm) : RowOk pr c dm := by
 have hz : (as.zip xs).length ≤ 3 := by rw [List.length_zip]; lia
 have hl2 := h.len
 refine ⟨⟨fun p hp => ?_, fun p hp => ?_, by lia, fun p hp => by have := hW p hp; lia⟩, h.nz, by lia⟩
 ·(refine x1_1 (List.mem_map.mp (h.mem p hp)) ?_; intro q hq e)
  obtain ⟨a, x⟩ := q
  have := hx x (List.of_mem_zip hq).2
  simp only at e; lia
 ·have := h.bd p hp; lia
theorem rowok' {kd : Kd} {as : List Int} {xs : List Nat} {pr pr' : Prt} {c : Int} {dm : List (Int × Int)} (h : PartsOf (as.zip xs) pr 3) (h' : PartsOf (tp kd pr) pr' (3 * (as.zip xs).length)) (hx : ∀ x, x ∈ xs → x < 5) (hl : xs.length ≤ 3) (hc : -10 ≤ c ∧ c ≤ 10) (hd : dm.length = 5) (hW : Wi dm) : RowOk pr' (tc kd c) dm := by
 have hz : (as.zip xs).length ≤ 3 := by rw [List.length_zip]; lia
 have hl2 := h.len
 have hl3 := h'.len
 have hl4 : (tp kd pr).length = pr.length := by cases kd <;> simp [tp]
 have hmm : (tp kd pr).map (·.2) = pr.map (·.2) := by
  cases kd with
  | le => unfold tp; rw [List.map_map]; rfl
  | eq => rfl
  | ne => rfl
 refine ⟨⟨fun p hp => ?_, fun p hp => ?_, by lia, fun p hp => by have := hW p hp; lia⟩, h'.nz, by cases kd <;> simp only [tc] <;> lia⟩
 ·have := h'.mem p hp
  rw [hmm] at this
  (refine x1_1 (List.mem_map.mp this) ?_; intro q hq e)
  (refine x1_1 (List.mem_map.mp (h.mem q hq)) ?_; intro q2 hq2 e2)
  obtain ⟨a, x⟩ := q2
  have := hx x (List.of_mem_zip hq2).2
  simp only at e e2; lia
 ·have hb := h'.bd p hp
  rw [hl4] at hb
  have : (as.zip xs).length = 0 ∨ (as.zip xs).length = 1 ∨ (as.zip xs).length = 2 ∨ (as.zip xs).length = 3 := by lia
  rcases this with e | e | e | e <;> rw [e] at hb hl2 <;> lia
theorem mem_of_parts {as : List Int} {xs : List Nat} {pr : Prt} {B : Int} (h : PartsOf (as.zip xs) pr B) : ∀ p, p ∈ pr → p.2 ∈ xs := fun p hp => by
 (refine x1_1 (List.mem_map.mp (h.mem p hp)) ?_; intro q hq e)
 obtain ⟨a, x⟩ := q
 rw [← e]; exact (List.of_mem_zip hq).2
section
variable (g : G KK) {σ : AH} {σ0 : AH} {k lo p : Nat}
theorem made_imp {b : Nat} {kd : Kd} {as : List Int} {xs : List Nat} {c : Int} {pr : Prt} {rw : Nat} (hlo : lo ≤ p) (hp : p < rw) (hrw : rw < σ0.next) (h : σ0.get p = some (.inst 583 (ifl b xs (rowD kd as xs c) rw []))) (hr : σ0.get rw = some (.inst 541 (rfl_ kd.s pr c))) (hm : PartsOf (as.zip xs) pr 3) (ok : (LD.row false b kd as xs c).ok) : Made g σ0 lo p (.row false b kd as xs c) := by
 have own : lo ≤ p ∧ p < σ0.next := ⟨hlo, by lia⟩
 have own2 : lo ≤ rw ∧ rw < σ0.next := ⟨by lia, hrw⟩
 (refine x0_5 ok ?_; clear ok; intro o1 o2 o3 o4 o5 o6)
 refine ⟨hlo, by lia, 583, _, 566, 580, 573, h, ⟨by kernel_rfl, by kernel_rfl, by kernel_rfl⟩, ⟨by kernel_rfl, by kernel_rfl, by kernel_rfl⟩, ⟨by kernel_rfl, by kernel_rfl, by kernel_rfl⟩, by kernel_rfl, by kernel_rfl, by kernel_rfl, by kernel_rfl, by kernel_rfl, ?_, ?_, ?_⟩
 ·intro k A σ S ss Q hA hg st hd hB hW q
  refine lift20 (c_Imp_prop (k := k) g st (hA p own) (hA rw own2) ((hg p own).trans h) ((hg rw own2).trans hr) hB o1 (rowok hm o2 o4 (by lia) hd hW) (q.imp fun ww ss' r => r.iff fun pt hpt => ?_)) (by lia)
  rw [PB_iff]
  have hb := hB.at o1 hpt
  show ((l1 b).ok pt → Rsat kd pr c pt) ↔ (at0 pt b = 0 ∨ Rv kd (((as.zip xs).map fun p => p.1 * at0 pt p.2).sum) c)
  rw [Rsat_v, rs, hm.sum, l1_ok]
  constructor
  ·intro z
   rcases hb with hb | hb
   ·exact .inl hb
   ·exact .inr (z (by lia))
  ·rintro (z | z) y
   ·lia
   ·exact z
 ·intro k σ Q hg q
  exact lift20 (c_Imp_told (k := k) g ((hg p own).trans h) q) (by lia)
 ·intro k σ v Q hg hn hv q
  refine lift20 (c_Imp_check (k := k) g ((hg p own).trans h) ((hg rw own2).trans hr) (by lia) (by lia) (by have := hm.len; rw [List.length_zip] at this; lia) (mem_of_parts hm) hv fun bb σ' e => q bb σ' (e.trans ?_)) (by lia)
  rw [hm.sum]; exact Iff.rfl
theorem made_reif {b : Nat} {kd : Kd} {as : List Int} {xs : List Nat} {c : Int} {pr pr' : Prt} {rw ro : Nat} (hlo : lo ≤ p) (hp : p < rw) (hrw : rw < ro) (hro : ro < σ0.next) (h : σ0.get p = some (.inst 623 (ifl b xs (rowD kd as xs c) rw [("other", .r ro)]))) (hr : σ0.get rw = some (.inst 541 (rfl_ kd.s pr c))) (hr' : σ0.get ro = some (.inst 541 (rfl_ (tkd kd).s pr' (tc kd c))))
  (hm : PartsOf (as.zip xs) pr 3) (hm' : PartsOf (tp kd pr) pr' (3 * (as.zip xs).length)) (ok : (LD.row true b kd as xs c).ok) : Made g σ0 lo p (.row true b kd as xs c) := by
 have own : lo ≤ p ∧ p < σ0.next := ⟨hlo, by lia⟩
 have own2 : lo ≤ rw ∧ rw < σ0.next := ⟨by lia, by lia⟩
 have own3 : lo ≤ ro ∧ ro < σ0.next := ⟨by lia, by lia⟩
 (refine x0_5 ok ?_; clear ok; intro o1 o2 o3 o4 o5 o6)
 refine ⟨hlo, by lia, 623, _, 606, 620, 613, h, ⟨by kernel_rfl, by kernel_rfl, by kernel_rfl⟩, ⟨by kernel_rfl, by kernel_rfl, by kernel_rfl⟩, ⟨by kernel_rfl, by kernel_rfl, by kernel_rfl⟩, by kernel_rfl, by kernel_rfl, by kernel_rfl, by kernel_rfl, by kernel_rfl, ?_, ?_, ?_⟩
 ·intro k A σ S ss Q hA hg st hd hB hW q
  refine lift20 (c_Reif_prop (k := k) g st (hA p own) (hA rw own2) (hA ro own3) ((hg p own).trans h) ((hg rw own2).trans hr) ((hg ro own3).trans hr') hB o1 (rowok hm o2 o4 (by lia) hd hW) (rowok' hm hm' o2 o4 (by lia) hd hW) (fun pt => ?_) (q.imp fun ww ss' r => r.iff fun pt hpt => ?_)) (by lia)
  ·rw [Rsat_v, Rsat_v]
   exact turned_v hm' (at0 pt)
  ·rw [PB_iff]
   have hb := hB.at o1 hpt
   show ((l1 b).ok pt ↔ Rsat kd pr c pt) ↔ (at0 pt b = 1 ↔ Rv kd (((as.zip xs).map fun p => p.1 * at0 pt p.2).sum) c)
   rw [Rsat_v, rs, hm.sum, l1_ok, show (1 ≤ at0 pt b ↔ at0 pt b = 1) by lia]
 ·intro k σ Q hg q
  exact lift20 (c_Reif_told (k := k) g ((hg p own).trans h) q) (by lia)
 ·intro k σ v Q hg hn hv q
  refine lift20 (c_Reif_check (k := k) g ((hg p own).trans h) ((hg rw own2).trans hr) (by lia) (by lia) (by have := hm.len; rw [List.length_zip] at this; lia) (mem_of_parts hm) hv fun bb σ' e => q bb σ' (e.trans ?_)) (by lia)
  rw [hm.sum]; exact Iff.rfl
theorem c_logic_rule {D : LD} (ok : D.ok) {Q : AV → AH → Prop} (q : ∀ σ' p, Made g σ' σ.next p D → σ.next < σ'.next → (∀ j, j < σ.next → σ'.get j = σ.get j) → Q (.r p) σ') : CodeW g (k + 10) (.ref 632) [.d D.d] σ Q := by
 refine cf1 "told" (by kernel_rfl) (by kernel_rfl) (fun ww => rfl) rfl ?_
 cases D with
 | clause ws us =>
  dsimp only [start, uA, LD.d]
  refine aa (rq (by kernel_rfl) (fun ww => rfl) (af (zn (h := ei (ak (fun ww ww => rfl) (by simp) (aa (ri (ad rfl (zn (h := eS (zeqS true (by decide +kernel) (ab (jt (aa (ag (ec .ClauseOf (by kernel_rfl) (fun ww => rfl) (zc rfl (af (zn (h := ei (SubW.t1 (fun ww ww => rfl) (by simp) (zc rfl (af (zn (h := ei (SubW.t2 (fun ww ww => rfl) (by simp) (sn ?_)))))))))))))))))))))))))))
  (refine x0_3 (id ok) ?_; intro o1 o2 o3 o4)
  exact (c_ClauseOf g (by lia) (by lia) fun σ' wl a1 a2 a3 a4 a5 => q σ' _ (made_clause g (Nat.le_refl _) a1 a2 a4 a5 ok) a1 a3).call
 | conj all sm b =>
  (refine x0_2 (id ok) ?_; intro o1 o2 o3)
  cases all with
  | true =>
   dsimp only [start, uA, LD.d]
   refine aa (rq (by kernel_rfl) (fun ww => rfl) (af (zn (h := ei (ak (fun ww ww => rfl) (by simp) (aa (ri (ad rfl (zn (h := eS (zeqS false (by decide +kernel) (ab (jf (xn (aa (ri (ad rfl (zn (h := eS (zeqS true (by decide +kernel) (ab (jt (aa (ag (ec .AllOf (by kernel_rfl) (fun ww => rfl) (zc rfl (af (zn (h := ei (SubW.t1 (fun ww ww => rfl) (by simp) (zc rfl (af (zn (h := ei (SubW.t2 (fun ww ww => rfl) (by simp) (sn ?_))))))))))))))))))))))))))))))))))))
   exact (c_AllOf g o3 fun σ' wl a1 a2 a3 a4 a5 => q σ' _ (made_conj g (all := true) (Nat.le_refl _) a1 a2 a4 a5 ok) a1 a3).call
  | false =>
   dsimp only [start, uA, LD.d]
   refine aa (rq (by kernel_rfl) (fun ww => rfl) (af (zn (h := ei (ak (fun ww ww => rfl) (by simp) (aa (ri (ad rfl (zn (h := eS (zeqS false (by decide +kernel) (ab (jf (xn (aa (ri (ad rfl (zn (h := eS (zeqS false (by decide +kernel) (ab (jf (xn (aa (ri (ad rfl (zn (h := eS (zeqS true (by decide +kernel) (ab (jt (aa (ag (ec .AnyOf (by kernel_rfl) (fun ww => rfl) (zc rfl (af (zn (h := ei (SubW.t1 (fun ww ww => rfl) (by simp) (zc rfl (af (zn (h := ei (SubW.t2 (fun ww ww => rfl) (by simp) (sn ?_)))))))))))))))))))))))))))))))))))))))))))))
   exact (c_AnyOf g o3 fun σ' wl a1 a2 a3 a4 a5 => q σ' _ (made_conj g (all := false) (Nat.le_refl _) a1 a2 a4 a5 ok) a1 a3).call
 | xor a b c =>
  dsimp only [start, uA, LD.d]
  refine aa (rq (by kernel_rfl) (fun ww => rfl) (af (zn (h := ei (ak (fun ww ww => rfl) (by simp) (aa (ri (ad rfl (zn (h := eS (zeqS false (by decide +kernel) (ab (jf (xn (aa (ri (ad rfl (zn (h := eS (zeqS false (by decide +kernel) (ab (jf (xn (aa (ri (ad rfl (zn (h := eS (zeqS false (by decide +kernel) (ab (jf (xn (aa (ri (ad rfl (zn (h := eS (zeqS true (by decide +kernel) (ab (jt (aa (ag (ec .Xor (by kernel_rfl) (fun ww => rfl) (zc rfl (af (zn (h := ei (SubW.t1 (fun ww ww => rfl) (by simp) (zc rfl (af (zn (h := ei (SubW.t2 (fun ww ww => rfl) (by simp) (zc rfl (af (zn (h := ei ?_)))))))))))))))))))))))))))))))))))))))))))))))))))))))))
  refine SubW.t3 (by intro o i; rfl) (by simp) ?_
  refine sn ?_
  exact (c_Xor g fun σ' odd a1 a2 a3 a4 => q σ' _ (made_xor g (Nat.le_refl _) a1 a2 a4 ok) a1 a3).call
 | row reif b kd as xs c =>
  (refine x0_5 (id ok) ?_; intro o1 o2 o3 o4 o5 o6)
  cases reif with
  | true =>
   dsimp only [start, uA, LD.d]
   refine aa (rq (by kernel_rfl) (fun ww => rfl) (af (zn (h := ei (ak (fun ww ww => rfl) (by simp) (aa (ri (ad rfl (zn (h := eS (zeqS false (by decide +kernel) (ab (jf (xn (aa (ri (ad rfl (zn (h := eS (zeqS false (by decide +kernel) (ab (jf (xn (aa (ri (ad rfl (zn (h := eS (zeqS false (by decide +kernel) (ab (jf (xn (aa (ri (ad rfl (zn (h := eS (zeqS false (by decide +kernel) (ab (jf (xn (aa (ri (ad rfl (zn (h := eS (zeqS true (by decide +kernel) (ab (jt (aa (ag (ec .Reified (by kernel_rfl) (fun ww => rfl) (zc rfl (af (zn (h := ei (SubW.t1 (fun ww ww => rfl) (by simp) (zc rfl (af (zn (h := ei (SubW.t2 (fun ww ww => rfl) (by simp) (sn ?_)))))))))))))))))))))))))))))))))))))))))))))))))))))))))))))))
   exact (c_Reif g (by lia) (by lia) (by decide) o5 fun σ' pr pr' ro a1 a2 a3 a4 a5 a6 a7 a8 => q σ' _ (made_reif g (Nat.le_refl _) (Nat.lt_succ_self _) a1 a2 a5 a3 a4 a7 a8 ok) (by lia) a6).call
  | false =>
   dsimp only [start, uA, LD.d]
   refine aa (rq (by kernel_rfl) (fun ww => rfl) (af (zn (h := ei (ak (fun ww ww => rfl) (by simp) (aa (ri (ad rfl (zn (h := eS (zeqS false (by decide +kernel) (ab (jf (xn (aa (ri (ad rfl (zn (h := eS (zeqS false (by decide +kernel) (ab (jf (xn (aa (ri (ad rfl (zn (h := eS (zeqS false (by decide +kernel) (ab (jf (xn (aa (ri (ad rfl (zn (h := eS (zeqS false (by decide +kernel) (ab (jf (xn (aa (ri (ad rfl (zn (h := eS (zeqS false (by decide +kernel) (ab (jf (xn (aa (ag (rv_ifx (ad rfl (zn (h := eS (zeqS true (by decide +kernel) (ab (jt (ec .Implied (by kernel_rfl) (fun ww => rfl) (zc rfl (af (zn (h := ei (SubW.t1 (fun ww ww => rfl) (by simp) (zc rfl (af (zn (h := ei (SubW.t2 (fun ww ww => rfl) (by simp) (sn ?_)))))))))))))))))))))))))))))))))))))))))))))))))))))))))))))))))))))))
   exact (c_Imp g (by lia) (by lia) (by decide) o5 fun σ' pr a1 a2 a3 a4 a5 => q σ' _ (made_imp g (Nat.le_refl _) (Nat.lt_succ_self _) a1 a3 a2 a5 ok) (by lia) a4).call
end
end
section
set_option tactic.hygienic false
theorem shp_intsL {ns : List Int} : shaped (.list (ns.map .int)) = true := Shp.of (Shp.list (n := 0) fun d hd => by
 (refine x1_1 (List.mem_map.mp hd) ?_; intro l ww z1; obtain rfl := z1)
 exact Shp.int)
section
variable {K : Params → Frag} {g : G K} {k : Nat} {σ : AH}
theorem SubW.pt {value slice : Expr} {pt : List Int} {x : Nat} {Q : AV → AH → Prop} (hs : ∀ o i, subscripted slice false o i = operate [o, i] (getItem o i)) (hx : x < pt.length) (hl : pt.length ≤ 1000) (h : Q (.d (.int (at0 pt x))) σ) : SubW g k value slice (.d (.tuple (pt.map .int))) (.d (.int (x : Nat))) σ Q :=
 SubW.tup (j := x) (d := .int (at0 pt x)) hs (by lia) (by lia) (by
  unfold seqIndex?
  rw [List.length_map]
  simp; lia) (by
  rw [List.getElem?_map, List.getElem?_eq_getElem hx]
  simp [at0, List.getD, List.getElem?_eq_getElem hx]) h
end
section
variable (g : G KK) {σ : AH} {k : Nat}
theorem c_law_lets {D : LD} {pt : List Int} {Q : AV → AH → Prop} (ok : D.ok) (hl : pt.length = 5) (hB : ∀ x, x < 3 → at0 pt x = 0 ∨ at0 pt x = 1) (hb : ∀ x, -10 ≤ at0 pt x ∧ at0 pt x ≤ 10)
  (q : ∀ b, (b = true ↔ D.sat (at0 pt)) → Q (.d (.bool b)) σ) : CodeW g (k + 3) (.ref 656) [.d D.d, .d (ptD pt)] σ Q := by
 refine CodeW.gc ?_
 refine cf2 "data" "point" (by kernel_rfl) (by kernel_rfl) (fun ww ww => rfl) rfl ?_
 have fin : ∀ b, (b = true ↔ D.sat (at0 pt)) → ∃ d, AV.d (.bool b) = .d d ∧ (∀ i, i < σ.next → σ.get i = σ.get i) ∧ Q (.d d) σ := fun b e => ⟨_, rfl, fun ww ww => rfl, q b e⟩
 cases D with
 | xor a b c =>
  (refine x0_2 ok ?_; clear ok; intro o1 o2 o3)
  dsimp only [start, uA, LD.d]
  refine aa (ri (ad rfl (af (zn (h := ei (ak (fun ww ww => rfl) (by simp) (eS (zeqS true (by decide +kernel) (ab (jt (aa (ag (rv_cmp rfl ?_)))))))))))))
  refine EvW.countL (by intro env; rfl) rfl (by intro env; rfl) (by intro env; rfl) ?_
  refine zc rfl (af (zn (h := af (zn (h := ei (SubW.t1 (fun ww ww => rfl) (by simp) ?_))))))
  refine SubW.pt (by intro o i; rfl) (by lia) (by lia) ?_
  refine zc rfl (af (zn (h := af (zn (h := ei (SubW.t2 (fun ww ww => rfl) (by simp) ?_))))))
  refine SubW.pt (by intro o i; rfl) (by lia) (by lia) ?_
  refine zc rfl (af (zn (h := af (zn (h := ei ?_)))))
  refine SubW.t3 (by intro o i; rfl) (by simp) ?_
  refine SubW.pt (by intro o i; rfl) (by lia) (by lia) ?_
  refine sn ?_
  refine ⟨[at0 pt a, at0 pt b, at0 pt c], rfl, by simp, ?_⟩
  refine ei ?_
  refine ⟨_, rfl, ?_⟩
  refine ai (zc rfl (ei (zc rfl (ei (sn ?_)))))
  walk_at "frz"
  refine CmpW.inT (x := .int _) (ys := [.int 0, .int 2]) rfl rfl rfl rfl (fin _ ?_)
  have h1 := hB a o1
  have h2 := hB b o2
  have h3 := hB c o3
  show _ ↔ (at0 pt a ≠ at0 pt b ↔ at0 pt c = 1)
  rcases h1 with h1 | h1 <;> rcases h2 with h2 | h2 <;> rcases h3 with h3 | h3 <;> rw [h1, h2, h3] <;> decide +kernel
 | clause ws us =>
  (refine x0_3 ok ?_; clear ok; intro o1 o2 o3 o4)
  dsimp only [start, uA, LD.d]
  refine aa (ri (ad rfl (af (zn (h := ei (ak (fun ww ww => rfl) (by simp) (eS (zeqS false (by decide +kernel) (ab (jf (xn (aa (ri (ad rfl (af (zn (h := ei (ak (fun ww ww => rfl) (by simp) (eS (zeqS true (by decide +kernel) (ab (jt (aa (ag (rv_or (rv_cmp rfl (ei ?_)))))))))))))))))))))))))))
  refine rv_comp (by kernel_rfl) (fun ww ww => rfl) ?_
  refine src_of ?_
  refine af (zn (h := ei (SubW.t1 (fun ww ww => rfl) (by simp) ?_)))
  refine ⟨_, .inr rfl, ?_⟩
  refine cF (fun x : Nat => .int (x : Nat)) (fun x => some (.int (at0 pt x))) (fun m => m "point" = some (.d (ptD pt))) ws (by simp; lia) (by walk_at "lk") ?_ ?_
  ·intro x hx m hm
   have := o1 x hx
   refine aN (by kernel_rfl) (IfsW.nil (jt (af (zn (h := zn (h := ?_))))))
   exact SubW.pt (by intro o i; rfl) (by lia) (by lia) ⟨rfl, by walk_at "lk", _, rfl, rfl⟩
  intro m' ww
  rw [List.nil_append, fmS, show ws.map (fun x => PyData.int (at0 pt x)) = (ws.map (at0 pt)).map .int by rw [List.map_map]; rfl]
  refine CmpW.inL (x := .int 1) rfl rfl rfl shp_intsL ?_
  refine ab ?_
  cases e : (((ws.map (at0 pt)).map PyData.int).any fun y => PyData.eqv y (.int 1))
  ·refine jf ?_
   refine EvW.and1 (rv_cmp rfl (ei ?_))
   refine rv_comp (by kernel_rfl) (fun ww ww => rfl) ?_
   refine src_of ?_
   refine af (zn (h := ei (SubW.t2 (fun ww ww => rfl) (by simp) ?_)))
   refine ⟨_, .inr rfl, ?_⟩
   refine cF (fun x : Nat => .int (x : Nat)) (fun x => some (.int (at0 pt x))) (fun m => m "point" = some (.d (ptD pt))) us (by simp; lia) (by walk_at "lk") ?_ ?_
   ·intro x hx m hm
    have := o2 x hx
    refine aN (by kernel_rfl) (IfsW.nil (jt (af (zn (h := zn (h := ?_))))))
    exact SubW.pt (by intro o i; rfl) (by lia) (by lia) ⟨rfl, by walk_at "lk", _, rfl, rfl⟩
   intro m'' ww
   rw [List.nil_append, fmS, show us.map (fun x => PyData.int (at0 pt x)) = (us.map (at0 pt)).map .int by rw [List.map_map]; rfl]
   refine CmpW.inL (x := .int 0) rfl rfl rfl shp_intsL (fin _ ?_)
   rw [mem_int, List.mem_map]
   have no : ¬ ∃ x, x ∈ ws ∧ at0 pt x = 1 := fun z => by
    rw [mem_int.mpr (List.mem_map.mpr z)] at e; cases e
   exact ⟨fun z => .inr z, fun z => z.elim (fun z => (no z).elim) id⟩
  ·refine jt ?_
   exact fin true ⟨fun ww => .inl (List.mem_map.mp (mem_int.mp e)), fun ww => rfl⟩
 | conj all sm b =>
  (refine x0_2 ok ?_; clear ok; intro o1 o2 o3)
  have comp : ∀ (x : Nat), x ∈ sm → x < 5 := fun x hx => by have := o1 x hx; lia
  cases all with
  | true =>
   dsimp only [start, uA, LD.d]
   refine aa (ri (ad rfl (af (zn (h := ei (ak (fun ww ww => rfl) (by simp) (eS (zeqS false (by decide +kernel) (ab (jf (xn (aa (ri (ad rfl (af (zn (h := ei (ak (fun ww ww => rfl) (by simp) (eS (zeqS false (by decide +kernel) (ab (jf (xn (aa (ri (ad rfl (af (zn (h := ei (ak (fun ww ww => rfl) (by simp) (eS (zeqS true (by decide +kernel) (ab (jt (aa (ag (rv_cmp rfl (ec .min (by kernel_rfl) (fun ww => rfl) (zc rfl (aj ?_))))))))))))))))))))))))))))))))))))))))
   refine EvW.lst ?_
   refine zc rfl (ei (sn ?_))
   walk_at "frz"
   refine rv_comp (by kernel_rfl) (fun ww ww => rfl) ?_
   refine src_of ?_
   refine af (zn (h := ei (SubW.t1 (fun ww ww => rfl) (by simp) ?_)))
   refine ⟨_, .inr rfl, ?_⟩
   refine cF (fun x : Nat => .int (x : Nat)) (fun x => some (.int (at0 pt x))) (fun m => m "point" = some (.d (ptD pt))) sm (by simp; lia) (by walk_at "lk") ?_ ?_
   ·intro x hx m hm
    have := comp x hx
    refine aN (by kernel_rfl) (IfsW.nil (jt (af (zn (h := zn (h := ?_))))))
    exact SubW.pt (by intro o i; rfl) (by lia) (by lia) ⟨rfl, by walk_at "lk", _, rfl, rfl⟩
   intro m' ww
   rw [List.nil_append, fmS, show sm.map (fun x => PyData.int (at0 pt x)) = (sm.map (at0 pt)).map .int by rw [List.map_map]; rfl]
   refine BinW.catL rfl rfl (by simp; lia) ?_
   refine sn ?_
   refine CallW.minL (ns := 1 :: sm.map (at0 pt)) rfl (by simp) fun M hM hle => ?_
   refine af (zn (h := af (zn (h := ei (SubW.t2 (fun ww ww => rfl) (by simp) ?_)))))
   refine SubW.pt (by intro o i; rfl) (by lia) (by lia) ?_
   refine qi ?_
   refine fin _ ?_
   rw [decide_eq_true_iff]
   show _ ↔ ((∀ x, x ∈ sm → at0 pt x ≠ 0) ↔ at0 pt b = 1)
   have hb1 := hB b o2
   have h1 := hle 1 (by simp)
   have hall : (∀ x, x ∈ sm → at0 pt x ≠ 0) ↔ M = 1 := by
    constructor
    ·intro z
     rcases List.mem_cons.mp hM with e | e
     ·exact e
     ·(refine x1_1 (List.mem_map.mp e) ?_; intro x hx z2; obtain rfl := z2)
      have := hB x (o1 x hx)
      have := z x hx
      lia
    ·intro e x hx hv
     have := hle (at0 pt x) (List.mem_cons_of_mem _ (List.mem_map.mpr ⟨x, hx, rfl⟩))
     lia
   have hM0 : M = 0 ∨ M = 1 := by
    rcases List.mem_cons.mp hM with e | e
    ·exact .inr e
    ·(refine x1_1 (List.mem_map.mp e) ?_; intro x hx z3; obtain rfl := z3)
     exact hB x (o1 x hx)
   rw [hall]
   rcases hM0 with h | h <;> rcases hb1 with h' | h' <;> rw [h, h'] <;> decide
  | false =>
   dsimp only [start, uA, LD.d]
   refine aa (ri (ad rfl (af (zn (h := ei (ak (fun ww ww => rfl) (by simp) (eS (zeqS false (by decide +kernel) (ab (jf (xn (aa (ri (ad rfl (af (zn (h := ei (ak (fun ww ww => rfl) (by simp) (eS (zeqS false (by decide +kernel) (ab (jf (xn (aa (ri (ad rfl (af (zn (h := ei (ak (fun ww ww => rfl) (by simp) (eS (zeqS false (by decide +kernel) (ab (jf (xn (aa (ri (ad rfl (af (zn (h := ei (ak (fun ww ww => rfl) (by simp) (eS (zeqS true (by decide +kernel) (ab (jt (aa (ag (rv_cmp rfl (ec .max (by kernel_rfl) (fun ww => rfl) (zc rfl (aj ?_))))))))))))))))))))))))))))))))))))))))))))))))))))
   refine EvW.lst ?_
   refine zc rfl (ei (sn ?_))
   walk_at "frz"
   refine rv_comp (by kernel_rfl) (fun ww ww => rfl) ?_
   refine src_of ?_
   refine af (zn (h := ei (SubW.t1 (fun ww ww => rfl) (by simp) ?_)))
   refine ⟨_, .inr rfl, ?_⟩
   refine cF (fun x : Nat => .int (x : Nat)) (fun x => some (.int (at0 pt x))) (fun m => m "point" = some (.d (ptD pt))) sm (by simp; lia) (by walk_at "lk") ?_ ?_
   ·intro x hx m hm
    have := comp x hx
    refine aN (by kernel_rfl) (IfsW.nil (jt (af (zn (h := zn (h := ?_))))))
    exact SubW.pt (by intro o i; rfl) (by lia) (by lia) ⟨rfl, by walk_at "lk", _, rfl, rfl⟩
   intro m' ww
   rw [List.nil_append, fmS, show sm.map (fun x => PyData.int (at0 pt x)) = (sm.map (at0 pt)).map .int by rw [List.map_map]; rfl]
   refine BinW.catL rfl rfl (by simp; lia) ?_
   refine sn ?_
   refine CallW.maxL (ns := 0 :: sm.map (at0 pt)) rfl (by simp) fun M hM hle => ?_
   refine af (zn (h := af (zn (h := ei (SubW.t2 (fun ww ww => rfl) (by simp) ?_)))))
   refine SubW.pt (by intro o i; rfl) (by lia) (by lia) ?_
   refine qi ?_
   refine fin _ ?_
   rw [decide_eq_true_iff]
   show _ ↔ ((∃ x, x ∈ sm ∧ at0 pt x = 1) ↔ at0 pt b = 1)
   have hb1 := hB b o2
   have h1 := hle 0 (by simp)
   have hall : (∃ x, x ∈ sm ∧ at0 pt x = 1) ↔ M = 1 := by
    constructor
    ·(intro z0r; (refine x1_1 z0r ?_; clear z0r; intro x hx hv))
     have := hle (at0 pt x) (List.mem_cons_of_mem _ (List.mem_map.mpr ⟨x, hx, rfl⟩))
     rcases List.mem_cons.mp hM with e | e
     ·lia
     ·(refine x1_1 (List.mem_map.mp e) ?_; intro y hy z4; obtain rfl := z4)
      have := hB y (o1 y hy)
      lia
    ·intro e
     rcases List.mem_cons.mp hM with e' | e'
     ·lia
     ·(refine x1_1 (List.mem_map.mp e') ?_; intro x hx hv)
      exact ⟨x, hx, by lia⟩
   have hM0 : M = 0 ∨ M = 1 := by
    rcases List.mem_cons.mp hM with e | e
    ·exact .inl e
    ·(refine x1_1 (List.mem_map.mp e) ?_; intro x hx z5; obtain rfl := z5)
     exact hB x (o1 x hx)
   rw [hall]
   rcases hM0 with h | h <;> rcases hb1 with h' | h' <;> rw [h, h'] <;> decide
 | row reif b kd as xs c =>
  (refine x0_5 ok ?_; clear ok; intro o1 o2 o3 o4 o5 o6)
  have sh : shaped (.str (rwS reif)) = true := by cases reif <;> decide +kernel
  dsimp only [start, uA, LD.d]
  refine aa (ri (ad rfl (af (zn (h := ei (ak (fun ww ww => rfl) (by simp) (eS ?_)))))))
  refine CmpW.eqS false sh (by decide +kernel) (by cases reif <;> decide +kernel) ?_
  refine ab (jf (xn (aa (ri (ad rfl (af (zn (h := ei (ak (fun ww ww => rfl) (by simp) (eS ?_))))))))))
  refine CmpW.eqS false sh (by decide +kernel) (by cases reif <;> decide +kernel) ?_
  refine ab (jf (xn (aa (ri (ad rfl (af (zn (h := ei (ak (fun ww ww => rfl) (by simp) (eS ?_))))))))))
  refine CmpW.eqS false sh (by decide +kernel) (by cases reif <;> decide +kernel) ?_
  refine ab (jf (xn (aa (ri (ad rfl (af (zn (h := ei (ak (fun ww ww => rfl) (by simp) (eS ?_))))))))))
  refine CmpW.eqS false sh (by decide +kernel) (by cases reif <;> decide +kernel) ?_
  refine ab (jf (xn (aa ?_)))
  refine StW.unp rfl (isVars (by kernel_rfl)) (by intro env; rfl) (by walk_at "he") ?_
  refine TpW.data ?_
  refine af (zn (h := ei (SubW.t2 (fun ww ww => rfl) (by simp) ?_)))
  refine ⟨_, rfl, rfl, ?_⟩
  dsimp only [namesOf, List.map, uA]
  refine aa (rq (by kernel_rfl) (fun ww => rfl) (aj (ec .sum (by kernel_rfl) (fun ww => rfl) (zc rfl ?_))))
  refine rv_comp (by kernel_rfl) (fun ww ww => rfl) ?_
  refine SrcW.zip (gb_zip (by kernel_rfl)) (by intro env; rfl) ?_
  refine zn (h := zn (h := ?_))
  refine ⟨as.map .int, mks xs, .inr ⟨rfl, rfl⟩, ?_⟩
  rw [show ((as.map PyData.int).zip (mks xs)).map (fun p => PyData.tuple [p.1, p.2]) = (as.zip xs).map pD by rw [List.zip_map, List.map_map]; rfl]
  refine cF pD (fun p => some (.int (p.1 * at0 pt p.2))) (fun m => m "point" = some (.d (ptD pt))) (as.zip xs) (by simp; lia) (by walk_at "lk") ?_ ?_
  ·intro p hp m hm
   obtain ⟨a, x⟩ := p
   have := o2 x (List.of_mem_zip hp).2
   have := hb x
   refine ac2 (by kernel_rfl) (by kernel_rfl) (IfsW.nil (jt (aj (zn (h := af (zn (h := zn (h := ?_))))))))
   refine SubW.pt (by intro o i; rfl) (by lia) (by lia) ?_
   refine BinW.mul (by lia) ?_
   exact ⟨rfl, by walk_at "lk", _, rfl, rfl⟩
  intro m' ww
  rw [List.nil_append, fmS, show (as.zip xs).map (fun p => PyData.int (p.1 * at0 pt p.2)) = ((as.zip xs).map fun p => p.1 * at0 pt p.2).map .int by rw [List.map_map]; rfl]
  refine sn ?_
  refine CallW.sumL rfl ?_
  refine zn (h := BinW.sub (aa (rq (by kernel_rfl) (fun ww => rfl) (af ?_))))
  generalize hS : ((as.zip xs).map fun p => p.1 * at0 pt p.2).sum = s
  refine EvW.dictS (by kernel_rfl) (by kernel_rfl) (by simp) (by simp) ?_
  refine PrW.cons ?_
  refine eS (rv_cmp rfl (zn (h := ei (CmpW.le ?_))))
  refine PrW.cons ?_
  refine eS (rv_cmp rfl (zn (h := ei (qi ?_))))
  refine PrW.cons ?_
  refine eS (rv_cmp rfl (zn (h := ei (CmpW.neI ?_))))
  refine PrW.nil ⟨_, rfl, _, rfl, _, rfl, (show List.Nodup [("linear_le" : Str), "linear_eq", "linear_ne"] by decide +kernel), ?_⟩
  refine zn (h := ?_)
  obtain ⟨rg, hrg, hrv⟩ : ∃ rg, getD [(("linear_le" : Str), AV.d (.bool (decide (s - c ≤ 0)))), ("linear_eq", .d (.bool (decide (s - c = 0)))), ("linear_ne", .d (.bool (decide (s - c ≠ 0))))] kd.s = some (.d (.bool rg)) ∧ (rg = true ↔ Rv kd s c) := by
   cases kd with
   | le => exact ⟨decide (s - c ≤ 0), by kernel_rfl, by rw [decide_eq_true_iff]; show s - c ≤ 0 ↔ s ≤ c; lia⟩
   | eq => exact ⟨decide (s - c = 0), by kernel_rfl, by rw [decide_eq_true_iff]; show s - c = 0 ↔ s = c; lia⟩
   | ne => exact ⟨decide (s - c ≠ 0), by kernel_rfl, by rw [decide_eq_true_iff]; show s - c ≠ 0 ↔ s ≠ c; lia⟩
  refine SubW.dictS (by intro o i; rfl) gP hrg ?_
  refine aa (ag (rv_ifx (ad rfl (af (zn (h := af (zn (h := ei (SubW.t1 (fun ww ww => rfl) (by simp) ?_)))))))))
  refine SubW.pt (by intro o i; rfl) (by lia) (by lia) ?_
  refine ei (qi (ab ?_))
  have hb1 := hB b o1
  have fin2 : ∀ (bb : Bool) (o : AO), (bb = true ↔ (LD.row reif b kd as xs c).sat (at0 pt)) → ∃ d, AV.d (.bool bb) = .d d ∧ (∀ i, i < σ.next → (σ.push o).get i = σ.get i) ∧ Q (.d d) σ := fun bb o e => ⟨_, rfl, fun i hi => al hi rfl, q bb e⟩
  rw [← hS] at hrv
  by_cases h1 : at0 pt b = 1
  ·refine jd h1 ?_
   refine zn (h := ?_)
   refine fin2 _ _ (hrv.trans ?_)
   cases reif with
   | true => exact ⟨fun z => ⟨fun ww => z, fun ww => h1⟩, fun z => z.mp h1⟩
   | false => exact ⟨fun z => .inr z, fun z => z.elim (fun z => by lia) id⟩
  ·refine jn h1 ?_
   refine rv_or (rv_cmp rfl (af (zn (h := ei (ak (fun ww ww => rfl) (by simp) (eS ?_))))))
   cases reif with
   | true =>
    refine CmpW.eqS false sh (by decide +kernel) (by decide +kernel) ?_
    refine ab (jf (EvW.and1 (rv_un (zn (h := ru_not (ab ?_))))))
    refine fin2 _ _ ?_
    show _ ↔ (at0 pt b = 1 ↔ Rv kd _ c)
    rw [← hrv]
    cases rg <;> simp [h1]
   | false =>
    refine CmpW.eqS true sh (by decide +kernel) (by decide +kernel) ?_
    refine ab (jt ?_)
    exact fin2 _ _ ⟨fun ww => .inl (by lia), fun ww => rfl⟩
end
end
section
set_option tactic.hygienic false
section
variable {K : Params → Frag} {g : G K} {k : Nat} {sc : Scope} {m : Loc} {σ : AH}
theorem CmpW.neSelf {n : Nat} {a b : AV} {x : PyData} {Q : AV → AH → Prop} (ha : AsD σ a x) (hb : AsD σ b x) (s : Shp n x) (hn : n ≤ 64) (h : Q (.d (.bool false)) σ) : CmpW g k .NotEq a b σ Q :=
 CmpW.ne ha hb (s.of hn) (s.of hn) (by rw [PySem.SeqAt.eqv_refl _ s.1]; exact h)
theorem CmpW.eqSelf {n : Nat} {a b : AV} {x : PyData} {Q : AV → AH → Prop} (ha : AsD σ a x) (hb : AsD σ b x) (s : Shp n x) (hn : n ≤ 64) (h : Q (.d (.bool true)) σ) : CmpW g k .Eq a b σ Q :=
 CmpW.eq ha hb (s.of hn) (s.of hn) (by rw [PySem.SeqAt.eqv_refl _ s.1]; exact h)
theorem CompL.flat {α : Type} {T : Expr} {ifs : List Expr} {EM : Em} {Q : Loc → AH → List PyData → Prop} (e : α → PyData) (f : α → List PyData) (I : Loc → Prop) (n : Nat) (xs : List α) {ys : List PyData} (hl : ys.length + n * xs.length ≤ 1000) (hf : ∀ a, a ∈ xs → (f a).length ≤ n) (hI : I m)
  (step : ∀ a, a ∈ xs → ∀ m ys, I m → ys.length ≤ 1000 → ∀ R : Loc → AH → List PyData → Prop, (∀ m', I m' → R m' σ (ys ++ f a)) → AsgC g k sc m σ T (.d (e a)) (fun m1 σ1 => IfsW g k sc m1 σ1 ifs (fun ok σ2 => if ok = true then EM m1 σ2 ys R else R m1 σ2 ys)))
  (q : ∀ m', I m' → Q m' σ (ys ++ xs.flatMap f)) : CompL g k sc T ifs EM Q (xs.map e) m σ ys := by
 induction xs generalizing m ys with
 | nil => have := q m hI; simp at this; exact CompL.nil this
 | cons a r ih =>
  rw [List.map_cons]
  simp only [List.length_cons, Nat.mul_add, Nat.mul_one] at hl
  have hfa := hf a (List.mem_cons_self ..)
  refine CompL.cons (step a (List.mem_cons_self ..) m ys hI (by lia) _ fun m' hm' => ?_)
  refine ih (by rw [List.length_append]; lia) (fun b hb => hf b (List.mem_cons_of_mem _ hb)) hm' (fun b hb => step b (List.mem_cons_of_mem _ hb)) fun m'' hm'' => ?_
  rw [List.append_assoc]; exact q m'' hm''
theorem compTurn2 {elt : Expr} {cscope : Scope} {cpos : Pos} {T iter T2 iter2 : Expr} {ifs ifs2 : List Expr} (it acc : Value) (env : Env) : compTurn (.ListComp elt [⟨T, iter, ifs, 0⟩, ⟨T2, iter2, ifs2, 0⟩] cscope cpos) 0 it acc env = (do
   standAt iter.pos
   match ← pyNext it with
   | Option.none => pure (.done .next)
   | some v =>
    letOwnedTupleGo T it v
    assign T env v
    let ok ← forIn ifs true fun c r => if r = true then do let ok ← isTrue c env (eval c env); pure (ForInStep.yield ok) else pure (ForInStep.yield r)
    if ok then emitGen elt [⟨T, iter, ifs, 0⟩, ⟨T2, iter2, ifs2, 0⟩] cscope cpos 1 iter2 acc env
    again (.compLoop (.ListComp elt [⟨T, iter, ifs, 0⟩, ⟨T2, iter2, ifs2, 0⟩] cscope cpos) 0 it acc env)) := by
 unfold compTurn
 refine bind_congr fun ww => bind_congr fun r => ?_
 cases r with
 | none => rfl
 | some v =>
  refine bind_congr fun ww => bind_congr fun ww => bind_congr fun ok => ?_
  cases ok with
  | false => rfl
  | true =>
   unfold emitGen
   simp only [if_pos, bind_assoc, pure_bind]
   rfl
theorem StW.compE2 {x : Str} {p : Pos} {pos : Pos} {elt : Expr} {cscope : Scope} {cpos : Pos} {T iter T2 iter2 : Expr} {ifs ifs2 : List Expr} {Q : Fl → Loc → AH → Prop}
  (hsw : ∀ env, env.scope = sc → swapsWith (.ListComp elt [⟨T, iter, ifs, 0⟩, ⟨T2, iter2, ifs2, 0⟩] cscope cpos) (some (.Name x p)) pos.line env = pure true) (hx : sc.names.lookup x = some .local) (hfree : ∀ x, sc.names.lookup x ≠ some .free)
  (hO : compOk cscope sc = true) (hs : ∀ env x, foldedSetIterable iter env x = pure x) (hs2 : ∀ env x, foldedSetIterable iter2 env x = pure x)
  (h : SrcW g k sc m σ iter T (fun xs σ1 => CompL g k (relab cscope sc) T ifs (Em.gen g k (relab cscope sc) T2 iter2 ifs2 (Em.elt g k (relab cscope sc) elt)) (fun ww σ' ys' => Q .next (upd m x (.d (.list ys'))) σ') xs (compLoc cscope m) σ1 [])) : StW g k sc m σ (.Assign [.Name x p] (.ListComp elt [⟨T, iter, ifs, 0⟩, ⟨T2, iter2, ifs2, 0⟩] cscope cpos) pos) Q :=
 StW.assignComp (emit := emitGen elt [⟨T, iter, ifs, 0⟩, ⟨T2, iter2, ifs2, 0⟩] cscope cpos 1 iter2) hsw hx hfree compTurn2 (EmOk.gen rfl (fun it acc env => rfl) (EmOk.elt (relab_free (compOk_of hO))) (relab_free (compOk_of hO)) hs2) hO hs h
theorem Em.gen_i {T iter : Expr} {ifs : List Expr} {EM : Em} {ys : List PyData} {Q : Loc → AH → List PyData → Prop} (h : SrcW g k sc m σ iter T (fun xs σ1 => CompL g k sc T ifs EM Q xs m σ1 ys)) : Em.gen g k sc T iter ifs EM m σ ys Q := h
end
theorem St.frame {A : Nat → Prop} {σ σ' : AH} {S : Nat} {ss : SS} (h : St A σ S ss) (hf : ∀ i, S ≤ i → i < σ.next → σ'.get i = σ.get i) (hn : σ.next ≤ σ'.next) : St A σ' S ss := by
 (refine x0_1 h ?_; clear h; intro z1 r; (refine x5_0 z1 ?_; clear z1; intro m n cl fs es h))
 have h1 := h.lm; have h2 := h.ln
 have z : ∀ {i}, S ≤ i → i < σ.next → ∀ {v}, σ.get i = some v → σ'.get i = some v := fun a b ww c => (hf _ a b).trans c
 exact ⟨⟨m, n, cl, fs, es, z (by lia) (by lia) h.s, z (by lia) (by lia) h.d, z (by lia) (by lia) h.f, z (by lia) (by lia) h.t, z (by lia) (by lia) h.gm, z (by lia) (by lia) h.gn, ⟨h1.1, Nat.lt_of_lt_of_le h1.2 hn⟩, ⟨h2.1, Nat.lt_of_lt_of_le h2.2 hn⟩, h.ne, h.le, h.lf, fun i hi => ⟨Nat.lt_of_lt_of_le (h.a i hi).1 hn, (h.a i hi).2⟩⟩, r⟩
theorem St.snx {A : Nat → Prop} {σ : AH} {S : Nat} {ss : SS} (h : St A σ S ss) : S < σ.next := by
 (refine x0_1 h ?_; clear h; intro z2 r; (refine x5_0 z2 ?_; clear z2; intro m n cl fs es h))
 have h1 := h.lm; lia
theorem Hd.all {A : Nat → Prop} {σ : AH} {H c lo : Nat} (h : Hd A σ H c) (hH : H < lo) (hc : c < lo) : Hd (fun i => lo ≤ i ∧ i < σ.next) σ H c := by
 obtain ⟨xs, n, h1, h2, h3, h4, h5, h6, h7⟩ := h
 exact ⟨xs, n, h1, h2, h3, h4, h5, h6, fun i hi => by lia⟩
structure LS (σ0 : AH) (lo S H c : Nat) (σ : AH) (dm : List (Int × Int)) : Prop where
 st : St (fun i => i < S) σ S ⟨dm, [], [], false⟩
 hd : Hd (fun ww => False) σ H c
 fr : ∀ i, lo ≤ i → i < S → σ.get i = σ0.get i
 hH : H < lo
 hc : c < lo
 le : lo ≤ S
section
variable (g : G KK) {σ σ0 : AH} {k lo S H c : Nat} {dm : List (Int × Int)}
theorem LS.take (h : LS σ0 lo S H c σ dm) {b : Nat} {Q : AV → AH → Prop} (hb : 0 < b) (q : ∀ (r : Nat) σ', r < b → LS σ0 lo S H c σ' dm → Q (.d (.int (r : Nat))) σ') : CodeW g (k + 1) (.ref 639) [.r H, .d (.int (b : Nat))] σ Q :=
 c_take g (h.hd.all h.hH h.hc) hb fun d σ' p h' f n => by
  (refine x1_1 p ?_; clear p; intro r hr z3; obtain rfl := z3)
  have a := h.le
  have b := h.st.snx
  exact q r σ' hr ⟨h.st.frame (fun i h1 h2 => f i ⟨by lia, h2⟩) n, h'.mono fun ww z => z.elim, fun i h1 h2 => (f i ⟨h1, by lia⟩).trans (h.fr i h1 h2), h.hH, h.hc, h.le⟩
theorem LS.new_var (h : LS σ0 lo S H c σ dm) {a b : Int} {Q : AV → AH → Prop} (hl : dm.length < 5) (hd : a ≤ b ∧ b ≤ a + 1) (q : ∀ i σ', LS σ0 lo S H c σ' (dm ++ [(a, b)]) → Q (.d (.int i)) σ') : CodeW g (k + 3) (.ref 115) [.r S, .d (ivl a b)] σ Q :=
 c_Store_new_var g h.st hl hd fun i σ' st fr => by
  obtain ⟨xs, n, h1, h2, h3, h4, h5, h6, h7⟩ := h.hd
  have l := h.le
  have x1 := h.hH
  have x2 := h.hc
  have x3 := st.snx
  exact q i σ' ⟨st, ⟨xs, n, (fr H (by lia)).trans h1, (fr c (by lia)).trans h2, h3, h4, by lia, by lia, fun ww z => z.elim⟩, fun i h1 h2 => (fr i h2).trans (h.fr i h1 h2), x1, x2, l⟩
theorem LS.frame (h : LS σ0 lo S H c σ dm) {σ' : AH} (f : ∀ j, j < σ.next → σ'.get j = σ.get j) (n : σ.next ≤ σ'.next) : LS σ0 lo S H c σ' dm := by
 obtain ⟨xs, n', h1, h2, h3, h4, h5, h6, h7⟩ := h.hd
 have a := h.st.snx
 exact ⟨h.st.frame (fun i ww h => f i h) n, ⟨xs, n', (f _ h5).trans h1, (f _ h6).trans h2, h3, h4, Nat.lt_of_lt_of_le h5 n, Nat.lt_of_lt_of_le h6 n, fun ww z => z.elim⟩, fun i h1 h2 => (f i (Nat.lt_trans h2 a)).trans (h.fr i h1 h2), h.hH, h.hc, h.le⟩
end
structure LI (σ0 : AH) (lo S H c p : Nat) (D : LD) (m : Loc) (σ : AH) (dm : List (Int × Int)) : Prop where
 md : m "data" = some (.d D.d)
 mp : m "places" = some (.d (.tuple (mks D.pl)))
 mm : m "made" = some (.r p)
 ms : m "store" = some (.r S)
 me : m "every" = some (.d (.list ((pts dm).map ptD)))
 ls : LS σ0 lo S H c σ dm
structure LB (dm : List (Int × Int)) (n : Nat) : Prop where
 ln : dm.length = n
 wi : Wi dm
 bx : ∀ (x : Nat) (p : Int × Int), x < 3 → dm[x]? = some p → 0 ≤ p.1 ∧ p.2 ≤ 1
 ok : Ok dm
theorem LB.snoc {dm : List (Int × Int)} {n : Nat} (h : LB dm n) {a b : Int} (h1 : -1 ≤ a) (h2 : a ≤ 1) (h3 : a ≤ b) (h4 : b ≤ a + 1) (h5 : n < 3 → 0 ≤ a ∧ b ≤ 1) : LB (dm ++ [(a, b)]) (n + 1) := by
 refine ⟨by rw [List.length_append, h.ln]; rfl, fun p hp => ?_, fun x p hx hp => ?_, fun p hp => ?_⟩
 ·rcases List.mem_append.mp hp with z | z
  ·exact h.wi p z
  ·cases List.mem_singleton.mp z; exact ⟨by show -2 ≤ a; lia, by show b ≤ 3; lia⟩
 ·by_cases z : x < dm.length
  ·rw [List.getElem?_append_left z] at hp
   exact h.bx x p hx hp
  ·rw [List.getElem?_append_right (by lia)] at hp
   have := h.ln
   rw [List.mem_singleton.mp (List.mem_of_getElem? hp)]
   exact h5 (by lia)
 ·rcases List.mem_append.mp hp with z | z
  ·exact h.ok p z
  ·cases List.mem_singleton.mp z; exact ⟨h3, h4⟩
theorem LB.box {dm : List (Int × Int)} (h : LB dm 5) : Bx dm := fun x hx => by
 have e := h.ln
 have hx5 : x < dm.length := by lia
 have z := List.getElem?_eq_getElem hx5
 exact ⟨_, z, h.bx x _ hx z⟩
theorem LB.at {dm : List (Int × Int)} {n : Nat} (h : LB dm n) {pt : List Int} (hp : Inb pt dm) (x : Nat) : -10 ≤ at0 pt x ∧ at0 pt x ≤ 10 := by
 by_cases z : x < pt.length
 ·have e := List.getElem?_eq_getElem z
  (refine x1_0 (get_lt hp.1.symm e) ?_; intro p hq)
  have a := hp.2 x _ p e hq
  have b := h.wi p (List.mem_of_getElem? hq)
  have : at0 pt x = pt[x] := by simp [at0, List.getD, e]
  rw [this]; lia
 ·have : at0 pt x = 0 := by simp [at0, List.getD, List.getElem?_eq_none (Nat.le_of_not_lt z)]
  rw [this]; decide
theorem fm_filter {α β : Type} {c : α → Bool} {e : α → β} : ∀ {xs : List α}, xs.filterMap (fun a => if c a = true then some (e a) else none) = (xs.filter c).map e
 | [] => rfl
 | a :: r => by
  by_cases h : c a = true
  ·rw [List.filter_cons_of_pos h, List.map_cons, ← fm_filter]
   exact List.filterMap_cons_some (if_pos h)
  ·rw [List.filter_cons_of_neg h, ← fm_filter]
   exact List.filterMap_cons_none (if_neg h)
theorem pts_snoc {p : Int × Int} : ∀ {dm : List (Int × Int)}, pts (dm ++ [p]) = (pts dm).flatMap fun t => (vl p).map fun v => t ++ [v]
 | [] => by
  show (vl p).flatMap _ = _
  simp only [pts, List.flatMap_cons, List.flatMap_nil, List.append_nil, List.map_cons, List.map_nil, List.nil_append]
  generalize vl p = l
  induction l with
  | nil => rfl
  | cons a l ih => simp [ih]
 | d :: r => by
  show (vl d).flatMap _ = ((vl d).flatMap _).flatMap _
  rw [show List.append r [p] = r ++ [p] from rfl, pts_snoc, List.flatMap_assoc]
  congr 1
  funext v
  rw [List.map_flatMap, List.flatMap_map]
  congr 1
  funext t
  rw [List.map_map]; rfl
theorem vl_range {a b : Int} (h1 : -2 ≤ a) (h2 : a ≤ b) (h3 : b ≤ a + 1) (h4 : b ≤ 3) : rangeD a (b + 1) = (vl (a, b)).map .int := by
 have e : b = a ∨ b = a + 1 := by lia
 have c : a = -2 ∨ a = -1 ∨ a = 0 ∨ a = 1 ∨ a = 2 ∨ a = 3 := by lia
 rcases e with rfl | rfl <;> rcases c with rfl | rfl | rfl | rfl | rfl | rfl <;> first | rfl | lia
theorem LD.shp {D : LD} : Shp 6 D.d := by
 have mk : ∀ l : List Nat, Shp 1 (.tuple (mks l)) := fun l => Shp.tuple fun d hd => by
  (refine x1_1 (List.mem_map.mp hd) ?_; intro x ww z4; obtain rfl := z4)
  exact Shp.int
 have st : ∀ b : Bool, ∀ x y : Str, Shp 0 (.str x) → Shp 0 (.str y) → Shp 0 (.str (if b = true then x else y)) := fun b x y h1 h2 => by cases b <;> assumption
 have S : ∀ s : Str, PyData.canLay0 (.str s) = true → Shp 0 (.str s) := fun s h => ⟨h, Nat.le_refl _⟩
 cases D with
 | clause ws us =>
  refine (Shp.tuple (n := 1) fun d hd => ?_).le (by decide)
  simp only [List.mem_cons, List.not_mem_nil, or_false] at hd
  rcases hd with rfl | rfl | rfl
  ·exact (S _ (by decide +kernel)).le (by decide)
  ·exact mk _
  ·exact mk _
 | conj all sm b =>
  refine (Shp.tuple (n := 1) fun d hd => ?_).le (by decide)
  simp only [List.mem_cons, List.not_mem_nil, or_false] at hd
  rcases hd with rfl | rfl | rfl
  ·exact (st all _ _ (S _ (by decide +kernel)) (S _ (by decide +kernel))).le (by decide)
  ·exact mk _
  ·exact Shp.int
 | xor a b c =>
  refine (Shp.tuple (n := 0) fun d hd => ?_).le (by decide)
  simp only [List.mem_cons, List.not_mem_nil, or_false] at hd
  rcases hd with rfl | rfl | rfl | rfl
  ·exact S _ (by decide +kernel)
  all_goals exact Shp.int
 | row reif b kd as xs c =>
  refine (Shp.tuple (n := 5) fun d hd => ?_).le (by decide)
  simp only [List.mem_cons, List.not_mem_nil, or_false] at hd
  rcases hd with rfl | rfl | rfl
  ·exact (st reif _ _ (S _ (by decide +kernel)) (S _ (by decide +kernel))).le (by decide)
  ·exact Shp.int
  ·refine (Shp.tuple (n := 1) fun d hd => ?_).le (by decide)
   simp only [List.mem_cons, List.not_mem_nil, or_false] at hd
   rcases hd with rfl | rfl | rfl | rfl
   ·exact (S _ (by cases kd <;> decide +kernel)).le (by decide)
   ·exact Shp.tuple fun d hd => by
     (refine x1_1 (List.mem_map.mp hd) ?_; intro x ww z5; obtain rfl := z5)
     exact Shp.int
   ·exact mk _
   ·exact Shp.int
theorem LD.pl_lt {D : LD} (h : D.ok) : (∀ x, x ∈ D.pl → x < 5) ∧ D.pl.length ≤ 8 := by
 cases D with
 | clause ws us =>
  (refine x0_3 h ?_; clear h; intro h1 h2 h3 h4)
  refine ⟨fun x hx => ?_, by simp [LD.pl]; lia⟩
  rcases List.mem_append.mp hx with z | z
  ·have := h1 x z; lia
  ·have := h2 x z; lia
 | conj all sm b =>
  (refine x0_2 h ?_; clear h; intro h1 h2 h3)
  refine ⟨fun x hx => ?_, by simp [LD.pl]; lia⟩
  rcases List.mem_append.mp hx with z | z
  ·have := h1 x z; lia
  ·cases List.mem_singleton.mp z; lia
 | xor a b c =>
  (refine x0_2 h ?_; clear h; intro h1 h2 h3)
  refine ⟨fun x hx => ?_, by simp [LD.pl]⟩
  simp only [LD.pl, List.mem_cons, List.not_mem_nil, or_false] at hx
  rcases hx with rfl | rfl | rfl <;> lia
 | row reif b kd as xs c =>
  (refine x0_4 h ?_; clear h; intro h1 h2 h3 h4 h5)
  refine ⟨fun x hx => ?_, by simp [LD.pl]; lia⟩
  rcases List.mem_cons.mp hx with z | z
  ·lia
  ·exact h2 x z
end
section
set_option tactic.hygienic false
section
variable (g : G KK) {A : Nat → Prop} {σ : AH} {H c k : Nat}
theorem c_law_is_made {Q : AV → AH → Prop} (h : Hd A σ H c) (q : ∀ σ', Q (.d (.bool true)) σ') : CodeW g (k + 40) (.ref 673) [.r H] σ Q := by
 have hH : H < σ.next ∧ c < σ.next := by obtain ⟨xs, n, h1, h2, h3, h4, h5, h6, h7⟩ := h; exact ⟨h5, h6⟩
 refine cf1 "hand" (by kernel_rfl) (by kernel_rfl) (fun ww => rfl) rfl ?_
 refine aa ?_
 refine StW.unp rfl (isVars (by kernel_rfl)) (by intro env; rfl) (by walk_at "he") ?_
 refine TpW.data ?_
 refine ec .law_data (by kernel_rfl) (fun ww => rfl) (zc rfl (zn (h := sn ?_)))
 refine (c_law_data g h fun d σ1 p h1 f1 n1 => ?_).call
 (refine x1_1 p ?_; clear p; intro D ok z1; obtain rfl := z1)
 refine ⟨_, rfl, rfl, ?_⟩
 dsimp only [namesOf, List.map, uA]
 refine aa ?_
 refine StW.unp rfl (isVars (by kernel_rfl)) (by intro env; rfl) (by walk_at "he") ?_
 refine TpW.display ?_
 refine zc rfl (ec .logic_rule (by kernel_rfl) (fun ww => rfl) (zc rfl (zn (h := sn ?_))))
 refine (c_logic_rule g ok fun σ2 p M n2 f2 => ?_).call
 refine zc rfl (ec .Store (by kernel_rfl) (fun ww => rfl) (sn ?_))
 refine (CodeW.new (fI := 108) (by kernel_rfl) (by kernel_rfl) (by kernel_rfl) (c_Store_init g fun σ3 st3 f3 => ⟨rfl, ?_⟩)).call
 refine zc rfl ?_
 refine EvW.lst ?_
 refine zc rfl (ai (sn ?_))
 walk_at "frz"
 refine sn ?_
 walk_at "frz"
 refine sn ?_
 refine ⟨by simp, rfl, ?_⟩
 dsimp only [namesOf, List.map, uA]
 obtain ⟨hlo, hhi, C, fs, fp, ft, fc, e0, mp, mt, mc, ao, kp, kt, kc, ks, PC, TC, CC⟩ := id M
 have l0 : σ.next ≤ σ1.next := n1
 have own : ∀ i, σ1.next ≤ i ∧ i < σ2.next → i < σ2.next := fun i h => h.2
 have e3 : σ3.get p = some (.inst C fs) := (f3 p hhi).trans e0
 refine aa (ri (rt_or (ad rfl ?_)))
 refine em_at mt (by intro env; rfl) (by intro env; rfl) ?_
 refine zn (h := zm (q := sn ?_))
 refine (TC (k + 19) σ3 _ (fun i hi => f3 i hi.2) ?_).call
 refine zn (h := ?_)
 refine CmpW.neSelf rfl rfl LD.shp (by decide) ?_
 refine ab (jf (rt_or (ad rfl (ae (fun ww => rfl) (zn (h := ?_))))))
 refine at_of e3 ks mt.1 ao ?_
 refine zn (h := ?_)
 refine CmpW.neSelf rfl rfl (Shp.tuple (n := 0) fun d hd => ?_) (by decide) ?_
 ·(refine x1_1 (List.mem_map.mp hd) ?_; intro x ww z2; obtain rfl := z2)
  exact Shp.int
 refine ab (jf (TsW.or0 (jf (xn (aa ?_)))))
 have L0 : LS σ2 σ1.next σ2.next H c σ3 [] := by
  obtain ⟨xs, n, a1, a2, a3, a4, a5, a6, a7⟩ := h1
  exact ⟨st3, ⟨xs, n, (f3 H (by lia)).trans ((f2 H a5).trans a1), (f3 c (by lia)).trans ((f2 c a6).trans a2), a3, a4, by have := st3.snx; lia, by have := st3.snx; lia, fun ww z => z.elim⟩, fun i ww h => f3 i h, a5, a6, by lia⟩
 refine rw_for (noFree (by kernel_rfl)) (fun ww ww => rfl) ?_
 refine SrcW.range1 (gb_range (by kernel_rfl)) (by intro env; rfl) ?_
 refine ei ?_
 refine ⟨_, rfl, by decide, by decide, ?_⟩
 rw [show rangeD 0 5 = (List.range 5).map (fun x : Nat => PyData.int (x : Nat)) from rfl]
 refine ForL.over (fun x : Nat => .int (x : Nat)) (List.range 5) (fun done m σ' => ∃ dm, m "hand" = some (.r H) ∧ LI σ2 σ1.next σ2.next H c p D m σ' dm ∧ LB dm done.length) ?_ ?_ ?_
 ·exact ⟨[], by walk_at "lk", ⟨by walk_at "lk", by walk_at "lk", by walk_at "lk", by walk_at "lk", by rw [show (pts []).map ptD = [PyData.tuple []] from rfl]; walk_at "lk", L0⟩, ⟨rfl, fun ww z => (by cases z), fun ww ww ww z => (by cases z), fun ww z => (by cases z)⟩⟩
 ·(intro m; intro σ'; intro z2r; (refine x1_2 z2r ?_; clear z2r; intro dm mh L B))
  rw [List.length_range] at B
  have hpl : (pts dm).length ≤ 32 := Nat.le_trans (pts_len B.ok) (by rw [B.ln]; decide)
  have hB := B.box
  have hI : ∀ pt, pt ∈ pts dm → Inb pt dm := fun pt z => (mem_pts B.wi).mp z
  refine aa ?_
  refine rw_for (noFree (by kernel_rfl)) (fun ww ww => rfl) ?_
  refine src_of ?_
  have me := L.me
  refine zn (h := ?_)
  refine ⟨_, .inl rfl, ?_⟩
  refine ForL.over ptD (pts dm) (fun ww m σ' => LI σ2 σ1.next σ2.next H c p D m σ' dm) L ?_ ?_
  ·intro m σ4 L4
   obtain ⟨md, mp', mm, ms, me, ls⟩ := L4
   have hlt : ∀ x, x ∈ List.range 5 → ∃ p, dm[x]? = some p ∧ (PyData.list ((vl (dm.getD x (0, 0))).map .int)) = .list ((vl p).map .int) := fun x hx => by
    have hx5 : x < dm.length := by rw [B.ln]; exact List.mem_range.mp hx
    exact ⟨_, List.getElem?_eq_getElem hx5, by rw [List.getD, List.getElem?_eq_getElem hx5]; rfl⟩
   (refine x3_0 ls.st.get ?_; intro ww ww ww hs4)
   refine aa ?_
   refine rw_comp (by walk_at "he") (by kernel_rfl) (noFree (by kernel_rfl)) (by kernel_rfl) (fun ww ww => rfl) ?_
   refine SrcW.range1 (gb_range (by kernel_rfl)) (by intro env; rfl) ?_
   refine ei ?_
   refine ⟨_, rfl, by decide, by decide, ?_⟩
   rw [show rangeD 0 5 = (List.range 5).map (fun x : Nat => PyData.int (x : Nat)) from rfl]
   refine cF (fun x : Nat => .int (x : Nat)) (fun x => some (.list ((vl (dm.getD x (0, 0))).map .int))) (fun m => m "store" = some (.r σ2.next)) (List.range 5) (by simp) (by walk_at "lk") ?_ ?_
   ·intro x hx m hm
    (refine x1_1 (hlt x hx) ?_; intro p hp e)
    refine aN (by kernel_rfl) (IfsW.nil (jt (ec .law_open (by kernel_rfl) (fun ww => rfl) (zc rfl (zn (h := zc rfl (zn (h := sn ?_))))))))
    exact (c_law_open g ls.st hp ⟨rfl, by walk_at "lk", _, rfl, by rw [e]⟩).call
   intro m1 ww
   rw [List.nil_append, fmS]
   generalize hbg : (List.range 5).map (fun x => PyData.list ((vl (dm.getD x (0, 0))).map .int)) = bg
   have sbg : Shp 2 (.list bg) := Shp.list fun d hd => by
    rw [← hbg] at hd
    (refine x1_1 (List.mem_map.mp hd) ?_; intro x ww z3; obtain rfl := z3)
    exact Shp.list (n := 0) fun d hd => by
     (refine x1_1 (List.mem_map.mp hd) ?_; intro y ww z4; obtain rfl := z4)
     exact Shp.int
   refine aa (ri (ad rfl (ec .law_sought (by kernel_rfl) (fun ww => rfl) (zc rfl (zn (h := zc rfl (zn (h := zc rfl (ai (sn ?_))))))))))
   walk_at "frz"
   refine sn ?_
   refine (lift20 (k := k + 39) (c_law_sought g (own := fun i => σ1.next ≤ i ∧ i < σ2.next) mp kp ⟨hlo, hhi⟩ e0 PC 5 (k + 12) (fun i => i < σ2.next) σ4 σ2.next ⟨dm, [], [], false⟩ [] _ (fun i hi => hi.2) (fun i hi => ls.fr i hi.1 hi.2) ls.st B.ln hB B.wi rfl (fun i v z => by cases z) (fun z => by cases z) (by simp) fun σ5 ss5 L s5 f5 d5 t5 r5 fl5 hL => ?_) (by lia)).call
   refine rv_comp (by kernel_rfl) (fun ww ww => rfl) ?_
   refine src_of ?_
   refine zn (h := ?_)
   refine ⟨_, .inl rfl, ?_⟩
   refine cF ptD (fun pt => if PB D pt = true then some (ptD pt) else none) (fun m => m "data" = some (.d D.d)) (pts dm) (by simp; lia) (by walk_at "lk") ?_ ?_
   ·intro pt hpt m hm
    refine aN (by kernel_rfl) (IfsW.one (rt_plain (fun ww ww => rfl) (ec .law_lets (by kernel_rfl) (fun ww => rfl) (zc rfl (zn (h := zc rfl (zn (h := sn ?_))))))))
    refine (c_law_lets g ok ((hI pt hpt).1.trans B.ln) (fun x hx => hB.at hx (hI pt hpt)) (B.at (hI pt hpt)) fun b' eb' => ?_).call
    refine ab ?_
    cases b' with
    | true =>
     refine jt (zn (h := ?_))
     exact ⟨rfl, by walk_at "lk", _, rfl, if_pos (PB_iff.mpr (eb'.mp rfl))⟩
    | false =>
     refine jf ?_
     exact ⟨rfl, by walk_at "lk", if_neg fun z => Bool.false_ne_true (eb'.mpr (PB_iff.mp z))⟩
   intro m2 ww
   rw [List.nil_append, fm_filter]
   refine CmpW.neSelf (AsD.r hL) rfl (Shp.list (n := 1) fun d hd => ?_) (by decide) ?_
   ·(refine x1_1 (List.mem_map.mp hd) ?_; intro pt ww z5; obtain rfl := z5)
    exact Shp.tuple (n := 0) fun d hd => by
     (refine x1_1 (List.mem_map.mp hd) ?_; intro y ww z6; obtain rfl := z6)
     exact Shp.int
   (refine x3_0 s5.get ?_; intro ww ww ww hs5)
   refine ab (jf (xn (aa (ag (rv_and (rv_cmp rfl ?_))))))
   refine rv_comp (by kernel_rfl) (fun ww ww => rfl) ?_
   refine SrcW.range1 (gb_range (by kernel_rfl)) (by intro env; rfl) ?_
   refine ei ?_
   refine ⟨_, rfl, by decide, by decide, ?_⟩
   rw [show rangeD 0 5 = (List.range 5).map (fun x : Nat => PyData.int (x : Nat)) from rfl]
   refine cF (fun x : Nat => .int (x : Nat)) (fun x => some (.list ((vl (dm.getD x (0, 0))).map .int))) (fun m => m "store" = some (.r σ2.next)) (List.range 5) (by simp) (by walk_at "lk") ?_ ?_
   ·intro x hx m hm
    (refine x1_1 (hlt x hx) ?_; intro p hp e)
    refine aN (by kernel_rfl) (IfsW.nil (jt (ec .law_open (by kernel_rfl) (fun ww => rfl) (zc rfl (zn (h := zc rfl (zn (h := sn ?_))))))))
    exact (c_law_open g s5 (by rw [d5]; exact hp) ⟨rfl, by walk_at "lk", _, rfl, by rw [e]⟩).call
   intro m3 ww
   rw [List.nil_append, fmS, hbg]
   refine zn (h := ?_)
   refine CmpW.eqSelf rfl rfl sbg (by decide) ?_
   refine ab (jt (rv_and (rv_cmp rfl (em .depth (fun ww => rfl) (fun ww => rfl) (zn (h := zm (q := sn ?_)))))))
   refine (c_Store_depth g s5 (by rw [r5]; exact Nat.zero_le _) ?_).call
   refine ei (qi (ab ?_))
   rw [r5]
   refine jd rfl ?_
   refine EvW.and1 (rv_un (ae (fun ww => rfl) (zn (h := za (q := ru_not (ab ?_))))))
   cases hf : ss5.fail with
   | true => cases fl5 hf
   | false => exact q σ5
  ·intro done pt rest hdn m σ4 L4
   have hpt := hI pt (by rw [hdn]; simp)
   obtain ⟨md, mp', mm, ms, me, ls⟩ := L4
   have e4 : σ4.get p = some (.inst C fs) := (ls.fr p hlo hhi).trans e0
   have l5 : pt.length = 5 := hpt.1.trans B.ln
   (refine x0_1 (LD.pl_lt ok) ?_; intro pl1 pl2)
   have lS := ls.st.snx
   refine as_n (by kernel_rfl) (aa (ri (ad rfl ?_)))
   refine em_at mc (by intro env; rfl) (by intro env; rfl) ?_
   refine zn (h := zm (q := zc rfl (ec .tuple (by kernel_rfl) (fun ww => rfl) (zc rfl ?_))))
   refine rv_comp (by kernel_rfl) (fun ww ww => rfl) ?_
   refine src_of ?_
   refine zn (h := ?_)
   refine ⟨_, .inr rfl, ?_⟩
   refine cF (fun x : Nat => .int (x : Nat)) (fun x => some (.int (at0 pt x))) (fun m => m "point" = some (.d (ptD pt))) D.pl (by simp; lia) (by walk_at "lk") ?_ ?_
   ·intro x hx m hm
    have := pl1 x hx
    refine aN (by kernel_rfl) (IfsW.nil (jt (af (zn (h := zn (h := ?_))))))
    exact SubW.pt (by intro o i; rfl) (by lia) (by lia) ⟨rfl, by walk_at "lk", _, rfl, rfl⟩
   intro m' ww
   rw [List.nil_append, fmS, show D.pl.map (fun x => PyData.int (at0 pt x)) = (D.pl.map (at0 pt)).map .int by rw [List.map_map]; rfl]
   refine sn ?_
   refine cL rfl (by simp; lia) ?_
   refine sn ?_
   refine (CC (k + 19) σ4 (at0 pt) _ (fun i hi => ls.fr i hi.1 hi.2) (by lia) (B.at hpt) fun b σ5 eb f5 n5 => ?_).call
   refine ec .law_lets (by kernel_rfl) (fun ww => rfl) (zc rfl (zn (h := zc rfl (zn (h := sn ?_)))))
   refine (c_law_lets g ok l5 (fun x hx => hB.at hx hpt) (B.at hpt) fun b' eb' => ?_).call
   refine CmpW.isNotBool ?_
   rw [show (b != b') = false by rw [Bool.eq_iff_iff.mpr (eb.trans eb'.symm)]; exact bne_self_eq_false b']
   refine ab (jf (xn (xn ?_)))
   exact ⟨by walk_at "lk", by walk_at "lk", by walk_at "lk", by walk_at "lk", by walk_at "lk", ls.frame f5 n5⟩
 ·(intro done; intro a; intro rest; intro hdn; intro m; intro σ'; intro z6r; (refine x1_2 z6r ?_; clear z6r; intro dm mh L B))
  have hln := congrArg List.length hdn
  simp at hln
  have hae : done.length = a := by
   have e := congrArg (fun l => l[done.length]?) hdn
   simp only [List.getElem?_append_right (Nat.le_refl _), Nat.sub_self, List.getElem?_cons_zero, List.getElem?_range (show done.length < 5 by lia)] at e
   exact Option.some.inj e
  subst hae
  have hdl : done.length < 5 := by lia
  obtain ⟨md, mp', mm, ms, me, ls⟩ := L
  refine AsgW.name (.inl (by rfl)) ?_
  refine ExW.cons ?_
  refine rq (by kernel_rfl) (by intro env; rfl) ?_
  refine EvW.mono (Q := fun a σ4 => ∃ v : Int, a = .d (.int v) ∧ LS σ2 σ1.next σ2.next H c σ4 dm ∧ -1 ≤ v ∧ v ≤ 1 ∧ (done.length < 3 → 0 ≤ v)) ?_ ?_
  ·refine rv_ifx (ad rfl (zn (h := ei (CmpW.lt (ab ?_)))))
   by_cases hx : ((done.length : Nat) : Int) < 3
   ·refine jd hx ?_
    refine ec .law_take (by kernel_rfl) (fun ww => rfl) (zc rfl (zn (h := zc rfl (ei (sn ?_)))))
    exact (ls.take g (b := 2) (by decide) fun r σ4 hr L2 => ⟨_, rfl, L2, by lia, by lia, by lia⟩).call
   ·refine jn hx ?_
    refine aj (ec .law_take (by kernel_rfl) (fun ww => rfl) (zc rfl (zn (h := zc rfl (ei (sn ?_))))))
    refine (ls.take g (b := 3) (by decide) fun r σ4 hr L2 => ?_).call
    refine ei (BinW.sub ?_)
    exact ⟨_, rfl, L2, by lia, by lia, by lia⟩
  ·(intro ww; intro σ4; intro z2r; (refine x1_1 z2r ?_; clear z2r; intro v z7 z8; obtain rfl := z7; refine x0_3 z8 ?_; clear z8; intro L4 v1 v2 v3))
   refine ExW.cons ?_
   refine rq (by kernel_rfl) (by intro env; rfl) ?_
   refine EvW.mono (Q := fun a σ5 => ∃ w : Int, a = .d (.int w) ∧ LS σ2 σ1.next σ2.next H c σ5 dm ∧ v ≤ w ∧ w ≤ v + 1 ∧ (done.length < 3 → w ≤ 1)) ?_ ?_
   ·refine ec .min (by kernel_rfl) (fun ww => rfl) (zc rfl (aj (zn (h := ec .law_take (by kernel_rfl) (fun ww => rfl) (zc rfl (zn (h := zc rfl (ei (sn ?_)))))))))
    refine (L4.take g (b := 3) (by decide) fun r σ5 hr L5 => ?_).call
    refine BinW.add (zc rfl (rv_ifx (ad rfl (zn (h := ei (CmpW.lt (ab ?_)))))))
    by_cases hx : ((done.length : Nat) : Int) < 3
    ·refine jd hx ?_
     refine ei (sn (CallW.min2 ?_))
     exact ⟨_, rfl, L5, by lia, by lia, by lia⟩
    ·refine jn hx ?_
     refine aj (zn (h := ei (BinW.add (sn (CallW.min2 ?_)))))
     exact ⟨_, rfl, L5, by lia, by lia, by lia⟩
   ·(intro ww; intro σ5; intro z2r; (refine x1_1 z2r ?_; clear z2r; intro w z9 z10; obtain rfl := z9; refine x0_3 z10 ?_; clear z10; intro L5 w1 w2 w3))
    (refine x3_0 L5.st.get ?_; intro ww ww ww hs5)
    refine aa (rw_expr (fun ww => rfl) (em .new_var (fun ww => rfl) (fun ww => rfl) (zn (h := zm (q := zc rfl (ai (zc rfl (ai (zc rfl (zn (h := zc rfl (zn (h := sn ?_)))))))))))))
    walk_at "frz"
    refine sn ?_
    walk_at "frz"
    refine sn ?_
    refine (L5.new_var g (by rw [B.ln]; exact hdl) ⟨w1, w2⟩ fun i σ6 L6 => ?_).call
    refine ls_of rfl (aa ?_)
    refine StW.compE2 (by intro env he; cases env; dsimp only at he; subst he; rfl) (by kernel_rfl) (noFree (by kernel_rfl)) (by kernel_rfl) (by intro env x; rfl) (by intro env x; rfl) ?_
    refine src_of ?_
    refine zn (h := ?_)
    refine ⟨_, .inl rfl, ?_⟩
    have hvl : (vl (v, w)).length ≤ 2 := vl_len w2
    have hpl : (pts dm).length ≤ 32 := Nat.le_trans (pts_len B.ok) (by rw [B.ln]; exact Nat.pow_le_pow_right (by decide) (Nat.le_of_lt hdl))
    refine CompL.flat ptD (fun t => ((vl (v, w)).map fun u => t ++ [u]).map ptD) (fun m => m "low" = some (.d (.int v)) ∧ m "high" = some (.d (.int w))) 2 (pts dm) (by simp; lia) (fun t ww => by simp; exact hvl) ⟨by walk_at "lk", by walk_at "lk"⟩ ?_ ?_
    ·intro t ht m ys hm hy R r
     (refine x0_1 hm ?_; clear hm; intro hm1 hm2)
     refine aN (by kernel_rfl) (IfsW.nil (jt ?_))
     refine Em.gen_i ?_
     refine SrcW.range2 (gb_range (by kernel_rfl)) (by intro env; rfl) ?_
     refine zn (h := aj (zn (h := ei (BinW.add ?_))))
     refine ⟨_, _, rfl, rfl, by lia, by lia, by lia, by lia, ?_⟩
     rw [vl_range (by lia) w1 w2 (by lia)]
     refine cF .int (fun u => some (ptD (t ++ [u]))) (fun m => m "point" = some (.d (ptD t)) ∧ m "low" = some (.d (.int v)) ∧ m "high" = some (.d (.int w))) (vl (v, w)) (by lia) ⟨by walk_at "lk", by walk_at "lk", by walk_at "lk"⟩ ?_ ?_
     ·intro u hu m hm
      (refine x0_2 hm ?_; clear hm; intro hm1 hm2 hm3)
      refine aN (by kernel_rfl) (IfsW.nil (jt (aj (zn (h := ai (zc rfl (zn (h := sn ?_))))))))
      walk_at "frz"
      have := ((mem_pts B.wi).mp ht).1
      have := B.ln
      refine BinW.cat (by simp; lia) ⟨rfl, ⟨by walk_at "lk", by walk_at "lk", by walk_at "lk"⟩, _, rfl, ?_⟩
      rw [show ptD (t ++ [u]) = .tuple (t.map .int ++ [.int u]) by simp [ptD]]
     ·intro m' hm'
      rw [fmS, show (vl (v, w)).map (fun u => ptD (t ++ [u])) = ((vl (v, w)).map fun u => t ++ [u]).map ptD by rw [List.map_map]; rfl]
      exact r m' hm'.2
    intro m' ww
    rw [List.nil_append, ← List.map_flatMap, ← pts_snoc]
    refine xn ?_
    refine ⟨dm ++ [(v, w)], by walk_at "lk", ⟨by walk_at "lk", by walk_at "lk", by walk_at "lk", by walk_at "lk", by walk_at "lk", L6⟩, ?_⟩
    rw [List.length_append]
    exact B.snoc v1 v2 w1 w2 fun z => ⟨v3 z, w3 z⟩
end
end
section
set_option tactic.hygienic false
section
variable (g : G KK) {σ : AH} {k : Nat}
theorem c_logic_none {s : Str} {r : List PyData} {Q : AV → AH → Prop} (hs : shaped (.str s) = true) (h1 : PyData.eqv (.str s) (.str "clause") = false) (h2 : PyData.eqv (.str s) (.str "and") = false) (h3 : PyData.eqv (.str s) (.str "or") = false) (h4 : PyData.eqv (.str s) (.str "xor") = false)
  (h5 : PyData.eqv (.str s) (.str "reif") = false) (h6 : PyData.eqv (.str s) (.str "imp") = false) (hr : r.length ≤ 9) (q : Q (.d .none) σ) : CodeW g (k + 1) (.ref 632) [.d (.tuple (.str s :: r))] σ Q := by
 refine cf1 "told" (by kernel_rfl) (by kernel_rfl) (fun ww => rfl) rfl ?_
 refine ExW.cons ?_
 refine rq (by kernel_rfl) (by intro env; rfl) ?_
 refine af (zn (h := ei ?_))
 refine ak (by intro o i; rfl) (by lia) ?_
 refine aa (ri (ad rfl (zn (h := eS ?_))))
 refine CmpW.eqS false hs (by decide +kernel) h1 ?_
 refine ab (jf (xn (aa (ri (ad rfl (zn (h := eS ?_)))))))
 refine CmpW.eqS false hs (by decide +kernel) h2 ?_
 refine ab (jf (xn (aa (ri (ad rfl (zn (h := eS ?_)))))))
 refine CmpW.eqS false hs (by decide +kernel) h3 ?_
 refine ab (jf (xn (aa (ri (ad rfl (zn (h := eS ?_)))))))
 refine CmpW.eqS false hs (by decide +kernel) h4 ?_
 refine ab (jf (xn (aa (ri (ad rfl (zn (h := eS ?_)))))))
 refine CmpW.eqS false hs (by decide +kernel) h5 ?_
 refine ab (jf (xn (aa (ag (rv_ifx (ad rfl (zn (h := eS ?_))))))))
 refine CmpW.eqS false hs (by decide +kernel) h6 ?_
 refine ab (jf (EvW.none ?_))
 exact q
theorem law_said : LawSaid := by
 intro g ns σ hl
 refine cf1 (k := 199) "script" (by kernel_rfl) (by kernel_rfl) (fun ww => rfl) rfl ?_
 refine aa (rq (by kernel_rfl) (fun ww => rfl) ?_)
 refine EvW.dictS (by kernel_rfl) (by kernel_rfl) (by simp) (by simp) ?_
 refine PrW.cons ?_
 refine eS (ec .list (by kernel_rfl) (fun ww => rfl) (zc ?_ (EvW.frontL (zn (h := ei ?_)))))
 exact rfl
 refine ⟨_, 50, rfl, by simp; lia, rfl, ?_⟩
 refine sn ?_
 refine CallW.listL (AsD.r gP) (by simp; lia) ?_
 refine PrW.cons ?_
 refine eS (ec .len (by kernel_rfl) (fun ww => rfl) (zc ?_ (zn (h := sn ?_))))
 exact rfl
 refine CallW.lenL rfl (by simp; lia) ?_
 refine PrW.nil ⟨_, rfl, _, rfl, (show List.Nodup [("cells" : Str), "last"] by decide +kernel), ?_⟩
 refine aa (ri (rt_not (rt_plain (fun ww ww => rfl) (ec .law_is_made (by kernel_rfl) (fun ww => rfl) (zc ?_ (zn (h := sn ?_)))))))
 exact rfl
 refine (c_law_is_made g (k := 159) (c := σ.next + 1) (A := fun ww => False) ⟨⟨ns.take 50, _, gP, al (Nat.lt_succ_self _) ?_, by simp; lia, Nat.ne_of_lt (Nat.lt_succ_self _), Nat.lt_succ_self _, Nat.lt_succ_of_lt (Nat.lt_succ_self _), fun ww z => z.elim⟩⟩ fun σ1 => ?_).call
 ·rw [List.map_take]; exact gP
 refine ab ?_
 refine jf ?_
 refine xn (aa ?_)
 with_reducible refine' rw_for ?h1 ?h2 ?_
 case h1 => exact noFree (by kernel_rfl)
 case h2 => intro env x; rfl
 refine src_of ?_
 with_reducible refine ai ?_
 with_reducible refine zc ?_ ?_
 exact rfl
 with_reducible refine ai ?_
 with_reducible refine zc ?_ ?_
 exact rfl
 with_reducible refine eS ?_
 with_reducible refine zc ?_ ?_
 exact rfl
 with_reducible refine ei ?_
 with_reducible refine zc ?_ ?_
 exact rfl
 with_reducible refine ei ?_
 with_reducible refine sn ?_
 walk_at "frz"
 with_reducible refine zc ?_ ?_
 exact rfl
 with_reducible refine ai ?_
 with_reducible refine zc ?_ ?_
 exact rfl
 with_reducible refine eS ?_
 with_reducible refine zc ?_ ?_
 exact rfl
 with_reducible refine ai ?_
 with_reducible refine zc ?_ ?_
 exact rfl
 with_reducible refine ei ?_
 with_reducible refine sn ?_
 walk_at "frz"
 with_reducible refine zc ?_ ?_
 exact rfl
 with_reducible refine ei ?_
 with_reducible refine zc ?_ ?_
 exact rfl
 with_reducible refine ei ?_
 with_reducible refine zc ?_ ?_
 exact rfl
 with_reducible refine ai ?_
 with_reducible refine zc ?_ ?_
 exact rfl
 with_reducible refine ai ?_
 with_reducible refine zc ?_ ?_
 exact rfl
 with_reducible refine ei ?_
 with_reducible refine sn ?_
 walk_at "frz"
 with_reducible refine sn ?_
 walk_at "frz"
 with_reducible refine zc ?_ ?_
 exact rfl
 with_reducible refine ei ?_
 with_reducible refine zc ?_ ?_
 exact rfl
 with_reducible refine ai ?_
 with_reducible refine zc ?_ ?_
 exact rfl
 with_reducible refine ei ?_
 with_reducible refine sn ?_
 walk_at "frz"
 with_reducible refine sn ?_
 walk_at "frz"
 with_reducible refine zc ?_ ?_
 exact rfl
 with_reducible refine ai ?_
 with_reducible refine zc ?_ ?_
 exact rfl
 with_reducible refine eS ?_
 with_reducible refine zc ?_ ?_
 exact rfl
 with_reducible refine ai ?_
 with_reducible refine zc ?_ ?_
 exact rfl
 with_reducible refine ei ?_
 with_reducible refine zc ?_ ?_
 exact rfl
 with_reducible refine ei ?_
 with_reducible refine sn ?_
 walk_at "frz"
 with_reducible refine zc ?_ ?_
 exact rfl
 with_reducible refine ei ?_
 with_reducible refine sn ?_
 walk_at "frz"
 with_reducible refine zc ?_ ?_
 exact rfl
 with_reducible refine ai ?_
 with_reducible refine zc ?_ ?_
 exact rfl
 with_reducible refine eS ?_
 with_reducible refine zc ?_ ?_
 exact rfl
 with_reducible refine ai ?_
 with_reducible refine zc ?_ ?_
 exact rfl
 with_reducible refine ei ?_
 with_reducible refine sn ?_
 walk_at "frz"
 with_reducible refine zc ?_ ?_
 exact rfl
 with_reducible refine ai ?_
 with_reducible refine zc ?_ ?_
 exact rfl
 with_reducible refine ei ?_
 with_reducible refine sn ?_
 walk_at "frz"
 with_reducible refine zc ?_ ?_
 exact rfl
 with_reducible refine ei ?_
 with_reducible refine sn ?_
 walk_at "frz"
 with_reducible refine zc ?_ ?_
 exact rfl
 with_reducible refine ai ?_
 with_reducible refine zc ?_ ?_
 exact rfl
 with_reducible refine eS ?_
 with_reducible refine zc ?_ ?_
 exact rfl
 with_reducible refine ai ?_
 with_reducible refine zc ?_ ?_
 exact rfl
 with_reducible refine ei ?_
 with_reducible refine zc ?_ ?_
 exact rfl
 with_reducible refine ei ?_
 with_reducible refine sn ?_
 walk_at "frz"
 with_reducible refine zc ?_ ?_
 exact rfl
 with_reducible refine ei ?_
 with_reducible refine sn ?_
 walk_at "frz"
 with_reducible refine sn ?_
 walk_at "frz"
 refine ⟨_, .inr rfl, ?_⟩
 iterate 5
  refine rf_cons (as_n (by kernel_rfl) (aa (ri (ad rfl (ec .logic_rule (by kernel_rfl) (fun ww => rfl) (zc ?_ (zn (h := sn ?_))))))))
  exact rfl
  refine (c_logic_none g (k := 198) (by decide +kernel) (by decide +kernel) (by decide +kernel) (by decide +kernel) (by decide +kernel) (by decide +kernel) (by decide +kernel) (Nat.le_of_ble_eq_true rfl) ?_).call
  refine EvW.none (CmpW.isNN_n (ab (jf (xn (xn ?_)))))
 refine ForL.nil (aa (ag (EvW.bool ?_)))
 exact rfl
theorem law_holds : PySem.Challenge.rw_ok0092_01.Holds := holds_of law_said
end
end
end Mine
theorem PySem.Challenge.cw_ok0092_01_holds : PySem.Challenge.rw_ok0092_01.Holds :=
  Mine.law_holds
